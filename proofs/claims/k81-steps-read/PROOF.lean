import PyProof.Rows.All
import Wide.All
import OpenK.AllK
import Wide.FinOn
import PyProof.EqAt
import PyProof.EqKinds
import PyProof.TupleCall
import HandS.ForMost
import HandS.Exc
import HandS.TryOnly
import HandS.ExcOwn
import HandS.WordsExc
import HandS.TupAny
import HandS.Wide
import HandS.IsInst
import HandS.RaiseMore
import HandS.TupLen
import HandS.Replace
import KE.KExcIs
import HandS.More
import HandS.Zip
import HandS.Flow
import HandS.ExcInit
import HandS.ExcField
import HandS.ExcValue
import HandS.ReplaceLit
import HandS.ReplaceDef
import PySem.Challenge.RW_doublerings_k81_steps_read
import HandS.ReplaceList
import HandS.Ends
import HandS.ExcIs
set_option Elab.async false
set_option linter.all false
set_option maxRecDepth 100000
set_option maxHeartbeats 8000000
/-! DA: values as plain data over the hand layer: data D, what stands for it in a heap (Rep, Own), how heaps go on (Evo), environments (EOk). -/
namespace DL
open PySem PySem.Spec PyProof.Rows L2

abbrev ASet := Addr → Prop
/-- whose a list is: a variable's own (it may be changed), nobody's (it stays as it is), one of the module or the script -/
inductive Ow where | o | f | k
  deriving DecidableEq
inductive D where
  | non | bl (b : Bool) | int (i : Int) | str (s : Str) | ob (a : Addr) | ty (n : String)
  | tup (l : List D) | lst (o : Ow) (l : List D)
  | dK (o : Bool) (l : List (Key × D)) | dT (o : Bool) (l : List (List Key × D))
  | ins (C : Addr) (l : List (Str × D)) | nst (l : List D) | nK (l : List (Key × D))
  | exn (C : Addr) (l : List (Str × D))
abbrev DEnv := List (Option D)

/-- an exception's object of the class at C, its own dict at d -/
def excAt (a C : Addr) (d : Option Addr) : HO := .ext fun h => ∃ oe vs, h.get? a = some oe ∧ oe.cls = .ref C ∧ oe.dict = d ∧ oe.data = .fields vs

section
variable (K : PySem.W.Frag) (F : Hp)
mutual
/-- data that stays as it is -/
def Rep : D → V → Prop
  | .non, v => v = .non
  | .bl b, v => v = .bl b
  | .int i, v => v = .int i
  | .str s, v => v = .str s
  | .ob a, v => v = .ref a
  | .ty n, v => v = .ty n
  | .tup l, v => ∃ a vs, v = .ref a ∧ SqT K F a vs ∧ RepL l vs
  | .lst o l, v => ∃ a vs, v = .ref a ∧ (match o with | .o => False | .f => F a = some (.lst vs) | .k => SqL K F a vs) ∧ RepL l vs
  | .dK o l, v => o = false ∧ ∃ a kvs, v = .ref a ∧ F a = some (.dK kvs) ∧ RepK l kvs
  | .dT o l, v => o = false ∧ ∃ a kvs, v = .ref a ∧ F a = some (.dT kvs) ∧ RepT l kvs
  | .exn C l, v => ∃ a d, v = .ref a ∧ F a = some (excAt a C d) ∧ (match d with | none => l = [] | some d => ∃ fs, F d = some (.xd fs) ∧ RepF l fs)
  | .ins _ _, _ => False
  | .nst _, _ => False
  | .nK _, _ => False
def RepL : List D → List V → Prop
  | [], vs => vs = []
  | d :: l, vs => ∃ v r, vs = v :: r ∧ Rep d v ∧ RepL l r
def RepK : List (Key × D) → List (Key × V) → Prop
  | [], vs => vs = []
  | p :: l, vs => ∃ v r, vs = (p.1, v) :: r ∧ RepKp p v ∧ RepK l r
def RepKp : Key × D → V → Prop
  | (_, d), v => Rep d v
def RepT : List (List Key × D) → List (List Key × V) → Prop
  | [], vs => vs = []
  | p :: l, vs => ∃ v r, vs = (p.1, v) :: r ∧ RepTp p v ∧ RepT l r
def RepTp : List Key × D → V → Prop
  | (_, d), v => Rep d v
def RepF : List (Str × D) → List (Str × V) → Prop
  | [], vs => vs = []
  | p :: l, vs => ∃ v r, vs = (p.1, v) :: r ∧ RepFp p v ∧ RepF l r
def RepFp : Str × D → V → Prop
  | (_, d), v => Rep d v
end
end
theorem repKp_eq {K : PySem.W.Frag} {F : Hp} (p : Key × D) (v : V) : RepKp K F p v = Rep K F p.2 v := by cases p; rfl
theorem repTp_eq {K : PySem.W.Frag} {F : Hp} (p : List Key × D) (v : V) : RepTp K F p v = Rep K F p.2 v := by cases p; rfl
theorem repFp_eq {K : PySem.W.Frag} {F : Hp} (p : Str × D) (v : V) : RepFp K F p v = Rep K F p.2 v := by cases p; rfl

abbrev Sub (F H : Hp) : Prop := ∀ a o, F a = some o → H a = some o
theorem sqL_sub {K : PySem.W.Frag} {F F' : Hp} {a : Addr} {xs : List V} (e : Sub F F') (h : SqL K F a xs) : SqL K F' a xs := by
  rcases h with (h | ⟨o, h⟩) | h
  · exact .inl (.inl (e _ _ h))
  · exact .inl (.inr ⟨o, e _ _ h⟩)
  · exact .inr h
theorem sqT_sub {K : PySem.W.Frag} {F F' : Hp} {a : Addr} {xs : List V} (e : Sub F F') (h : SqT K F a xs) : SqT K F' a xs := by
  rcases h with (h | ⟨o, h⟩) | h
  · exact .inl (.inl (e _ _ h))
  · exact .inl (.inr ⟨o, e _ _ h⟩)
  · exact .inr h

mutual
theorem Rep.mono {K : PySem.W.Frag} {F F' : Hp} (e : Sub F F') : ∀ (d : D) (v : V), Rep K F d v → Rep K F' d v
  | .non, v, h => h
  | .bl b, v, h => h
  | .int i, v, h => h
  | .str s, v, h => h
  | .ob a, v, h => h
  | .ty n, v, h => h
  | .tup l, v, h => by
    obtain ⟨a, vs, h1, h2, h3⟩ := h
    exact ⟨a, vs, h1, sqT_sub e h2, RepL.mono e l vs h3⟩
  | .lst o l, v, h => by
    obtain ⟨a, vs, h1, h2, h3⟩ := h
    refine ⟨a, vs, h1, ?_, RepL.mono e l vs h3⟩
    cases o with
    | o => exact h2
    | f => exact e _ _ h2
    | k => exact sqL_sub e h2
  | .dK o l, v, h => by
    obtain ⟨h0, a, kvs, h1, h2, h3⟩ := h
    exact ⟨h0, a, kvs, h1, e _ _ h2, RepK.mono e l kvs h3⟩
  | .dT o l, v, h => by
    obtain ⟨h0, a, kvs, h1, h2, h3⟩ := h
    exact ⟨h0, a, kvs, h1, e _ _ h2, RepT.mono e l kvs h3⟩
  | .exn C l, v, h => by
    obtain ⟨a, d, h1, h2, h3⟩ := h
    refine ⟨a, d, h1, e _ _ h2, ?_⟩
    cases d with
    | none => exact h3
    | some d =>
      obtain ⟨fs, h4, h5⟩ := h3
      exact ⟨fs, e _ _ h4, RepF.mono e l fs h5⟩
  | .ins _ _, _, h => h
  | .nst _, _, h => h
  | .nK _, _, h => h
theorem RepL.mono {K : PySem.W.Frag} {F F' : Hp} (e : Sub F F') : ∀ (l : List D) (vs : List V), RepL K F l vs → RepL K F' l vs
  | [], vs, h => h
  | d :: l, vs, h => by
    obtain ⟨v, r, h1, h2, h3⟩ := h
    exact ⟨v, r, h1, Rep.mono e d v h2, RepL.mono e l r h3⟩
theorem RepK.mono {K : PySem.W.Frag} {F F' : Hp} (e : Sub F F') : ∀ (l : List (Key × D)) (vs : List (Key × V)), RepK K F l vs → RepK K F' l vs
  | [], vs, h => h
  | p :: l, vs, h => by
    obtain ⟨v, r, h1, h2, h3⟩ := h
    exact ⟨v, r, h1, RepKp.mono e p v h2, RepK.mono e l r h3⟩
theorem RepKp.mono {K : PySem.W.Frag} {F F' : Hp} (e : Sub F F') : ∀ (p : Key × D) (v : V), RepKp K F p v → RepKp K F' p v
  | (_, d), v, h => Rep.mono e d v h
theorem RepT.mono {K : PySem.W.Frag} {F F' : Hp} (e : Sub F F') : ∀ (l : List (List Key × D)) (vs : List (List Key × V)), RepT K F l vs → RepT K F' l vs
  | [], vs, h => h
  | p :: l, vs, h => by
    obtain ⟨v, r, h1, h2, h3⟩ := h
    exact ⟨v, r, h1, RepTp.mono e p v h2, RepT.mono e l r h3⟩
theorem RepTp.mono {K : PySem.W.Frag} {F F' : Hp} (e : Sub F F') : ∀ (p : List Key × D) (v : V), RepTp K F p v → RepTp K F' p v
  | (_, d), v, h => Rep.mono e d v h
theorem RepF.mono {K : PySem.W.Frag} {F F' : Hp} (e : Sub F F') : ∀ (l : List (Str × D)) (vs : List (Str × V)), RepF K F l vs → RepF K F' l vs
  | [], vs, h => h
  | p :: l, vs, h => by
    obtain ⟨v, r, h1, h2, h3⟩ := h
    exact ⟨v, r, h1, RepFp.mono e p v h2, RepF.mono e l r h3⟩
theorem RepFp.mono {K : PySem.W.Frag} {F F' : Hp} (e : Sub F F') : ∀ (p : Str × D) (v : V), RepFp K F p v → RepFp K F' p v
  | (_, d), v, h => Rep.mono e d v h
end

abbrev Nil : ASet := fun _ => False
section
variable (K : PySem.W.Frag) (F H : Hp)
mutual
/-- v stands for d; fp are the objects that are its own -/
def Own : D → V → ASet → Prop
  | .lst .o l, v, fp => ∃ a vs, v = .ref a ∧ (fp = fun b => b = a) ∧ F a = none ∧ H a = some (.lst vs) ∧ RepL K F l vs
  | .dK true l, v, fp => ∃ a vs, v = .ref a ∧ (fp = fun b => b = a) ∧ F a = none ∧ H a = some (.dK vs) ∧ RepK K F l vs
  | .dT true l, v, fp => ∃ a vs, v = .ref a ∧ (fp = fun b => b = a) ∧ F a = none ∧ H a = some (.dT vs) ∧ RepT K F l vs
  | .ins C l, v, fp => ∃ a dx vs f, v = .ref a ∧ (fp = fun b => b = a ∨ f b) ∧ F a = none ∧ H a = some (.ins C dx vs) ∧ ¬ f a ∧ OwnF l vs f
  | .nst l, v, fp => ∃ a vs f, v = .ref a ∧ (fp = fun b => b = a ∨ f b) ∧ F a = none ∧ H a = some (.lst vs) ∧ ¬ f a ∧ OwnL l vs f
  | .nK l, v, fp => ∃ a vs f, v = .ref a ∧ (fp = fun b => b = a ∨ f b) ∧ F a = none ∧ H a = some (.dK vs) ∧ ¬ f a ∧ OwnK l vs f
  | .non, v, fp => fp = Nil ∧ Rep K F .non v
  | .bl b, v, fp => fp = Nil ∧ Rep K F (.bl b) v
  | .int i, v, fp => fp = Nil ∧ Rep K F (.int i) v
  | .str s, v, fp => fp = Nil ∧ Rep K F (.str s) v
  | .ob a, v, fp => fp = Nil ∧ Rep K F (.ob a) v
  | .ty n, v, fp => fp = Nil ∧ Rep K F (.ty n) v
  | .tup l, v, fp => fp = Nil ∧ Rep K F (.tup l) v
  | .lst .f l, v, fp => fp = Nil ∧ Rep K F (.lst .f l) v
  | .lst .k l, v, fp => fp = Nil ∧ Rep K F (.lst .k l) v
  | .dK false l, v, fp => fp = Nil ∧ Rep K F (.dK false l) v
  | .dT false l, v, fp => fp = Nil ∧ Rep K F (.dT false l) v
  | .exn C l, v, fp => fp = Nil ∧ Rep K F (.exn C l) v
def OwnL : List D → List V → ASet → Prop
  | [], vs, fp => vs = [] ∧ fp = Nil
  | d :: l, vs, fp => ∃ v r f g, vs = v :: r ∧ (fp = fun b => f b ∨ g b) ∧ (∀ b, f b → g b → False) ∧ Own d v f ∧ OwnL l r g
def OwnK : List (Key × D) → List (Key × V) → ASet → Prop
  | [], vs, fp => vs = [] ∧ fp = Nil
  | p :: l, vs, fp => ∃ v r f g, vs = (p.1, v) :: r ∧ (fp = fun b => f b ∨ g b) ∧ (∀ b, f b → g b → False) ∧ OwnKp p v f ∧ OwnK l r g
def OwnKp : Key × D → V → ASet → Prop
  | (_, d), v, f => Own d v f
def OwnF : List (Str × D) → List (Str × V) → ASet → Prop
  | [], vs, fp => vs = [] ∧ fp = Nil
  | p :: l, vs, fp => ∃ v r f g, vs = (p.1, v) :: r ∧ (fp = fun b => f b ∨ g b) ∧ (∀ b, f b → g b → False) ∧ OwnFp p v f ∧ OwnF l r g
def OwnFp : Str × D → V → ASet → Prop
  | (_, d), v, f => Own d v f
end
end
/-- nothing of it may be changed -/
def D.fz : D → Bool
  | .lst .o _ => false
  | .dK true _ => false
  | .dT true _ => false
  | .ins _ _ => false
  | .nst _ => false
  | .nK _ => false
  | _ => true

theorem own_fz {K : PySem.W.Frag} {F H : Hp} {d : D} {v : V} {fp : ASet} (z : d.fz = true) : Own K F H d v fp ↔ fp = Nil ∧ Rep K F d v := by
  cases d with
  | lst o l => cases o with
    | o => cases z
    | f => exact Iff.rfl
    | k => exact Iff.rfl
  | dK o l => cases o with
    | true => cases z
    | false => exact Iff.rfl
  | dT o l => cases o with
    | true => cases z
    | false => exact Iff.rfl
  | ins _ _ => cases z
  | nst _ => cases z
  | nK _ => cases z
  | _ => exact Iff.rfl

mutual
theorem Own.trk {K : PySem.W.Frag} {F H : Hp} : ∀ (d : D) (v : V) (fp : ASet), Own K F H d v fp → ∀ a, fp a → F a = none ∧ ∃ o, H a = some o
  | .lst .o l, v, fp, h => by
    obtain ⟨a, vs, _, rfl, h1, h2, _⟩ := h
    rintro b rfl
    exact ⟨h1, _, h2⟩
  | .dK true l, v, fp, h => by
    obtain ⟨a, vs, _, rfl, h1, h2, _⟩ := h
    rintro b rfl
    exact ⟨h1, _, h2⟩
  | .dT true l, v, fp, h => by
    obtain ⟨a, vs, _, rfl, h1, h2, _⟩ := h
    rintro b rfl
    exact ⟨h1, _, h2⟩
  | .ins C l, v, fp, h => by
    obtain ⟨a, dx, vs, f, _, rfl, h1, h2, _, h3⟩ := h
    rintro b (rfl | hb)
    · exact ⟨h1, _, h2⟩
    · exact OwnF.trk l vs f h3 b hb
  | .nst l, v, fp, h => by
    obtain ⟨a, vs, f, _, rfl, h1, h2, _, h3⟩ := h
    rintro b (rfl | hb)
    · exact ⟨h1, _, h2⟩
    · exact OwnL.trk l vs f h3 b hb
  | .nK l, v, fp, h => by
    obtain ⟨a, vs, f, _, rfl, h1, h2, _, h3⟩ := h
    rintro b (rfl | hb)
    · exact ⟨h1, _, h2⟩
    · exact OwnK.trk l vs f h3 b hb
  | .non, v, fp, h => fun b hb => by rw [h.1] at hb; exact hb.elim
  | .bl _, v, fp, h => fun b hb => by rw [h.1] at hb; exact hb.elim
  | .int _, v, fp, h => fun b hb => by rw [h.1] at hb; exact hb.elim
  | .str _, v, fp, h => fun b hb => by rw [h.1] at hb; exact hb.elim
  | .ob _, v, fp, h => fun b hb => by rw [h.1] at hb; exact hb.elim
  | .ty _, v, fp, h => fun b hb => by rw [h.1] at hb; exact hb.elim
  | .tup _, v, fp, h => fun b hb => by rw [h.1] at hb; exact hb.elim
  | .lst .f _, v, fp, h => fun b hb => by rw [h.1] at hb; exact hb.elim
  | .lst .k _, v, fp, h => fun b hb => by rw [h.1] at hb; exact hb.elim
  | .dK false _, v, fp, h => fun b hb => by rw [h.1] at hb; exact hb.elim
  | .dT false _, v, fp, h => fun b hb => by rw [h.1] at hb; exact hb.elim
  | .exn _ _, v, fp, h => fun b hb => by rw [h.1] at hb; exact hb.elim
theorem OwnL.trk {K : PySem.W.Frag} {F H : Hp} : ∀ (l : List D) (vs : List V) (fp : ASet), OwnL K F H l vs fp → ∀ a, fp a → F a = none ∧ ∃ o, H a = some o
  | [], vs, fp, h => fun b hb => by rw [h.2] at hb; exact hb.elim
  | d :: l, vs, fp, h => by
    obtain ⟨v, r, f, g, _, rfl, _, h1, h2⟩ := h
    rintro b (hb | hb)
    · exact Own.trk d v f h1 b hb
    · exact OwnL.trk l r g h2 b hb
theorem OwnK.trk {K : PySem.W.Frag} {F H : Hp} : ∀ (l : List (Key × D)) (vs : List (Key × V)) (fp : ASet), OwnK K F H l vs fp → ∀ a, fp a → F a = none ∧ ∃ o, H a = some o
  | [], vs, fp, h => fun b hb => by rw [h.2] at hb; exact hb.elim
  | d :: l, vs, fp, h => by
    obtain ⟨v, r, f, g, _, rfl, _, h1, h2⟩ := h
    rintro b (hb | hb)
    · exact OwnKp.trk d v f h1 b hb
    · exact OwnK.trk l r g h2 b hb
theorem OwnKp.trk {K : PySem.W.Frag} {F H : Hp} : ∀ (p : Key × D) (v : V) (fp : ASet), OwnKp K F H p v fp → ∀ a, fp a → F a = none ∧ ∃ o, H a = some o
  | (_, d), v, f, h => Own.trk d v f h
theorem OwnF.trk {K : PySem.W.Frag} {F H : Hp} : ∀ (l : List (Str × D)) (vs : List (Str × V)) (fp : ASet), OwnF K F H l vs fp → ∀ a, fp a → F a = none ∧ ∃ o, H a = some o
  | [], vs, fp, h => fun b hb => by rw [h.2] at hb; exact hb.elim
  | d :: l, vs, fp, h => by
    obtain ⟨v, r, f, g, _, rfl, _, h1, h2⟩ := h
    rintro b (hb | hb)
    · exact OwnFp.trk d v f h1 b hb
    · exact OwnF.trk l r g h2 b hb
theorem OwnFp.trk {K : PySem.W.Frag} {F H : Hp} : ∀ (p : Str × D) (v : V) (fp : ASet), OwnFp K F H p v fp → ∀ a, fp a → F a = none ∧ ∃ o, H a = some o
  | (_, d), v, f, h => Own.trk d v f h
end

/-- what an own thing leans on is kept -/
structure Kp (F H F' H' : Hp) (fp : ASet) : Prop where
  ext : Sub F F'
  non : ∀ a, fp a → F' a = none
  hp : ∀ a o, fp a → H a = some o → H' a = some o
theorem Kp.l {F H F' H' : Hp} {f g : ASet} (k : Kp F H F' H' (fun b => f b ∨ g b)) : Kp F H F' H' f := ⟨k.ext, fun a h => k.non a (.inl h), fun a o h => k.hp a o (.inl h)⟩
theorem Kp.r {F H F' H' : Hp} {f g : ASet} (k : Kp F H F' H' (fun b => f b ∨ g b)) : Kp F H F' H' g := ⟨k.ext, fun a h => k.non a (.inr h), fun a o h => k.hp a o (.inr h)⟩

mutual
theorem Own.keep {K : PySem.W.Frag} {F H F' H' : Hp} : ∀ (d : D) (v : V) (fp : ASet), Own K F H d v fp → Kp F H F' H' fp → Own K F' H' d v fp
  | .lst .o l, v, fp, h, k => by
    obtain ⟨a, vs, e, rfl, h1, h2, h3⟩ := h
    exact ⟨a, vs, e, rfl, k.non a rfl, k.hp a _ rfl h2, RepL.mono k.ext l vs h3⟩
  | .dK true l, v, fp, h, k => by
    obtain ⟨a, vs, e, rfl, h1, h2, h3⟩ := h
    exact ⟨a, vs, e, rfl, k.non a rfl, k.hp a _ rfl h2, RepK.mono k.ext l vs h3⟩
  | .dT true l, v, fp, h, k => by
    obtain ⟨a, vs, e, rfl, h1, h2, h3⟩ := h
    exact ⟨a, vs, e, rfl, k.non a rfl, k.hp a _ rfl h2, RepT.mono k.ext l vs h3⟩
  | .ins C l, v, fp, h, k => by
    obtain ⟨a, dx, vs, f, e, rfl, h1, h2, h3, h4⟩ := h
    exact ⟨a, dx, vs, f, e, rfl, k.non a (.inl rfl), k.hp a _ (.inl rfl) h2, h3, OwnF.keep l vs f h4 k.r⟩
  | .nst l, v, fp, h, k => by
    obtain ⟨a, vs, f, e, rfl, h1, h2, h3, h4⟩ := h
    exact ⟨a, vs, f, e, rfl, k.non a (.inl rfl), k.hp a _ (.inl rfl) h2, h3, OwnL.keep l vs f h4 k.r⟩
  | .nK l, v, fp, h, k => by
    obtain ⟨a, vs, f, e, rfl, h1, h2, h3, h4⟩ := h
    exact ⟨a, vs, f, e, rfl, k.non a (.inl rfl), k.hp a _ (.inl rfl) h2, h3, OwnK.keep l vs f h4 k.r⟩
  | .non, v, fp, h, k => h
  | .bl _, v, fp, h, k => h
  | .int _, v, fp, h, k => h
  | .str _, v, fp, h, k => h
  | .ob _, v, fp, h, k => h
  | .ty _, v, fp, h, k => h
  | .tup l, v, fp, h, k => ⟨h.1, Rep.mono k.ext _ _ h.2⟩
  | .lst .f _, v, fp, h, k => ⟨h.1, Rep.mono k.ext _ _ h.2⟩
  | .lst .k _, v, fp, h, k => ⟨h.1, Rep.mono k.ext _ _ h.2⟩
  | .dK false _, v, fp, h, k => ⟨h.1, Rep.mono k.ext _ _ h.2⟩
  | .dT false _, v, fp, h, k => ⟨h.1, Rep.mono k.ext _ _ h.2⟩
  | .exn _ _, v, fp, h, k => ⟨h.1, Rep.mono k.ext _ _ h.2⟩
theorem OwnL.keep {K : PySem.W.Frag} {F H F' H' : Hp} : ∀ (l : List D) (vs : List V) (fp : ASet), OwnL K F H l vs fp → Kp F H F' H' fp → OwnL K F' H' l vs fp
  | [], vs, fp, h, k => h
  | d :: l, vs, fp, h, k => by
    obtain ⟨v, r, f, g, e, rfl, h0, h1, h2⟩ := h
    exact ⟨v, r, f, g, e, rfl, h0, Own.keep d v f h1 k.l, OwnL.keep l r g h2 k.r⟩
theorem OwnK.keep {K : PySem.W.Frag} {F H F' H' : Hp} : ∀ (l : List (Key × D)) (vs : List (Key × V)) (fp : ASet), OwnK K F H l vs fp → Kp F H F' H' fp → OwnK K F' H' l vs fp
  | [], vs, fp, h, k => h
  | d :: l, vs, fp, h, k => by
    obtain ⟨v, r, f, g, e, rfl, h0, h1, h2⟩ := h
    exact ⟨v, r, f, g, e, rfl, h0, OwnKp.keep d v f h1 k.l, OwnK.keep l r g h2 k.r⟩
theorem OwnKp.keep {K : PySem.W.Frag} {F H F' H' : Hp} : ∀ (p : Key × D) (v : V) (fp : ASet), OwnKp K F H p v fp → Kp F H F' H' fp → OwnKp K F' H' p v fp
  | (_, d), v, f, h, k => Own.keep d v f h k
theorem OwnF.keep {K : PySem.W.Frag} {F H F' H' : Hp} : ∀ (l : List (Str × D)) (vs : List (Str × V)) (fp : ASet), OwnF K F H l vs fp → Kp F H F' H' fp → OwnF K F' H' l vs fp
  | [], vs, fp, h, k => h
  | d :: l, vs, fp, h, k => by
    obtain ⟨v, r, f, g, e, rfl, h0, h1, h2⟩ := h
    exact ⟨v, r, f, g, e, rfl, h0, OwnFp.keep d v f h1 k.l, OwnF.keep l r g h2 k.r⟩
theorem OwnFp.keep {K : PySem.W.Frag} {F H F' H' : Hp} : ∀ (p : Str × D) (v : V) (fp : ASet), OwnFp K F H p v fp → Kp F H F' H' fp → OwnFp K F' H' p v fp
  | (_, d), v, f, h, k => Own.keep d v f h k
end

/-- how frozen part and heap go on, where what is at fp may change -/
structure Evo (F H : Hp) (fp : ASet) (F' H' : Hp) (fp' : ASet) : Prop where
  ext : Sub F F'
  frame : ∀ a o, H a = some o → ¬ fp a → H' a = some o
  fresh : ∀ a, fp' a → fp a ∨ H a = none
  froz : ∀ a o, F' a = some o → F a = some o ∨ fp a ∨ H a = none
theorem Evo.refl {F H : Hp} {fp : ASet} : Evo F H fp F H fp := ⟨fun _ _ h => h, fun _ _ h _ => h, fun _ h => .inl h, fun _ _ h => .inl h⟩
theorem Evo.trans {F H F1 H1 F2 H2 : Hp} {fp fp1 fp2 : ASet} (a : Evo F H fp F1 H1 fp1) (b : Evo F1 H1 fp1 F2 H2 fp2) : Evo F H fp F2 H2 fp2 where
  ext := fun x o h => b.ext x o (a.ext x o h)
  frame := fun x o h n => b.frame x o (a.frame x o h n) fun q => by
    rcases a.fresh x q with z | z
    · exact n z
    · rw [h] at z; cases z
  fresh := fun x h => by
    rcases b.fresh x h with z | z
    · exact a.fresh x z
    · by_cases q : fp x
      · exact .inl q
      · cases e : H x with
        | none => exact .inr rfl
        | some o => rw [a.frame x o e q] at z; cases z
  froz := fun x o h => by
    rcases b.froz x o h with z | z | z
    · exact a.froz x o z
    · exact .inr (a.fresh x z)
    · by_cases q : fp x
      · exact .inr (.inl q)
      · cases e : H x with
        | none => exact .inr (.inr rfl)
        | some o => rw [a.frame x o e q] at z; cases z
/-- more may change; more is left as it was -/
theorem Evo.wide {F H F' H' : Hp} {fp fp' g : ASet} (a : Evo F H fp F' H' fp') : Evo F H (fun x => g x ∨ fp x) F' H' (fun x => g x ∨ fp' x) :=
  ⟨a.ext, fun x o h n => a.frame x o h fun q => n (.inr q), fun x h => h.elim (fun z => .inl (.inl z)) fun z => (a.fresh x z).elim (fun q => .inl (.inr q)) .inr,
    fun x o h => (a.froz x o h).elim .inl fun z => .inr (z.elim (fun q => .inl (.inr q)) .inr)⟩
theorem Evo.sub {F H F' H' : Hp} {fp fp1 fp' : ASet} (a : Evo F H fp F' H' fp') (h : ∀ x, fp x → fp1 x) : Evo F H fp1 F' H' fp' :=
  ⟨a.ext, fun x o e n => a.frame x o e fun q => n (h x q), fun x e => (a.fresh x e).elim (fun z => .inl (h x z)) .inr, fun x o e => (a.froz x o e).elim .inl fun z => .inr (z.elim (fun q => .inl (h x q)) .inr)⟩
theorem Evo.less {F H F' H' : Hp} {fp fp' fp2 : ASet} (a : Evo F H fp F' H' fp') (h : ∀ x, fp2 x → fp' x) : Evo F H fp F' H' fp2 :=
  ⟨a.ext, a.frame, fun x e => a.fresh x (h x e), a.froz⟩
theorem Evo.kp {F H F' H' : Hp} {fp fp' f : ASet} (a : Evo F H fp F' H' fp') (t : ∀ x, f x → F x = none ∧ ∃ o, H x = some o) (dj : ∀ x, f x → ¬ fp x) : Kp F H F' H' f where
  ext := a.ext
  non := fun x hx => by
    cases e : F' x with
    | none => rfl
    | some o =>
      obtain ⟨t1, o', t2⟩ := t x hx
      rcases a.froz x o e with z | z | z
      · rw [t1] at z; cases z
      · exact absurd z (dj x hx)
      · rw [t2] at z; cases z
  hp := fun x o hx h => a.frame x o h (dj x hx)
theorem Own.evo {K : PySem.W.Frag} {F H F' H' : Hp} {fp fp' f : ASet} {d : D} {v : V} (h : Own K F H d v f) (a : Evo F H fp F' H' fp') (dj : ∀ x, f x → ¬ fp x) : Own K F' H' d v f :=
  Own.keep d v f h (a.kp (Own.trk d v f h) dj)
theorem OwnL.evo {K : PySem.W.Frag} {F H F' H' : Hp} {fp fp' f : ASet} {d : List D} {v : List V} (h : OwnL K F H d v f) (a : Evo F H fp F' H' fp') (dj : ∀ x, f x → ¬ fp x) : OwnL K F' H' d v f :=
  OwnL.keep d v f h (a.kp (OwnL.trk d v f h) dj)

/-- the data of a def that runs: the written part; how it began: frozen part, heap, what it may change; which names keep their values, and which values -/
structure EC where
  K : PySem.W.Frag
  F0 : Hp
  H0 : Hp
  fp0 : ASet
  kp : Nat → Bool
  kv : Nat → Option V
abbrev Fps := Nat → ASet
abbrev U (fps : Fps) : ASet := fun a => ∃ i, fps i a
structure EOk (E : EC) (F H : Hp) (σ : L2.St) (Γ : DEnv) (fps : Fps) : Prop where
  sub : Sub F H
  slot : ∀ i d, Γ[i]? = some (some d) → ∃ v, σ[i]? = some (some v) ∧ Own E.K F H d v (fps i)
  dis : ∀ i j a, i ≠ j → fps i a → fps j a → False
  trk : ∀ i a, fps i a → F a = none ∧ ∃ o, H a = some o
  evo : Evo E.F0 E.H0 E.fp0 F H (U fps)
  kept : ∀ i v, E.kv i = some v → E.kp i = true ∧ σ[i]? = some (some v)
  len : Γ.length = σ.length
/-- new since the def's entry, or lent to it -/
abbrev EC.mine (E : EC) (f : ASet) : Prop := ∀ a, f a → E.fp0 a ∨ E.H0 a = none
section
variable {E : EC} {F H F' H' : Hp} {σ : L2.St} {Γ : DEnv} {fps : Fps}
theorem U_trk (h : EOk E F H σ Γ fps) {a : Addr} (x : U fps a) : F a = none ∧ ∃ o, H a = some o := let ⟨i, q⟩ := x; h.trk i a q
theorem EOk.mine {f : ASet} {fps' : Fps} (h : EOk E F H σ Γ fps) (e : Evo F H (U fps) F' H' (fun a => f a ∨ U fps' a)) : E.mine f := fun a q => (h.evo.trans e).fresh a (.inl q)
theorem EOk.unmine (h : EOk E F H σ Γ fps) {a : Addr} (n : H a = none) : E.fp0 a ∨ E.H0 a = none := by
  by_cases q : E.fp0 a
  · exact .inl q
  · cases z : E.H0 a with
    | none => exact .inr rfl
    | some o => rw [h.evo.frame a o z q] at n; cases n
theorem EOk.evo2 {f g : ASet} (h : EOk E F H σ Γ fps) (e : Evo F H f F' H' g) (hf : E.mine f) : Evo E.F0 E.H0 E.fp0 F' H' (U fps) := by
  refine ⟨fun a o z => e.ext a o (h.evo.ext a o z), fun a o z n => e.frame a o (h.evo.frame a o z n) fun q => ?_, h.evo.fresh, fun a o z => ?_⟩
  · rcases hf a q with w | w
    · exact n w
    · rw [z] at w; cases w
  · rcases e.froz a o z with q | q | q
    · exact h.evo.froz a o q
    · exact .inr (hf a q)
    · exact .inr (h.unmine q)
/-- what has changed is none of the slots' things: all slots stay as they are -/
theorem EOk.grow {f g : ASet} (h : EOk E F H σ Γ fps) (e : Evo F H f F' H' g) (s : Sub F' H') (dj : ∀ a, f a → ¬ U fps a) (hf : E.mine f) : EOk E F' H' σ Γ fps := by
  have kp : ∀ i, Kp F H F' H' (fps i) := fun i => e.kp (h.trk i) fun x q z => dj x z ⟨i, q⟩
  refine ⟨s, fun i d q => ?_, h.dis, fun i a q => ⟨(kp i).non a q, ?_⟩, h.evo2 e hf, h.kept, h.len⟩
  · obtain ⟨v, h1, h2⟩ := h.slot i d q
    exact ⟨v, h1, Own.keep _ _ _ h2 (kp i)⟩
  · obtain ⟨_, o, z⟩ := h.trk i a q
    exact ⟨o, (kp i).hp a o q z⟩
abbrev put (fps : Fps) (i : Nat) (f : ASet) : Fps := fun j => if j = i then f else fps j
theorem U_put {i : Nat} {f : ASet} {a : Addr} (x : U (put fps i f) a) : f a ∨ ∃ j, j ≠ i ∧ fps j a := by
  obtain ⟨j, q⟩ := x
  by_cases e : j = i
  · have q' : (if j = i then f else fps j) a := q
    rw [if_pos e] at q'
    exact .inl q'
  · have q' : (if j = i then f else fps j) a := q
    rw [if_neg e] at q'
    exact .inr ⟨j, e, q'⟩
theorem put_same {i : Nat} {f : ASet} : put fps i f i = f := if_pos rfl
theorem put_ne {i j : Nat} {f : ASet} (h : j ≠ i) : put fps i f j = fps j := if_neg h
/-- the thing of the i-th slot has changed -/
theorem EOk.chg {i : Nat} {d : D} {v : V} {f : ASet} (h : EOk E F H σ Γ fps) (e : Evo F H (fps i) F' H' f) (s : Sub F' H') (hv : σ[i]? = some (some v)) (o : Own E.K F' H' d v f) : EOk E F' H' σ (Γ.set i (some d)) (put fps i f) := by
  have kp : ∀ j, j ≠ i → Kp F H F' H' (fps j) := fun j hj => e.kp (h.trk j) fun x q z => h.dis j i x hj q z
  refine ⟨s, fun j d' q => ?_, fun j k a hjk hj hk => ?_, fun j a q => ?_, ?_, h.kept, by rw [List.length_set]; exact h.len⟩
  · by_cases hj : j = i
    · subst hj
      have hl : j < Γ.length := by
        have := (List.getElem?_eq_some_iff.mp hv).1
        rw [h.len]; exact this
      rw [List.getElem?_set_self hl] at q
      cases q
      exact ⟨v, hv, by rw [put_same]; exact o⟩
    · rw [List.getElem?_set_ne (Ne.symm hj)] at q
      obtain ⟨v', h1, h2⟩ := h.slot j d' q
      exact ⟨v', h1, by rw [put_ne hj]; exact Own.keep _ _ _ h2 (kp j hj)⟩
  · have apart : ∀ m, m ≠ i → f a → fps m a → False := fun m hm q1 q2 => by
      rcases e.fresh a q1 with z | z
      · exact h.dis m i a hm q2 z
      · obtain ⟨_, o, w⟩ := h.trk m a q2
        rw [z] at w; cases w
    by_cases h1 : j = i
    · rw [h1, put_same] at hj
      have h2 : k ≠ i := fun z => hjk (h1.trans z.symm)
      rw [put_ne h2] at hk
      exact apart k h2 hj hk
    · rw [put_ne h1] at hj
      by_cases h2 : k = i
      · rw [h2, put_same] at hk
        exact apart j h1 hk hj
      · rw [put_ne h2] at hk
        exact h.dis j k a hjk hj hk
  · by_cases hj : j = i
    · rw [hj, put_same] at q
      exact Own.trk _ _ _ o a q
    · rw [put_ne hj] at q
      obtain ⟨_, o, z⟩ := h.trk j a q
      exact ⟨(kp j hj).non a q, o, (kp j hj).hp a o q z⟩
  · refine (h.evo.trans (e.sub (fp1 := U fps) fun x q => ⟨i, q⟩) |>.ext |> fun x => ?_)
    have t := h.evo.trans (e.sub (fp1 := U fps) fun x q => ⟨i, q⟩)
    refine ⟨t.ext, t.frame, fun a q => ?_, t.froz⟩
    rcases U_put q with q | ⟨j, _, q⟩
    · exact t.fresh a q
    · exact h.evo.fresh a ⟨j, q⟩
theorem Evo.chg {i : Nat} {f : ASet} (e : Evo F H (fps i) F' H' f) : Evo F H (U fps) F' H' (U (put fps i f)) := by
  have t := e.sub (fp1 := U fps) fun x q => ⟨i, q⟩
  refine ⟨t.ext, t.frame, fun a q => ?_, t.froz⟩
  rcases U_put q with q | ⟨j, _, q⟩
  · exact t.fresh a q
  · exact .inl ⟨j, q⟩
/-- a name takes a thing -/
theorem EOk.store {i : Nat} {d : D} {v : V} {f : ASet} (h : EOk E F H σ Γ fps) (hi : i < Γ.length) (o : Own E.K F H d v f) (dj : ∀ a, f a → ¬ U fps a) (hf : E.mine f) (hk : E.kp i = false) : EOk E F H (σ.set i (some v)) (Γ.set i (some d)) (put fps i f) := by
  refine ⟨h.sub, fun j d' q => ?_, fun j k a hjk hj hk => ?_, fun j a q => ?_, ⟨h.evo.ext, h.evo.frame, fun a q => ?_, h.evo.froz⟩, fun j v' hv' => ?_, by rw [List.length_set, List.length_set]; exact h.len⟩
  · by_cases hj : j = i
    · subst hj
      rw [List.getElem?_set_self hi] at q
      cases q
      exact ⟨v, List.getElem?_set_self (by rw [← h.len]; exact hi), by rw [put_same]; exact o⟩
    · rw [List.getElem?_set_ne (Ne.symm hj)] at q
      obtain ⟨v', h1, h2⟩ := h.slot j d' q
      exact ⟨v', by rw [List.getElem?_set_ne (Ne.symm hj)]; exact h1, by rw [put_ne hj]; exact h2⟩
  · by_cases h1 : j = i
    · rw [h1, put_same] at hj
      have h2 : k ≠ i := fun z => hjk (h1.trans z.symm)
      rw [put_ne h2] at hk
      exact dj a hj ⟨k, hk⟩
    · rw [put_ne h1] at hj
      by_cases h2 : k = i
      · rw [h2, put_same] at hk
        exact dj a hk ⟨j, hj⟩
      · rw [put_ne h2] at hk
        exact h.dis j k a hjk hj hk
  · by_cases hj : j = i
    · rw [hj, put_same] at q
      exact Own.trk _ _ _ o a q
    · rw [put_ne hj] at q
      exact h.trk j a q
  · rcases U_put q with q | ⟨j, _, q⟩
    · exact hf a q
    · exact h.evo.fresh a ⟨j, q⟩
  · obtain ⟨k1, k2⟩ := h.kept j v' hv'
    refine ⟨k1, ?_⟩
    by_cases e : j = i
    · rw [e, hk] at k1; cases k1
    · rw [List.getElem?_set_ne (Ne.symm e)]
      exact k2
theorem Evo.stored {i : Nat} {f : ASet} (e : Evo F H (U fps) F' H' (fun a => f a ∨ U fps a)) : Evo F H (U fps) F' H' (U (put fps i f)) :=
  e.less fun a q => (U_put q).elim .inl fun ⟨j, _, q⟩ => .inr ⟨j, q⟩
/-- a slot is known no more -/
theorem EOk.lose {Γ' : DEnv} (h : EOk E F H σ Γ fps) (hl : Γ'.length = Γ.length) (w : ∀ (i : Nat) d, Γ'[i]? = some (some d) → Γ[i]? = some (some d)) : EOk E F H σ Γ' fps :=
  ⟨h.sub, fun i d q => h.slot i d (w i d q), h.dis, h.trk, h.evo, h.kept, hl.trans h.len⟩
end
end DL

/-! DB: expressions by data: PX, its operands, its operators. -/
namespace DL
open PySem PySem.Spec PyProof.Rows L2

/-- what an expression gives: a thing of its own, or what a name holds -/
inductive AD where | v (d : D) | s (i : Nat)
def AD.res : AD → DEnv → Option D
  | .v d, _ => some d
  | .s i, Γ => (Γ[i]?).join
def Hold (K : PySem.W.Frag) (F H : Hp) (σ : L2.St) : AD → V → ASet → Prop
  | .v d, v, f => Own K F H d v f
  | .s i, v, f => f = Nil ∧ σ[i]? = some (some v)
def HoldL (K : PySem.W.Frag) (F H : Hp) (σ : L2.St) : List AD → List V → ASet → Prop
  | [], vs, T => vs = [] ∧ T = Nil
  | a :: as, vs, T => ∃ v r f g, vs = v :: r ∧ (T = fun b => f b ∨ g b) ∧ (∀ b, f b → g b → False) ∧ Hold K F H σ a v f ∧ HoldL K F H σ as r g
theorem Hold.trk {K : PySem.W.Frag} {F H : Hp} {σ : L2.St} : ∀ {a : AD} {v : V} {f : ASet}, Hold K F H σ a v f → ∀ x, f x → F x = none ∧ ∃ o, H x = some o
  | .v d, v, f, h => Own.trk d v f h
  | .s i, v, f, h => fun x hx => by rw [h.1] at hx; exact hx.elim
theorem HoldL.trk {K : PySem.W.Frag} {F H : Hp} {σ : L2.St} : ∀ {as : List AD} {vs : List V} {T : ASet}, HoldL K F H σ as vs T → ∀ x, T x → F x = none ∧ ∃ o, H x = some o
  | [], vs, T, h => fun x hx => by rw [h.2] at hx; exact hx.elim
  | a :: as, vs, T, h => by
    obtain ⟨v, r, f, g, _, rfl, _, h1, h2⟩ := h
    rintro x (hx | hx)
    · exact h1.trk x hx
    · exact h2.trk x hx
theorem Hold.keep {K : PySem.W.Frag} {F H F' H' : Hp} {σ : L2.St} : ∀ {a : AD} {v : V} {f : ASet}, Hold K F H σ a v f → Kp F H F' H' f → Hold K F' H' σ a v f
  | .v d, v, f, h, k => Own.keep d v f h k
  | .s i, v, f, h, _ => h
theorem HoldL.keep {K : PySem.W.Frag} {F H F' H' : Hp} {σ : L2.St} : ∀ {as : List AD} {vs : List V} {T : ASet}, HoldL K F H σ as vs T → Kp F H F' H' T → HoldL K F' H' σ as vs T
  | [], vs, T, h, _ => h
  | a :: as, vs, T, h, k => by
    obtain ⟨v, r, f, g, e, rfl, dj, h1, h2⟩ := h
    exact ⟨v, r, f, g, e, rfl, dj, h1.keep k.l, h2.keep k.r⟩
theorem HoldL.nil {K : PySem.W.Frag} {F H : Hp} {σ : L2.St} : HoldL K F H σ [] [] Nil := ⟨rfl, rfl⟩

/-- a thing that is looked at -/
def Pk (K : PySem.W.Frag) (F H : Hp) (d : D) (v : V) : Prop := ∃ f, Own K F H d v f
def PkL (K : PySem.W.Frag) (F H : Hp) : List D → List V → Prop
  | [], vs => vs = []
  | d :: ds, vs => ∃ v r, vs = v :: r ∧ Pk K F H d v ∧ PkL K F H ds r
def resL : List AD → DEnv → Option (List D)
  | [], _ => some []
  | a :: as, Γ => match a.res Γ, resL as Γ with
    | some d, some ds => some (d :: ds)
    | _, _ => none

/-- within an expression: the names' things, temporary ones at T, and how it came from the beginning -/
structure At (E : EC) (F0 H0 : Hp) (fps0 : Fps) (σ : L2.St) (F H : Hp) (Γ : DEnv) (fps : Fps) (T : ASet) : Prop where
  ok : EOk E F H σ Γ fps
  evo : Evo F0 H0 (U fps0) F H (fun x => T x ∨ U fps x)
  dj : ∀ x, T x → ¬ U fps x
section
variable {E : EC} {F0 H0 F H F' H' F1 H1 : Hp} {fps0 fps fps1 : Fps} {σ : L2.St} {Γ Γ1 : DEnv} {T T1 f : ASet} {a : AD} {as : List AD} {v : V} {vs : List V} {d : D}
theorem At.start (h : EOk E F H σ Γ fps) : At E F H fps σ F H Γ fps Nil := ⟨h, Evo.refl.less fun _ q => q.elim (fun z => z.elim) id, fun _ z => z.elim⟩
theorem At.step {σ' : L2.St} (A : At E F0 H0 fps0 σ F H Γ fps T) (t : ∀ x, T x → F x = none ∧ ∃ o, H x = some o) (B : At E F H fps σ' F1 H1 Γ1 fps1 T1) :
    At E F0 H0 fps0 σ' F1 H1 Γ1 fps1 (fun x => T x ∨ T1 x) ∧ Kp F H F1 H1 T ∧ ∀ x, T x → T1 x → False := by
  have new : ∀ x, T x → (T1 x ∨ U fps1 x) → False := fun x hx q => by
    rcases B.evo.fresh x q with z | z
    · exact A.dj x hx z
    · obtain ⟨_, o, w⟩ := t x hx
      rw [z] at w; cases w
  refine ⟨⟨B.ok, (A.evo.trans (B.evo.wide (g := T))).less fun x q => ?_, fun x hx q => ?_⟩, B.evo.kp t A.dj, fun x a b => new x a (.inl b)⟩
  · rcases q with (q | q) | q
    · exact .inl q
    · exact .inr (.inl q)
    · exact .inr (.inr q)
  · rcases hx with hx | hx
    · exact new x hx (.inr q)
    · exact B.dj x hx q
theorem At.mine (A : At E F0 H0 fps0 σ F H Γ fps T) (h : EOk E F0 H0 σ Γ1 fps0) : E.mine T := h.mine A.evo
theorem Hold.peek (ok : EOk E F H σ Γ fps) : ∀ {a : AD}, Hold E.K F H σ a v f → a.res Γ = some d → Pk E.K F H d v
  | .v d', h, e => by
    cases e
    exact ⟨f, h⟩
  | .s i, h, e => by
    have e' : (Γ[i]?).join = some d := e
    have e2 : Γ[i]? = some (some d) := by
      cases q : Γ[i]? with
      | none => rw [q] at e'; cases e'
      | some o =>
        rw [q] at e'
        have e3 : o = some d := e'
        rw [e3]
    obtain ⟨v', h1, h2⟩ := ok.slot i d e2
    rw [h.2] at h1
    cases h1
    exact ⟨_, h2⟩
theorem HoldL.peek (ok : EOk E F H σ Γ fps) : ∀ {as : List AD} {vs : List V} {T : ASet} {ds : List D}, HoldL E.K F H σ as vs T → resL as Γ = some ds → PkL E.K F H ds vs
  | [], vs, T, ds, h, e => by
    cases e
    exact h.1
  | a :: as, vs, T, ds, h, e => by
    obtain ⟨v, r, f, g, rfl, rfl, _, h1, h2⟩ := h
    unfold resL at e
    cases e1 : a.res Γ with
    | none => rw [e1] at e; cases e
    | some d =>
      cases e2 : resL as Γ with
      | none => rw [e1, e2] at e; cases e
      | some ds' =>
        rw [e1, e2] at e
        cases e
        exact ⟨v, r, rfl, h1.peek ok e1, HoldL.peek ok h2 e2⟩
theorem Pk.mono {K : PySem.W.Frag} (h : Pk K F H d v) (e : Evo F H Nil F' H' f) : Pk K F' H' d v := let ⟨g, q⟩ := h; ⟨g, q.evo e fun _ _ z => z⟩
end

/-- an exception's class, fields, and the names at that time -/
abbrev DX := Addr → List (Str × D) → DEnv → Prop
abbrev DX.no : DX := fun _ _ _ => False
abbrev TX := DX → DEnv → (AD → DEnv → Prop) → Prop
abbrev TB := DX → DEnv → (Bool → DEnv → Prop) → Prop
abbrev TXs := DX → DEnv → (List AD → DEnv → Prop) → Prop
def ResA (E : EC) (σ : L2.St) (F H : Hp) (fps : Fps) (Q : AD → DEnv → Prop) (v : V) (H' : Hp) : Prop :=
  ∃ F' Γ' fps' a T, At E F H fps σ F' H' Γ' fps' T ∧ Hold E.K F' H' σ a v T ∧ Q a Γ'
def ResB (E : EC) (σ : L2.St) (F H : Hp) (fps : Fps) (Q : Bool → DEnv → Prop) (b : Bool) (H' : Hp) : Prop :=
  ∃ F' Γ' fps', At E F H fps σ F' H' Γ' fps' Nil ∧ Q b Γ'
def ResL (E : EC) (σ : L2.St) (F H : Hp) (fps : Fps) (Q : List AD → DEnv → Prop) (vs : List V) (H' : Hp) : Prop :=
  ∃ F' Γ' fps' as T, At E F H fps σ F' H' Γ' fps' T ∧ HoldL E.K F' H' σ as vs T ∧ Q as Γ'
def teOf (E : EC) (t : TX) (Ex : DX) : TE := fun σ H Qv => ∃ F Γ fps Q, EOk E F H σ Γ fps ∧ t Ex Γ Q ∧ ∀ v H', ResA E σ F H fps Q v H' → Qv v H'
def ttOf (E : EC) (t : TB) (Ex : DX) : TT := fun σ H Qv => ∃ F Γ fps Q, EOk E F H σ Γ fps ∧ t Ex Γ Q ∧ ∀ v H', ResB E σ F H fps Q v H' → Qv v H'
def taOf (E : EC) (t : TXs) (Ex : DX) : TA := fun σ H Qv => ∃ F Γ fps Q, EOk E F H σ Γ fps ∧ t Ex Γ Q ∧ ∀ v H', ResL E σ F H fps Q v H' → Qv v H'
def PayOk (K : PySem.W.Frag) (F : Hp) (d : Option Addr) (l : List (Str × D)) : Prop := match d with
  | none => l = []
  | some d => ∃ fs, F d = some (.xd fs) ∧ RepF K F l fs
def wOf (E : EC) (Ex : DX) : WX := fun cls dd σ H => ∃ F Γ fps C l, cls = .ref C ∧ EOk E F H σ Γ fps ∧ PayOk E.K F dd l ∧ Ex C l Γ
def Tk (X : Cx) (E : EC) (Ex : DX) : Prop := Takes X (wOf E Ex)
theorem Tk.no {X : Cx} {E : EC} : Tk X E DX.no := Takes.imp takes0 fun _ _ _ _ ⟨_, _, _, _, _, _, _, _, z⟩ => z
/-- the contexts of a def: the written part is E's -/
structure PX (X : Cx) (E : EC) (e : Expr) (t : TX) : Prop where
  of : ∀ Ex, Tk X E Ex → PE X e (teOf E t Ex)
structure PB (X : Cx) (E : EC) (e : Expr) (t : TB) : Prop where
  of : ∀ Ex, Tk X E Ex → PT X e (ttOf E t Ex)
structure PW' (X : Cx) (E : EC) (e : Expr) (t : TB) : Prop where
  of : ∀ Ex, Tk X E Ex → PW X e (ttOf E t Ex)
structure PXs (X : Cx) (E : EC) (es : List Expr) (t : TXs) : Prop where
  of : ∀ Ex, Tk X E Ex → PA X es (taOf E t Ex)
theorem pe_imp {X : Cx} {e : Expr} {t t' : TE} (h : PE X e t) (i : ∀ σ H Q, t' σ H Q → t σ H Q) : PE X e t' := ⟨fun p s σ H Q I q => h.run p s σ H Q I (i _ _ _ q)⟩
theorem pt_imp {X : Cx} {e : Expr} {t t' : TT} (h : PT X e t) (i : ∀ σ H Q, t' σ H Q → t σ H Q) : PT X e t' := ⟨fun p s σ H Q I q => h.run p s σ H Q I (i _ _ _ q)⟩
theorem pw_imp {X : Cx} {e : Expr} {t t' : TT} (h : PW X e t) (i : ∀ σ H Q, t' σ H Q → t σ H Q) : PW X e t' := ⟨fun w p s σ H Q I q => h.run w p s σ H Q I (i _ _ _ q)⟩
theorem pa_imp {X : Cx} {e : List Expr} {t t' : TA} (h : PA X e t) (i : ∀ σ H Q, t' σ H Q → t σ H Q) : PA X e t' := ⟨fun w p s σ H Q I q => h.run w p s σ H Q I (i _ _ _ q)⟩

section
variable {E : EC} {F0 H0 F H F' H' F1 H1 : Hp} {fps0 fps fps1 : Fps} {σ : L2.St} {Γ Γ1 : DEnv} {T T1 f : ASet} {a : AD} {as : List AD} {v : V} {vs : List V} {d : D} {t : TX} {Ex : DX} {P Q : AD → DEnv → Prop}
/-- the next operand -/
theorem next (A : At E F0 H0 fps0 σ F H Γ fps T) (hl : HoldL E.K F H σ as vs T) (h : t Ex Γ P) {R : V → Hp → Prop}
    (k : ∀ v H' F' Γ' fps' a f, At E F0 H0 fps0 σ F' H' Γ' fps' (fun x => T x ∨ f x) → HoldL E.K F' H' σ as vs T → Hold E.K F' H' σ a v f → (∀ x, T x → f x → False) → P a Γ' → R v H') : teOf E t Ex σ H R :=
  ⟨F, Γ, fps, P, A.ok, h, fun v H' ⟨F', Γ', fps', a, f, B, hh, p⟩ => by
    obtain ⟨C, kp, dj⟩ := A.step hl.trk B
    exact k v H' F' Γ' fps' a f C (hl.keep kp) hh dj p⟩
theorem nextB {t : TB} {P : Bool → DEnv → Prop} (A : At E F0 H0 fps0 σ F H Γ fps T) (hl : HoldL E.K F H σ as vs T) (h : t Ex Γ P) {R : Bool → Hp → Prop}
    (k : ∀ v H' F' Γ' fps', At E F0 H0 fps0 σ F' H' Γ' fps' T → HoldL E.K F' H' σ as vs T → P v Γ' → R v H') : ttOf E t Ex σ H R :=
  ⟨F, Γ, fps, P, A.ok, h, fun v H' ⟨F', Γ', fps', B, p⟩ => by
    obtain ⟨C, kp, dj⟩ := A.step hl.trk B
    have e : (fun x => T x ∨ Nil x) = T := by
      funext x
      exact propext ⟨fun q => q.elim id fun z => z.elim, .inl⟩
    rw [e] at C
    exact k v H' F' Γ' fps' C (hl.keep kp) p⟩
theorem nextL {t : TXs} {P : List AD → DEnv → Prop} (A : At E F0 H0 fps0 σ F H Γ fps T) (hl : HoldL E.K F H σ as vs T) (h : t Ex Γ P) {R : List V → Hp → Prop}
    (k : ∀ ws H' F' Γ' fps' bs f, At E F0 H0 fps0 σ F' H' Γ' fps' (fun x => T x ∨ f x) → HoldL E.K F' H' σ as vs T → HoldL E.K F' H' σ bs ws f → (∀ x, T x → f x → False) → P bs Γ' → R ws H') : taOf E t Ex σ H R :=
  ⟨F, Γ, fps, P, A.ok, h, fun v H' ⟨F', Γ', fps', a, f, B, hh, p⟩ => by
    obtain ⟨C, kp, dj⟩ := A.step hl.trk B
    exact k v H' F' Γ' fps' a f C (hl.keep kp) hh dj p⟩
/-- the first operand -/
theorem first (A : EOk E F H σ Γ fps) (h : t Ex Γ P) {R : V → Hp → Prop}
    (k : ∀ v H' F' Γ' fps' a f, At E F H fps σ F' H' Γ' fps' f → Hold E.K F' H' σ a v f → P a Γ' → R v H') : teOf E t Ex σ H R :=
  ⟨F, Γ, fps, P, A, h, fun v H' ⟨F', Γ', fps', a, f, B, hh, p⟩ => k v H' F' Γ' fps' a f B hh p⟩
theorem firstL {t : TXs} {P : List AD → DEnv → Prop} (A : EOk E F H σ Γ fps) (h : t Ex Γ P) {R : List V → Hp → Prop}
    (k : ∀ v H' F' Γ' fps' a f, At E F H fps σ F' H' Γ' fps' f → HoldL E.K F' H' σ a v f → P a Γ' → R v H') : taOf E t Ex σ H R :=
  ⟨F, Γ, fps, P, A, h, fun v H' ⟨F', Γ', fps', a, f, B, hh, p⟩ => k v H' F' Γ' fps' a f B hh p⟩
theorem firstB {t : TB} {P : Bool → DEnv → Prop} (A : EOk E F H σ Γ fps) (h : t Ex Γ P) {R : Bool → Hp → Prop}
    (k : ∀ v H' F' Γ' fps', At E F H fps σ F' H' Γ' fps' Nil → P v Γ' → R v H') : ttOf E t Ex σ H R :=
  ⟨F, Γ, fps, P, A, h, fun v H' ⟨F', Γ', fps', B, p⟩ => k v H' F' Γ' fps' B p⟩
theorem HoldL.one {K : PySem.W.Frag} (h : Hold K F H σ a v f) : HoldL K F H σ [a] [v] f :=
  ⟨v, [], f, Nil, rfl, by funext x; exact propext ⟨.inl, fun q => q.elim id fun z => z.elim⟩, fun _ _ z => z, h, rfl, rfl⟩
/-- the end: a thing of its own is made, nothing that stands has changed -/
theorem At.evo' (A : At E F0 H0 fps0 σ F H Γ fps T) (e : Evo F H Nil F' H' f) : Evo F0 H0 (U fps0) F' H' (fun x => f x ∨ U fps x) :=
  (A.evo.trans ((e.wide (g := fun x => T x ∨ U fps x)).sub (fp1 := fun x => T x ∨ U fps x) fun x q => q.elim id fun z => z.elim)).less fun x q => q.elim .inr fun z => .inl (.inr z)
theorem At.fin (A : At E F0 H0 fps0 σ F H Γ fps T) (e : Evo F H Nil F' H' f) (s : Sub F' H') : At E F0 H0 fps0 σ F' H' Γ fps f := by
  refine ⟨A.ok.grow e s (fun _ z => z.elim) (fun _ z => z.elim), A.evo' e, fun x hx q => ?_⟩
  rcases e.fresh x hx with z | z
  · exact z
  · obtain ⟨_, o, w⟩ := U_trk A.ok q
    rw [z] at w; cases w
theorem At.done (A : At E F0 H0 fps0 σ F H Γ fps T) (o : Own E.K F' H' d v f) (e : Evo F H Nil F' H' f) (s : Sub F' H') (q : Q (.v d) Γ) : ResA E σ F0 H0 fps0 Q v H' :=
  ⟨F', Γ, fps, .v d, f, A.fin e s, o, q⟩
/-- a plain value -/
theorem At.val (A : At E F0 H0 fps0 σ F H Γ fps T) (o : Own E.K F H d v Nil) (q : Q (.v d) Γ) : ResA E σ F0 H0 fps0 Q v H := A.done o Evo.refl A.ok.sub q
theorem At.drop (A : At E F0 H0 fps0 σ F H Γ fps T) : At E F0 H0 fps0 σ F H Γ fps Nil := A.fin Evo.refl A.ok.sub
end

/-! ### fresh things -/
theorem Evo.new {F H : Hp} {p : Addr} {o : HO} (h : H p = none) : Evo F H Nil F (upd H p o) (fun b => b = p) :=
  ⟨fun _ _ z => z, fun a u z _ => by rw [upd_ne (ne_of_none z h)]; exact z, fun a e => .inr (by rw [e]; exact h), fun a u z => .inl z⟩
theorem sub_new {F H : Hp} {p : Addr} {o : HO} (s : Sub F H) (h : H p = none) : Sub F (upd H p o) := fun a u z => by rw [upd_ne (ne_of_none (s a u z) h)]; exact s a u z
/-- new, and frozen at once -/
theorem Evo.newF {F H : Hp} {p : Addr} {o : HO} (s : Sub F H) (h : H p = none) : Evo F H Nil (upd F p o) (upd H p o) Nil := by
  have hF : F p = none := by
    cases e : F p with
    | none => rfl
    | some u => rw [s p u e] at h; cases h
  refine ⟨fun a u z => by rw [upd_ne (ne_of_none z hF)]; exact z, fun a u z _ => by rw [upd_ne (ne_of_none z h)]; exact z, fun a e => e.elim, fun a u z => ?_⟩
  by_cases q : a = p
  · exact .inr (.inr (by rw [q]; exact h))
  · rw [upd_ne q] at z
    exact .inl z
theorem sub_newF {F H : Hp} {p : Addr} {o : HO} (s : Sub F H) : Sub (upd F p o) (upd H p o) := fun a u z => by
  by_cases q : a = p
  · rw [q, upd_same] at z ⊢
    exact z
  · rw [upd_ne q] at z ⊢
    exact s a u z
theorem none_sub {F H : Hp} {p : Addr} (s : Sub F H) (h : H p = none) : F p = none := by
  cases e : F p with
  | none => rfl
  | some u => rw [s p u e] at h; cases h
end DL

/-! DC: names, constants, operators, displays, calls, by data. -/
namespace DL
open PySem PySem.Spec PyProof.Rows L2

/-! ### freezing -/
mutual
def D.frz : D → D
  | .lst .o l => .lst .f l
  | .dK true l => .dK false l
  | .dT true l => .dT false l
  | .nst l => .lst .f (frzL l)
  | .nK l => .dK false (frzK l)
  | d => d
def frzL : List D → List D
  | [] => []
  | d :: l => d.frz :: frzL l
def frzK : List (Key × D) → List (Key × D)
  | [] => []
  | p :: l => (p.1, frzP p) :: frzK l
def frzP : Key × D → D
  | (_, d) => d.frz
end
mutual
def D.can : D → Bool
  | .ins _ _ => false
  | .nst l => canL l
  | .nK l => canK l
  | _ => true
def canL : List D → Bool
  | [] => true
  | d :: l => d.can && canL l
def canK : List (Key × D) → Bool
  | [] => true
  | p :: l => canP p && canK l
def canP : Key × D → Bool
  | (_, d) => d.can
end
open Classical in
/-- what is at f in H, beside F -/
noncomputable def lay (F H : Hp) (f : ASet) : Hp := fun x => if f x then H x else F x
theorem lay_in {F H : Hp} {f : ASet} {x : Addr} (h : f x) : lay F H f x = H x := if_pos h
theorem lay_out {F H : Hp} {f : ASet} {x : Addr} (h : ¬ f x) : lay F H f x = F x := if_neg h
theorem lay_ext {F H : Hp} {f : ASet} (t : ∀ x, f x → F x = none) : Sub F (lay F H f) := fun a o e => by
  by_cases q : f a
  · rw [t a q] at e; cases e
  · rw [lay_out q]; exact e
theorem lay_sub {F H : Hp} {f : ASet} (s : Sub F H) : Sub (lay F H f) H := fun a o e => by
  by_cases q : f a
  · rw [lay_in q] at e; exact e
  · rw [lay_out q] at e; exact s a o e
theorem lay_mono {F H : Hp} {f g : ASet} (t : ∀ x, g x → F x = none) (h : ∀ x, f x → g x) : Sub (lay F H f) (lay F H g) := fun a o e => by
  by_cases q : f a
  · rw [lay_in q] at e; rw [lay_in (h a q)]; exact e
  · rw [lay_out q] at e
    by_cases r : g a
    · rw [t a r] at e; cases e
    · rw [lay_out r]; exact e
theorem lay_nil {F H : Hp} : lay F H Nil = F := by funext x; exact lay_out (fun z => z)
theorem Evo.lay {F H : Hp} {f : ASet} (t : ∀ x, f x → F x = none) : Evo F H f (lay F H f) H Nil :=
  ⟨lay_ext t, fun _ _ h _ => h, fun _ z => z.elim, fun a o e => by
    by_cases q : f a
    · exact .inr (.inl q)
    · rw [lay_out q] at e; exact .inl e⟩
mutual
theorem Own.frz {K : PySem.W.Frag} {F H : Hp} : ∀ (d : D) (v : V) (f : ASet), Own K F H d v f → d.can = true → Rep K (lay F H f) d.frz v
  | .lst .o l, v, f, h, c => by
    have t := fun x q => (Own.trk _ _ _ h x q).1
    obtain ⟨a, vs, e, rfl, h1, h2, h3⟩ := h
    exact ⟨a, vs, e, ((lay_in (f := fun b => b = a) rfl).trans h2), RepL.mono (lay_ext t) l vs h3⟩
  | .dK true l, v, f, h, c => by
    have t := fun x q => (Own.trk _ _ _ h x q).1
    obtain ⟨a, vs, e, rfl, h1, h2, h3⟩ := h
    exact ⟨rfl, a, vs, e, ((lay_in (f := fun b => b = a) rfl).trans h2), RepK.mono (lay_ext t) l vs h3⟩
  | .dT true l, v, f, h, c => by
    have t := fun x q => (Own.trk _ _ _ h x q).1
    obtain ⟨a, vs, e, rfl, h1, h2, h3⟩ := h
    exact ⟨rfl, a, vs, e, ((lay_in (f := fun b => b = a) rfl).trans h2), RepT.mono (lay_ext t) l vs h3⟩
  | .nst l, v, f, h, c => by
    have t := fun x q => (Own.trk _ _ _ h x q).1
    obtain ⟨a, vs, g, e, rfl, h1, h2, h3, h4⟩ := h
    refine ⟨a, vs, e, ((lay_in (f := fun b => b = a ∨ g b) (.inl rfl)).trans h2), ?_⟩
    exact RepL.mono (lay_mono t fun x q => .inr q) _ vs (OwnL.frz l vs g h4 c)
  | .nK l, v, f, h, c => by
    have t := fun x q => (Own.trk _ _ _ h x q).1
    obtain ⟨a, vs, g, e, rfl, h1, h2, h3, h4⟩ := h
    refine ⟨rfl, a, vs, e, ((lay_in (f := fun b => b = a ∨ g b) (.inl rfl)).trans h2), ?_⟩
    exact RepK.mono (lay_mono t fun x q => .inr q) _ vs (OwnK.frz l vs g h4 c)
  | .ins _ _, _, _, _, c => by cases c
  | .non, v, f, h, c => h.2
  | .bl _, v, f, h, c => h.2
  | .int _, v, f, h, c => h.2
  | .str _, v, f, h, c => h.2
  | .ob _, v, f, h, c => h.2
  | .ty _, v, f, h, c => h.2
  | .tup l, v, f, h, c => by rw [h.1, lay_nil]; exact h.2
  | .lst .f _, v, f, h, c => by rw [h.1, lay_nil]; exact h.2
  | .lst .k _, v, f, h, c => by rw [h.1, lay_nil]; exact h.2
  | .dK false _, v, f, h, c => by rw [h.1, lay_nil]; exact h.2
  | .dT false _, v, f, h, c => by rw [h.1, lay_nil]; exact h.2
  | .exn _ _, v, f, h, c => by rw [h.1, lay_nil]; exact h.2
theorem OwnL.frz {K : PySem.W.Frag} {F H : Hp} : ∀ (l : List D) (vs : List V) (f : ASet), OwnL K F H l vs f → canL l = true → RepL K (lay F H f) (frzL l) vs
  | [], vs, f, h, c => h.1
  | d :: l, vs, f, h, c => by
    have t := fun x q => (OwnL.trk _ _ _ h x q).1
    obtain ⟨v, r, g1, g2, e, rfl, _, h1, h2⟩ := h
    unfold canL at c
    rw [Bool.and_eq_true] at c
    exact ⟨v, r, e, Rep.mono (lay_mono t fun x q => .inl q) _ v (Own.frz d v g1 h1 c.1), RepL.mono (lay_mono t fun x q => .inr q) _ r (OwnL.frz l r g2 h2 c.2)⟩
theorem OwnK.frz {K : PySem.W.Frag} {F H : Hp} : ∀ (l : List (Key × D)) (vs : List (Key × V)) (f : ASet), OwnK K F H l vs f → canK l = true → RepK K (lay F H f) (frzK l) vs
  | [], vs, f, h, c => h.1
  | d :: l, vs, f, h, c => by
    have t := fun x q => (OwnK.trk _ _ _ h x q).1
    obtain ⟨v, r, g1, g2, e, rfl, _, h1, h2⟩ := h
    unfold canK at c
    rw [Bool.and_eq_true] at c
    refine ⟨v, r, e, ?_, RepK.mono (lay_mono t fun x q => .inr q) _ r (OwnK.frz l r g2 h2 c.2)⟩
    rw [repKp_eq]
    exact Rep.mono (lay_mono t fun x q => .inl q) _ v (OwnKp.frz d v g1 h1 c.1)
theorem OwnKp.frz {K : PySem.W.Frag} {F H : Hp} : ∀ (p : Key × D) (v : V) (f : ASet), OwnKp K F H p v f → canP p = true → Rep K (lay F H f) (frzP p) v
  | (_, d), v, f, h, c => Own.frz d v f h c
end

def un {α : Type} (o : Option α) (k : α → Prop) : Prop := match o with
  | some x => k x
  | none => False
theorem un_some {α : Type} {x : α} {k : α → Prop} : un (some x) k = k x := rfl
theorem un_of {α : Type} {o : Option α} {k : α → Prop} (h : un o k) : ∃ x, o = some x ∧ k x := by
  cases o with
  | none => exact h.elim
  | some x => exact ⟨x, rfl, h⟩

/-- a value that is to lie somewhere else, too: what a name holds is frozen -/
def dem (a : AD) (Γ : DEnv) (k : D → DEnv → Prop) : Prop := match a with
  | .v d => if d.fz = true then k d Γ else d.can = true ∧ k d.frz Γ
  | .s i => un (Γ[i]?).join fun d => if d.fz = true then k d Γ else d.can = true ∧ k d.frz (Γ.set i (some d.frz))
/-- a value that a name, a caller takes: what an expression made is the taker's own -/
def demO (a : AD) (Γ : DEnv) (k : D → DEnv → Prop) : Prop := match a with
  | .v d => k d Γ
  | .s i => un (Γ[i]?).join fun d => if d.fz = true then k d Γ else d.can = true ∧ k d.frz (Γ.set i (some d.frz))
/-- a value that is handed on: the name holds it no more -/
def demM (a : AD) (Γ : DEnv) (k : D → DEnv → Prop) : Prop := match a with
  | .v d => k d Γ
  | .s i => un (Γ[i]?).join fun d => if d.fz = true then k d Γ else k d (Γ.set i none)
def demL : List AD → DEnv → (List D → DEnv → Prop) → Prop
  | [], Γ, k => k [] Γ
  | a :: as, Γ, k => dem a Γ fun d Γ1 => demL as Γ1 fun ds Γ2 => k (d :: ds) Γ2
theorem join_some {Γ : DEnv} {i : Nat} {d : D} (h : (Γ[i]?).join = some d) : Γ[i]? = some (some d) := by
  cases q : Γ[i]? with
  | none => rw [q] at h; cases h
  | some o =>
    rw [q] at h
    have e3 : o = some d := h
    rw [e3]
theorem own_nil {K : PySem.W.Frag} {F H : Hp} {d : D} {v : V} (h : Rep K F d v) (z : d.fz = true) : Own K F H d v Nil := (own_fz z).mpr ⟨rfl, h⟩
section
variable {E : EC} {F0 H0 F H F' H' F1 H1 : Hp} {fps0 fps fps1 : Fps} {σ : L2.St} {Γ Γ1 : DEnv} {T T1 f g : ASet} {a : AD} {as : List AD} {v : V} {vs : List V} {d : D}
/-- the temporary things at f are frozen, those at g are kept -/
theorem At.freeze (A : At E F0 H0 fps0 σ F H Γ fps (fun x => f x ∨ g x)) (tf : ∀ x, f x → F x = none ∧ ∃ o, H x = some o) (hm : E.mine f) :
    At E F0 H0 fps0 σ (lay F H f) H Γ fps g := by
  have e : Evo F H f (lay F H f) H Nil := Evo.lay fun x q => (tf x q).1
  refine ⟨A.ok.grow e (lay_sub A.ok.sub) (fun x q => A.dj x (.inl q)) hm, ?_, fun x q => A.dj x (.inr q)⟩
  have w := e.wide (g := fun x => g x ∨ U fps x)
  refine (A.evo.trans (w.sub (fp1 := fun x => (f x ∨ g x) ∨ U fps x) fun x q => ?_)).less fun x q => .inl q
  rcases q with (q | q) | q
  · exact .inl (.inr q)
  · exact .inr q
  · exact .inl (.inl q)
theorem At.mono (A : At E F0 H0 fps0 σ F H Γ fps T) (h : ∀ x, f x → T x) : At E F0 H0 fps0 σ F H Γ fps f :=
  ⟨A.ok, A.evo.less fun x q => q.elim (fun z => .inl (h x z)) .inr, fun x q => A.dj x (h x q)⟩
theorem At.freezeS {i : Nat} (A : At E F0 H0 fps0 σ F H Γ fps T) (hd : (Γ[i]?).join = some d) (c : d.can = true) (hv : σ[i]? = some (some v)) :
    At E F0 H0 fps0 σ (lay F H (fps i)) H (Γ.set i (some d.frz)) (put fps i Nil) T ∧ Rep E.K (lay F H (fps i)) d.frz v := by
  obtain ⟨v', h1, h2⟩ := A.ok.slot i d (join_some hd)
  rw [hv] at h1
  cases h1
  have t := A.ok.trk i
  have r := Own.frz d v (fps i) h2 c
  have zf : ∀ d : D, d.can = true → d.frz.fz = true := fun d c => by
    cases d with
    | lst o l => cases o <;> rfl
    | dK o l => cases o <;> rfl
    | dT o l => cases o <;> rfl
    | ins _ _ => cases c
    | _ => rfl
  have e : Evo F H (fps i) (lay F H (fps i)) H Nil := Evo.lay fun x q => (t x q).1
  refine ⟨⟨A.ok.chg e (lay_sub A.ok.sub) hv (own_nil r (zf d c)), ?_, fun x q z => ?_⟩, r⟩
  · have w := e.wide (g := fun x => T x ∨ U fps x)
    refine (A.evo.trans (w.sub (fp1 := fun x => T x ∨ U fps x) fun x q => ?_)).less fun x q => ?_
    · rcases q with q | q
      · exact q
      · exact .inr ⟨i, q⟩
    · rcases q with q | q
      · exact .inl (.inl q)
      · rcases U_put q with q | ⟨j, _, q⟩
        · exact q.elim
        · exact .inl (.inr ⟨j, q⟩)
  · rcases U_put z with z | ⟨j, _, z⟩
    · exact z.elim
    · exact A.dj x q ⟨j, z⟩
/-- one value lies somewhere else, too; the other temporary things are kept -/
theorem At.dem (A : At E F0 H0 fps0 σ F H Γ fps (fun x => f x ∨ g x)) (ok0 : EOk E F0 H0 σ Γ1 fps0) (h : Hold E.K F H σ a v f) (hl : HoldL E.K F H σ as vs g) (dj : ∀ x, f x → g x → False) {k : D → DEnv → Prop} (q : dem a Γ k) :
    ∃ F' Γ' fps' d, At E F0 H0 fps0 σ F' H Γ' fps' g ∧ Rep E.K F' d v ∧ HoldL E.K F' H σ as vs g ∧ Sub F F' ∧ k d Γ' := by
  cases a with
  | v d =>
    have h' : Own E.K F H d v f := h
    have q' : if d.fz = true then k d Γ else d.can = true ∧ k d.frz Γ := q
    by_cases z : d.fz = true
    · rw [if_pos z] at q'
      have r := (own_fz z).mp h'
      exact ⟨F, Γ, fps, d, A.mono fun x w => .inr w, r.2, hl, fun _ _ w => w, q'⟩
    · rw [if_neg z] at q'
      have tf := Own.trk d v f h'
      have B := A.freeze tf fun x w => (A.mine ok0) x (.inl w)
      refine ⟨_, Γ, fps, d.frz, B, Own.frz d v f h' q'.1, hl.keep ⟨lay_ext fun x w => (tf x w).1, fun x w => ?_, fun _ _ _ w => w⟩, lay_ext fun x w => (tf x w).1, q'.2⟩
      rw [lay_out fun y => dj x y w]
      exact (hl.trk x w).1
  | s i =>
    obtain ⟨rfl, hv⟩ := h
    obtain ⟨d, hd, q'⟩ := un_of q
    have A' : At E F0 H0 fps0 σ F H Γ fps g := A.mono fun x w => .inr w
    by_cases z : d.fz = true
    · rw [if_pos z] at q'
      obtain ⟨v', h1, h2⟩ := A.ok.slot i d (join_some hd)
      rw [hv] at h1
      cases h1
      exact ⟨F, Γ, fps, d, A', ((own_fz z).mp h2).2, hl, fun _ _ w => w, q'⟩
    · rw [if_neg z] at q'
      obtain ⟨B, r⟩ := A'.freezeS hd q'.1 hv
      have ti := A.ok.trk i
      refine ⟨_, _, _, d.frz, B, r, hl.keep ⟨lay_ext fun x w => (ti x w).1, fun x w => ?_, fun _ _ _ w => w⟩, lay_ext fun x w => (ti x w).1, q'.2⟩
      rw [lay_out fun y => A'.dj x w ⟨i, y⟩]
      exact (hl.trk x w).1
theorem At.demL (ok0 : EOk E F0 H0 σ Γ1 fps0) : ∀ {as : List AD} {vs : List V} {F : Hp} {Γ : DEnv} {fps : Fps} {g : ASet} {k : List D → DEnv → Prop}, At E F0 H0 fps0 σ F H Γ fps g → HoldL E.K F H σ as vs g → demL as Γ k →
    ∃ F' Γ' fps' ds, At E F0 H0 fps0 σ F' H Γ' fps' Nil ∧ RepL E.K F' ds vs ∧ Sub F F' ∧ k ds Γ'
  | [], vs, F, Γ, fps, g, k, A, h, q => ⟨F, Γ, fps, [], A.drop, h.1, fun _ _ w => w, q⟩
  | a :: as, vs, F, Γ, fps, g, k, A, h, q => by
    obtain ⟨v, r, f1, f2, rfl, rfl, dj, h1, h2⟩ := h
    have q' : DL.dem a Γ fun d Γ1 => DL.demL as Γ1 fun ds Γ2 => k (d :: ds) Γ2 := q
    obtain ⟨F', Γ', fps', d, B, rd, hl, s1, q2⟩ := A.dem ok0 h1 h2 dj q'
    obtain ⟨F2, Γ2, fps2, ds, C, rs, s2, q3⟩ := At.demL ok0 B hl q2
    exact ⟨F2, Γ2, fps2, d :: ds, C, ⟨v, r, rfl, Rep.mono s2 d v rd, rs⟩, fun a o w => s2 a o (s1 a o w), q3⟩
end
end DL

/-! DD: operators by data. -/
namespace DL
open PySem PySem.Spec PyProof.Rows L2

/-- an operation that changes nothing: what it makes is its own -/
abbrev Fin1 (K : PySem.W.Frag) (F H : Hp) (k : D → Prop) (Qv : VK) : Prop := ∀ (z : D) (F' H' : Hp) (g : ASet) (v : V), Own K F' H' z v g → Evo F H Nil F' H' g → Sub F' H' → k z → Qv v H'
section
variable {K : PySem.W.Frag} {F H : Hp} {k : D → Prop} {Qv : VK} {z : D} {v : V} {p : Addr}
theorem fin_val (f : Fin1 K F H k Qv) (s : Sub F H) (o : Rep K F z v) (zf : z.fz = true) (q : k z) : Qv v H := f z F H Nil v (own_nil o zf) Evo.refl s q
theorem fin_bl {b : Bool} (f : Fin1 K F H k Qv) (s : Sub F H) (q : k (.bl b)) : Qv (.bl b) H := fin_val f s (z := .bl b) rfl rfl q
theorem fin_int {i : Int} (f : Fin1 K F H k Qv) (s : Sub F H) (q : k (.int i)) : Qv (.int i) H := fin_val f s (z := .int i) rfl rfl q
theorem fin_str {x : Str} (f : Fin1 K F H k Qv) (s : Sub F H) (q : k (.str x)) : Qv (.str x) H := fin_val f s (z := .str x) rfl rfl q
theorem fin_lst {l : List D} {vs : List V} (f : Fin1 K F H k Qv) (s : Sub F H) (h : H p = none) (r : RepL K F l vs) (q : k (.lst .o l)) : Qv (.ref p) (upd H p (.lst vs)) :=
  f (.lst .o l) F _ (fun b => b = p) _ ⟨p, vs, rfl, rfl, none_sub s h, upd_same, r⟩ (Evo.new h) (sub_new s h) q
theorem fin_tup {l : List D} {vs : List V} (f : Fin1 K F H k Qv) (s : Sub F H) (h : H p = none) (r : RepL K F l vs) (q : k (.tup l)) : Qv (.ref p) (upd H p (.tup vs)) := by
  have e := Evo.newF (o := .tup vs) s h
  exact f (.tup l) (upd F p (.tup vs)) _ Nil _ ⟨rfl, p, vs, rfl, SqT.of upd_same, RepL.mono e.ext l vs r⟩ e (sub_newF s) q
theorem RepL.length : ∀ {l : List D} {vs : List V}, RepL K F l vs → vs.length = l.length
  | [], vs, h => by rw [show vs = [] from h]; rfl
  | d :: l, vs, h => by
    obtain ⟨v, r, rfl, _, h2⟩ := h
    rw [List.length_cons, List.length_cons, RepL.length h2]
theorem RepL.append : ∀ {l m : List D} {vs ws : List V}, RepL K F l vs → RepL K F m ws → RepL K F (l ++ m) (vs ++ ws)
  | [], m, vs, ws, h, h' => by rw [show vs = [] from h]; exact h'
  | d :: l, m, vs, ws, h, h' => by
    obtain ⟨v, r, rfl, h1, h2⟩ := h
    exact ⟨v, r ++ ws, rfl, h1, RepL.append h2 h'⟩
theorem RepL.take : ∀ {l : List D} {vs : List V} (n : Nat), RepL K F l vs → RepL K F (l.take n) (vs.take n)
  | _, _, 0, _ => rfl
  | [], vs, n + 1, h => by rw [show vs = [] from h]; rfl
  | d :: l, vs, n + 1, h => by
    obtain ⟨v, r, rfl, h1, h2⟩ := h
    exact ⟨v, r.take n, rfl, h1, RepL.take n h2⟩
theorem RepL.drop : ∀ {l : List D} {vs : List V} (n : Nat), RepL K F l vs → RepL K F (l.drop n) (vs.drop n)
  | _, _, 0, h => h
  | [], vs, n + 1, h => by rw [show vs = [] from h]; rfl
  | d :: l, vs, n + 1, h => by
    obtain ⟨v, r, rfl, h1, h2⟩ := h
    exact RepL.drop n h2
theorem RepL.get : ∀ {l : List D} {vs : List V} {i : Nat} {d : D}, RepL K F l vs → l[i]? = some d → ∃ v, vs[i]? = some v ∧ Rep K F d v
  | [], vs, i, d, h, e => by simp at e
  | d :: l, vs, 0, d', h, e => by
    obtain ⟨v, r, rfl, h1, h2⟩ := h
    simp at e
    subst e
    exact ⟨v, rfl, h1⟩
  | d :: l, vs, i + 1, d', h, e => by
    obtain ⟨v, r, rfl, h1, h2⟩ := h
    obtain ⟨v', e1, h3⟩ := RepL.get h2 (i := i) (by simpa using e)
    exact ⟨v', by simpa using e1, h3⟩
theorem RepL.get' : ∀ {l : List D} {vs : List V} {i : Nat} {v : V}, RepL K F l vs → vs[i]? = some v → ∃ d, l[i]? = some d ∧ Rep K F d v
  | [], vs, i, v, h, e => by rw [show vs = [] from h] at e; simp at e
  | d :: l, vs, 0, v', h, e => by
    obtain ⟨v, r, rfl, h1, h2⟩ := h
    simp at e
    subst e
    exact ⟨d, rfl, h1⟩
  | d :: l, vs, i + 1, v', h, e => by
    obtain ⟨v, r, rfl, h1, h2⟩ := h
    obtain ⟨d', e1, h3⟩ := RepL.get' h2 (i := i) (v := v') (by simpa using e)
    exact ⟨d', by simpa using e1, h3⟩
theorem RepL.set : ∀ {l : List D} {vs : List V} {i : Nat} {d : D} {v : V}, RepL K F l vs → Rep K F d v → RepL K F (l.set i d) (vs.set i v)
  | [], vs, i, d, v, h, e => by rw [show vs = [] from h]; rfl
  | d :: l, vs, 0, d', v', h, e => by
    obtain ⟨v, r, rfl, h1, h2⟩ := h
    exact ⟨v', r, rfl, e, h2⟩
  | d :: l, vs, i + 1, d', v', h, e => by
    obtain ⟨v, r, rfl, h1, h2⟩ := h
    exact ⟨v, _, rfl, h1, RepL.set h2 e⟩
theorem RepL.atI {l : List D} {vs : List V} {i : Int} {d : D} (h : RepL K F l vs) (e : L2.atI l i = some d) : ∃ v, L2.atI vs i = some v ∧ Rep K F d v := by
  unfold L2.atI at e ⊢
  rw [RepL.length h]
  cases q : ixN l.length i with
  | none => rw [q] at e; cases e
  | some j =>
    rw [q] at e
    exact RepL.get h e
/-! what is looked at -/
theorem pk_fz (h : Pk K F H z v) (zf : z.fz = true) : Rep K F z v := let ⟨_, q⟩ := h; ((own_fz zf).mp q).2
theorem pk_lst {o : Ow} {l : List D} (s : Sub F H) (h : Pk K F H (.lst o l) v) : ∃ a vs, v = .ref a ∧ SqL K H a vs ∧ RepL K F l vs ∧ (o ≠ .k → H a = some (.lst vs)) := by
  obtain ⟨f, q⟩ := h
  cases o with
  | o =>
    obtain ⟨a, vs, e, _, _, h2, h3⟩ := q
    exact ⟨a, vs, e, SqL.of h2, h3, fun _ => h2⟩
  | f =>
    obtain ⟨_, a, vs, e, h2, h3⟩ := q
    exact ⟨a, vs, e, SqL.of (s _ _ h2), h3, fun _ => s _ _ h2⟩
  | k =>
    obtain ⟨_, a, vs, e, h2, h3⟩ := q
    exact ⟨a, vs, e, sqL_sub s h2, h3, fun z => (z rfl).elim⟩
theorem pk_tup {l : List D} (s : Sub F H) (h : Pk K F H (.tup l) v) : ∃ a vs, v = .ref a ∧ SqT K H a vs ∧ SqT K F a vs ∧ RepL K F l vs := by
  obtain ⟨a, vs, e, h2, h3⟩ := pk_fz h rfl
  exact ⟨a, vs, e, sqT_sub s h2, h2, h3⟩
theorem rep_tup {a : Addr} {l : List D} {vs : List V} (h : SqT K F a vs) (r : RepL K F l vs) : Rep K F (.tup l) (.ref a) := ⟨a, vs, rfl, h, r⟩
end

/-- a two-place operation by data -/
abbrev F2 := D → D → (D → Prop) → Prop
structure OpD (X : Cx) (E : EC) (op : Value → Value → Sem Value) (f : F2) : Prop where
  ex : ∃ r : R2, OpR X op r ∧ ∀ (F H : Hp) (d e : D) (x y : V) (k : D → Prop) (Qv : VK), Sub F H → Pk E.K F H d x → Pk E.K F H e y → f d e k → Fin1 E.K F H k Qv → r x y H Qv
theorem opR_or {X : Cx} {f : Value → Value → Sem Value} {r r' : R2} (h : OpR X f r) (h' : OpR X f r') : OpR X f (fun x y H Q => r x y H Q ∨ r' x y H Q) := by
  intro pins s σ H x y v u Q I rx ry q
  rcases q with q | q
  · exact h pins s σ H x y v u Q I rx ry q
  · exact h' pins s σ H x y v u Q I rx ry q

def addD : F2 := fun x y k => match x, y with
  | .int i, .int j => k (.int (i + j))
  | .str a, .str b => a.length + b.length ≤ 16777216 ∧ k (.str (a ++ b))
  | .lst o l, .lst o' m => (o ≠ .k ∧ o' ≠ .k) ∧ l.length + m.length ≤ 16777216 ∧ k (.lst .o (l ++ m))
  | .tup l, .tup m => l.length + m.length ≤ 16777216 ∧ k (.tup (l ++ m))
  | _, _ => False
def subD : F2 := fun x y k => match x, y with
  | .int i, .int j => k (.int (i - j))
  | _, _ => False
def mulD : F2 := fun x y k => match x, y with
  | .int i, .int j => ((-18446744073709551616 < i ∧ i < 18446744073709551616) ∨ (-18446744073709551616 < j ∧ j < 18446744073709551616)) ∧ k (.int (i * j))
  | _, _ => False
def fdivD : F2 := fun x y k => match x, y with
  | .int i, .int j => (0 < j ∧ j < 1073741824) ∧ k (.int (i / j))
  | _, _ => False
def modD : F2 := fun x y k => match x, y with
  | .int i, .int j => 0 < j ∧ k (.int (i % j))
  | _, _ => False
def powD : F2 := fun x y k => match x, y with
  | .int i, .int j => (0 ≤ j ∧ j ≤ 1000 ∧ i.natAbs < 18446744073709551616) ∧ k (.int (i ^ j.toNat))
  | _, _ => False
def cmpD (fi : Int → Int → Bool) (fs : List Nat → List Nat → Bool) : F2 := fun x y k => match x, y with
  | .int i, .int j => k (.bl (fi i j))
  | .str a, .str b => k (.bl (fs a.cps.toList b.cps.toList))
  | _, _ => False
abbrev ltD : F2 := cmpD (fun i j => decide (i < j)) (fun a b => decide (a < b))
abbrev leD : F2 := cmpD (fun i j => decide (i ≤ j)) (fun a b => !decide (b < a))
abbrev gtD : F2 := cmpD (fun i j => decide (j < i)) (fun a b => decide (b < a))
abbrev geD : F2 := cmpD (fun i j => decide (j ≤ i)) (fun a b => !decide (a < b))
/-! equality -/
mutual
def deq : D → D → Bool
  | .non, .non => true
  | .bl a, .bl b => a == b
  | .bl a, .int j => (if a then 1 else 0) == j
  | .int i, .bl b => i == (if b then 1 else 0)
  | .int i, .int j => i == j
  | .str x, .str y => x == y
  | .tup l, .tup m => deqL l m
  | .lst _ l, .lst _ m => deqL l m
  | _, _ => false
def deqL : List D → List D → Bool
  | [], [] => true
  | x :: l, y :: m => deq x y && deqL l m
  | _, _ => false
end
/-- plain data, at most so deep -/
def shp : Nat → D → Bool
  | _, .non => true
  | _, .bl _ => true
  | _, .int _ => true
  | _, .str s => PyData.strOk s
  | n + 1, .tup l => l.all (shp n)
  | n + 1, .lst _ l => l.all (shp n)
  | _, _ => false
mutual
def toP : D → PyData
  | .bl b => .bool b
  | .int i => .int i
  | .str s => .str s
  | .tup l => .tuple (toPL l)
  | .lst _ l => .list (toPL l)
  | _ => .none
def toPL : List D → List PyData
  | [] => []
  | d :: l => toP d :: toPL l
end
theorem shp_ok : ∀ (n : Nat) (d : D), shp n d = true → (toP d).canLay0 = true ∧ (toP d).depth ≤ n
  | n, .non, _ => ⟨rfl, Nat.zero_le _⟩
  | n, .bl _, _ => ⟨rfl, Nat.zero_le _⟩
  | n, .int _, _ => ⟨rfl, Nat.zero_le _⟩
  | n, .str s, h => ⟨by cases n <;> simpa [shp, toP, PyData.canLay0] using h, by cases n <;> exact Nat.zero_le _⟩
  | n + 1, .tup l, h => by
    have h' : l.all (shp n) = true := h
    have hl : ∀ m : List D, m.all (shp n) = true → PyData.canLayAll0 (toPL m) = true ∧ PyData.depthAll (toPL m) ≤ n := by
      intro m
      induction m with
      | nil => intro _; exact ⟨rfl, Nat.zero_le _⟩
      | cons d m ih =>
        intro hm
        rw [List.all_cons, Bool.and_eq_true] at hm
        have a := shp_ok n d hm.1
        have b := ih hm.2
        refine ⟨?_, ?_⟩
        · show ((toP d).canLay0 && PyData.canLayAll0 (toPL m)) = true
          rw [a.1, b.1]; rfl
        · show max (toP d).depth (PyData.depthAll (toPL m)) ≤ n
          exact Nat.max_le.mpr ⟨a.2, b.2⟩
    have q := hl l h'
    exact ⟨q.1, Nat.succ_le_succ q.2⟩
  | n + 1, .lst _ l, h => by
    have h' : l.all (shp n) = true := h
    have hl : ∀ m : List D, m.all (shp n) = true → PyData.canLayAll0 (toPL m) = true ∧ PyData.depthAll (toPL m) ≤ n := by
      intro m
      induction m with
      | nil => intro _; exact ⟨rfl, Nat.zero_le _⟩
      | cons d m ih =>
        intro hm
        rw [List.all_cons, Bool.and_eq_true] at hm
        have a := shp_ok n d hm.1
        have b := ih hm.2
        refine ⟨?_, ?_⟩
        · show ((toP d).canLay0 && PyData.canLayAll0 (toPL m)) = true
          rw [a.1, b.1]; rfl
        · show max (toP d).depth (PyData.depthAll (toPL m)) ≤ n
          exact Nat.max_le.mpr ⟨a.2, b.2⟩
    have q := hl l h'
    exact ⟨q.1, Nat.succ_le_succ q.2⟩
  | 0, .tup _, h => by simp [shp] at h
  | 0, .lst _ _, h => by simp [shp] at h
  | 0, .ob _, h => by simp [shp] at h
  | 0, .ty _, h => by simp [shp] at h
  | 0, .dK _ _, h => by simp [shp] at h
  | 0, .dT _ _, h => by simp [shp] at h
  | 0, .ins _ _, h => by simp [shp] at h
  | 0, .nst _, h => by simp [shp] at h
  | 0, .nK _, h => by simp [shp] at h
  | 0, .exn _ _, h => by simp [shp] at h
  | n + 1, .ob _, h => by simp [shp] at h
  | n + 1, .ty _, h => by simp [shp] at h
  | n + 1, .dK _ _, h => by simp [shp] at h
  | n + 1, .dT _ _, h => by simp [shp] at h
  | n + 1, .ins _ _, h => by simp [shp] at h
  | n + 1, .nst _, h => by simp [shp] at h
  | n + 1, .nK _, h => by simp [shp] at h
  | n + 1, .exn _ _, h => by simp [shp] at h
theorem shaped_of {n : Nat} {d : D} (h : shp n d = true) (hn : n ≤ 60) : SeqAt.shaped (toP d) = true := by
  have q := shp_ok n d h
  unfold SeqAt.shaped
  rw [q.1, decide_eq_true (by omega)]; rfl
mutual
theorem eqv_deq : ∀ (n : Nat) (d e : D), shp n d = true → shp n e = true → PyData.eqv (toP d) (toP e) = deq d e
  | n, .non, e, _, h => by cases e <;> first | rfl | (cases n <;> simp [shp] at h)
  | n, .bl _, e, _, h => by cases e <;> first | rfl | (cases n <;> simp [shp] at h)
  | n, .int _, e, _, h => by cases e <;> first | rfl | (cases n <;> simp [shp] at h)
  | n, .str _, e, _, h => by cases e <;> first | rfl | (cases n <;> simp [shp] at h)
  | n + 1, .tup l, e, h', h => by
    cases e with
    | tup m => exact eqv_deqL n l m h' h
    | _ => first | rfl | simp [shp] at h
  | n + 1, .lst _ l, e, h', h => by
    cases e with
    | lst _ m => exact eqv_deqL n l m h' h
    | _ => first | rfl | simp [shp] at h
  | 0, .tup _, _, h, _ => by simp [shp] at h
  | 0, .lst _ _, _, h, _ => by simp [shp] at h
  | n, .ob _, _, h, _ => by cases n <;> simp [shp] at h
  | n, .ty _, _, h, _ => by cases n <;> simp [shp] at h
  | n, .dK _ _, _, h, _ => by cases n <;> simp [shp] at h
  | n, .dT _ _, _, h, _ => by cases n <;> simp [shp] at h
  | n, .ins _ _, _, h, _ => by cases n <;> simp [shp] at h
  | n, .nst _, _, h, _ => by cases n <;> simp [shp] at h
  | n, .nK _, _, h, _ => by cases n <;> simp [shp] at h
  | n, .exn _ _, _, h, _ => by cases n <;> simp [shp] at h
theorem eqv_deqL : ∀ (n : Nat) (l m : List D), l.all (shp n) = true → m.all (shp n) = true → PyData.eqvAll (toPL l) (toPL m) = deqL l m
  | n, [], [], _, _ => rfl
  | n, [], _ :: _, _, _ => rfl
  | n, _ :: _, [], _, _ => rfl
  | n, x :: l, y :: m, h, h' => by
    rw [List.all_cons, Bool.and_eq_true] at h h'
    show (PyData.eqv (toP x) (toP y) && PyData.eqvAll (toPL l) (toPL m)) = (deq x y && deqL l m)
    rw [eqv_deq n x y h.1 h'.1, eqv_deqL n l m h.2 h'.2]
end
mutual
theorem dp_of {K : PySem.W.Frag} {F H : Hp} (s : Sub F H) : ∀ (n : Nat) (d : D) (v : V), shp n d = true → Rep K F d v → Dp K H v (toP d)
  | n, .non, v, _, r => by cases (show v = .non from r); exact .non
  | n, .bl _, v, _, r => by cases (show v = .bl _ from r); exact .bl _
  | n, .int _, v, _, r => by cases (show v = .int _ from r); exact .int _
  | n, .str _, v, _, r => by cases (show v = .str _ from r); exact .str _
  | n + 1, .tup l, v, h, r => by
    obtain ⟨a, vs, rfl, h1, h2⟩ := r
    exact .tup (sqT_sub s h1) (dp_ofL s n l vs h h2)
  | n + 1, .lst .f l, v, h, r => by
    obtain ⟨a, vs, rfl, h1, h2⟩ := r
    exact .lst (SqL.of (s _ _ h1)) (dp_ofL s n l vs h h2)
  | n + 1, .lst .k l, v, h, r => by
    obtain ⟨a, vs, rfl, h1, h2⟩ := r
    exact .lst (sqL_sub s h1) (dp_ofL s n l vs h h2)
  | n + 1, .lst .o l, v, h, r => by
    obtain ⟨a, vs, rfl, h1, h2⟩ := r
    exact h1.elim
  | 0, .tup _, _, h, _ => by simp [shp] at h
  | 0, .lst _ _, _, h, _ => by simp [shp] at h
  | n, .ob _, _, h, _ => by cases n <;> simp [shp] at h
  | n, .ty _, _, h, _ => by cases n <;> simp [shp] at h
  | n, .dK _ _, _, h, _ => by cases n <;> simp [shp] at h
  | n, .dT _ _, _, h, _ => by cases n <;> simp [shp] at h
  | n, .ins _ _, _, h, _ => by cases n <;> simp [shp] at h
  | n, .nst _, _, h, _ => by cases n <;> simp [shp] at h
  | n, .nK _, _, h, _ => by cases n <;> simp [shp] at h
  | n, .exn _ _, _, h, _ => by cases n <;> simp [shp] at h
theorem dp_ofL {K : PySem.W.Frag} {F H : Hp} (s : Sub F H) : ∀ (n : Nat) (l : List D) (vs : List V), l.all (shp n) = true → RepL K F l vs → DpAll K H vs (toPL l)
  | n, [], vs, _, r => by cases (show vs = [] from r); exact .nil
  | n, d :: l, vs, h, r => by
    rw [List.all_cons, Bool.and_eq_true] at h
    obtain ⟨v, w, rfl, h1, h2⟩ := r
    exact .cons (dp_of s n d v h.1 h1) (dp_ofL s n l w h.2 h2)
end
theorem dp_pk {K : PySem.W.Frag} {F H : Hp} (s : Sub F H) {n : Nat} {d : D} {v : V} (h : shp n d = true) (r : Pk K F H d v) : Dp K H v (toP d) := by
  by_cases z : d.fz = true
  · exact dp_of s n d v h (pk_fz r z)
  · cases d with
    | lst o l =>
      obtain ⟨a, vs, rfl, h1, h2, _⟩ := pk_lst s r
      cases n with
      | zero => simp [shp] at h
      | succ n => exact .lst h1 (dp_ofL s n l vs h h2)
    | dK _ _ => cases n <;> simp [shp] at h
    | dT _ _ => cases n <;> simp [shp] at h
    | ins _ _ => cases n <;> simp [shp] at h
    | nst _ => cases n <;> simp [shp] at h
    | nK _ => cases n <;> simp [shp] at h
    | _ => exact absurd rfl z
/-- two values that may be compared as they are -/
def scl : D → D → Bool
  | .non, .non => true | .non, .int _ => true | .int _, .non => true | .non, .bl _ => true | .bl _, .non => true | .non, .str _ => true | .str _, .non => true
  | .int _, .int _ => true | .bl _, .bl _ => true | .str _, .str _ => true | .int _, .str _ => true | .str _, .int _ => true | .bl _, .str _ => true | .str _, .bl _ => true
  | _, _ => false
def cmpOk (x y : D) : Bool := scl x y || (shp 40 x && shp 40 y)
def eqD : F2 := fun x y k => cmpOk x y = true ∧ k (.bl (deq x y))
def neD : F2 := fun x y k => cmpOk x y = true ∧ k (.bl (!deq x y))
theorem scl_v {K : PySem.W.Frag} {F H : Hp} {d e : D} {x y : V} (h : scl d e = true) (hx : Pk K F H d x) (hy : Pk K F H e y) : scal x y = true ∧ decide (x = y) = deq d e := by
  cases d with
  | non =>
    cases (show x = .non from pk_fz hx rfl)
    cases e with
    | non => cases (show y = .non from pk_fz hy rfl); exact ⟨rfl, rfl⟩
    | int _ => cases (show y = .int _ from pk_fz hy rfl); exact ⟨rfl, rfl⟩
    | bl _ => cases (show y = .bl _ from pk_fz hy rfl); exact ⟨rfl, rfl⟩
    | str _ => cases (show y = .str _ from pk_fz hy rfl); exact ⟨rfl, rfl⟩
    | _ => cases h
  | int i =>
    cases (show x = .int _ from pk_fz hx rfl)
    cases e with
    | non => cases (show y = .non from pk_fz hy rfl); exact ⟨rfl, rfl⟩
    | int j => cases (show y = .int _ from pk_fz hy rfl); exact ⟨rfl, dec_int⟩
    | str _ => cases (show y = .str _ from pk_fz hy rfl); exact ⟨rfl, rfl⟩
    | _ => cases h
  | bl i =>
    cases (show x = .bl _ from pk_fz hx rfl)
    cases e with
    | non => cases (show y = .non from pk_fz hy rfl); exact ⟨rfl, rfl⟩
    | bl j => cases (show y = .bl _ from pk_fz hy rfl); exact ⟨rfl, dec_bl⟩
    | str _ => cases (show y = .str _ from pk_fz hy rfl); exact ⟨rfl, rfl⟩
    | _ => cases h
  | str i =>
    cases (show x = .str _ from pk_fz hx rfl)
    cases e with
    | non => cases (show y = .non from pk_fz hy rfl); exact ⟨rfl, rfl⟩
    | int j => cases (show y = .int _ from pk_fz hy rfl); exact ⟨rfl, rfl⟩
    | bl j => cases (show y = .bl _ from pk_fz hy rfl); exact ⟨rfl, rfl⟩
    | str j =>
      cases (show y = .str _ from pk_fz hy rfl)
      refine ⟨rfl, ?_⟩
      show decide (V.str i = V.str j) = (i == j)
      rw [Bool.eq_iff_iff]
      simp
    | _ => cases h
  | _ => cases e <;> cases h
/-! in -/
def flat : D → Bool
  | .non => true | .bl _ => true | .int _ => true | .str _ => true | _ => false
def inL (x : D) (l : List D) : Bool := l.any fun y => deq y x
def inD : F2 := fun x y k => match x, y with
  | .str a, .str z => ∃ c, a = ⟨#[c]⟩ ∧ k (.bl (decide (c ∈ z.cps.toList)))
  | x, .lst _ l => (flat x && l.all flat) = true ∧ k (.bl (inL x l))
  | x, .tup l => (flat x && l.all flat) = true ∧ k (.bl (inL x l))
  | _, _ => False
def ninD : F2 := fun x y k => inD x y fun d => match d with | .bl b => k (.bl !b) | _ => False
def isnD : F2 := fun x y k => match x, y with
  | .non, .non => k (.bl true)
  | _, .non => k (.bl false)
  | _, _ => False
def notnD : F2 := fun x y k => match x, y with
  | .non, .non => k (.bl false)
  | _, .non => k (.bl true)
  | _, _ => False
theorem flat_v {K : PySem.W.Frag} {F : Hp} {d : D} {v : V} (h : flat d = true) (r : Rep K F d v) : flatV v = true := by
  cases d with
  | non => cases (show v = .non from r); rfl
  | bl _ => cases (show v = .bl _ from r); rfl
  | int _ => cases (show v = .int _ from r); rfl
  | str _ => cases (show v = .str _ from r); rfl
  | _ => cases h
theorem flat_fz {d : D} (h : flat d = true) : d.fz = true := by cases d <;> first | rfl | cases h
theorem flat_eq {K : PySem.W.Frag} {F : Hp} {d e : D} {v w : V} (h : flat d = true) (h' : flat e = true) (r : Rep K F d v) (r' : Rep K F e w) : eqV v w = deq d e := by
  cases d with
  | non => cases (show v = .non from r); cases e with
    | non => cases (show w = .non from r'); rfl
    | bl _ => cases (show w = .bl _ from r'); rfl
    | int _ => cases (show w = .int _ from r'); rfl
    | str _ => cases (show w = .str _ from r'); rfl
    | _ => cases h'
  | bl _ => cases (show v = .bl _ from r); cases e with
    | non => cases (show w = .non from r'); rfl
    | bl _ => cases (show w = .bl _ from r'); rfl
    | int _ => cases (show w = .int _ from r'); rfl
    | str _ => cases (show w = .str _ from r'); rfl
    | _ => cases h'
  | int _ => cases (show v = .int _ from r); cases e with
    | non => cases (show w = .non from r'); rfl
    | bl _ => cases (show w = .bl _ from r'); rfl
    | int _ => cases (show w = .int _ from r'); rfl
    | str _ => cases (show w = .str _ from r'); rfl
    | _ => cases h'
  | str _ => cases (show v = .str _ from r); cases e with
    | non => cases (show w = .non from r'); rfl
    | bl _ => cases (show w = .bl _ from r'); rfl
    | int _ => cases (show w = .int _ from r'); rfl
    | str _ => cases (show w = .str _ from r'); rfl
    | _ => cases h'
  | _ => cases h
theorem inL_v {K : PySem.W.Frag} {F : Hp} {d : D} {v : V} (h : flat d = true) (r : Rep K F d v) : ∀ {l : List D} {vs : List V}, l.all flat = true → RepL K F l vs → vs.all flatV = true ∧ inV v vs = inL d l
  | [], vs, _, rl => by cases (show vs = [] from rl); exact ⟨rfl, rfl⟩
  | e :: l, vs, hl, rl => by
    rw [List.all_cons, Bool.and_eq_true] at hl
    obtain ⟨w, ws, rfl, h1, h2⟩ := rl
    obtain ⟨i1, i2⟩ := inL_v h r hl.2 h2
    refine ⟨by rw [List.all_cons, flat_v hl.1 h1, i1]; rfl, ?_⟩
    have i2' : (ws.any fun y => eqV y v) = l.any fun y => deq y d := i2
    show ((w :: ws).any fun y => eqV y v) = (e :: l).any fun y => deq y d
    rw [List.any_cons, List.any_cons, flat_eq hl.1 h h1 r, i2']
end DL

/-! DE: the operators' rules; names, constants, operators, tests, displays. -/
namespace DL
open PySem PySem.Spec PyProof.Rows L2

theorem sz_line {n : Nat} (h : n ≤ 16777216) : n ≤ sizeLine := by rw [sizeLine_eq]; exact h
section
variable {X : Cx} {E : EC}
theorem od_add (hK : E.K = X.K := by rfl) : OpD X E (binaryOp .Add) addD := by
  refine ⟨_, opR_or op_add (opR_or op_add_str (opR_or op_cat op_catA)), fun F H d e x y k Qv s hx hy q fin => ?_⟩
  cases d with
  | int i =>
    cases e with
    | int j =>
      cases (show x = .int i from pk_fz hx rfl)
      cases (show y = .int j from pk_fz hy rfl)
      exact .inl ⟨i, j, rfl, rfl, fin_int fin s q⟩
    | _ => exact q.elim
  | str i =>
    cases e with
    | str j =>
      cases (show x = .str i from pk_fz hx rfl)
      cases (show y = .str j from pk_fz hy rfl)
      exact .inr (.inl ⟨i, j, rfl, rfl, sz_line q.1, fin_str fin s q.2⟩)
    | _ => exact q.elim
  | lst o l =>
    cases e with
    | lst o' m =>
      obtain ⟨a, vs, rfl, _, r1, w1⟩ := pk_lst s hx
      obtain ⟨b, ws, rfl, _, r2, w2⟩ := pk_lst s hy
      obtain ⟨⟨n1, n2⟩, z, q⟩ := q
      refine .inr (.inr (.inl ⟨a, b, vs, ws, rfl, rfl, w1 n1, w2 n2, ?_, fun p hp => fin_lst fin s hp (r1.append r2) q⟩))
      rw [r1.length, r2.length]
      exact sz_line z
    | _ => exact q.elim
  | tup l =>
    cases e with
    | tup m =>
      obtain ⟨a, vs, rfl, h1, g1, r1⟩ := pk_tup s hx
      obtain ⟨b, ws, rfl, h2, g2, r2⟩ := pk_tup s hy
      obtain ⟨z, q⟩ := q
      refine .inr (.inr (.inr ⟨a, b, vs, ws, rfl, rfl, by rw [← hK]; exact h1, by rw [← hK]; exact h2, by rw [r1.length, r2.length]; exact sz_line z, fun e => ?_, fun _ e => ?_, fun _ _ p hp => fin_tup fin s hp (r1.append r2) q⟩))
      · have el : l = [] := List.eq_nil_of_length_eq_zero (by rw [← r1.length, e]; rfl)
        subst el
        exact fin_val fin s (z := .tup m) (rep_tup g2 r2) rfl q
      · have em : m = [] := List.eq_nil_of_length_eq_zero (by rw [← r2.length, e]; rfl)
        subst em
        rw [List.append_nil] at q
        exact fin_val fin s (z := .tup l) (rep_tup g1 r1) rfl q
    | _ => exact q.elim
  | _ => exact q.elim
theorem od_int {op : Value → Value → Sem Value} {C : Int → Int → Prop} {g : Int → Int → V} {f : F2} (h : OpR X op (rI C g)) (hf : ∀ d e k, f d e k → ∃ i j, d = .int i ∧ e = .int j ∧ C i j ∧ ∃ z : D, k z ∧ z.fz = true ∧ ∀ K F, Rep K F z (g i j)) : OpD X E op f := by
  refine ⟨_, h, fun F H d e x y k Qv s hx hy q fin => ?_⟩
  obtain ⟨i, j, rfl, rfl, c, z, q, zf, r⟩ := hf d e k q
  cases (show x = .int i from pk_fz hx rfl)
  cases (show y = .int j from pk_fz hy rfl)
  exact ⟨i, j, rfl, rfl, c, fin_val fin s (r _ _) zf q⟩
theorem od_int0 {op : Value → Value → Sem Value} {g : Int → Int → V} {f : F2} (h : OpR X op (rI0 g)) (hf : ∀ d e k, f d e k → ∃ i j, d = .int i ∧ e = .int j ∧ ∃ z : D, k z ∧ z.fz = true ∧ ∀ K F, Rep K F z (g i j)) : OpD X E op f := by
  refine ⟨_, h, fun F H d e x y k Qv s hx hy q fin => ?_⟩
  obtain ⟨i, j, rfl, rfl, z, q, zf, r⟩ := hf d e k q
  cases (show x = .int i from pk_fz hx rfl)
  cases (show y = .int j from pk_fz hy rfl)
  exact ⟨i, j, rfl, rfl, fin_val fin s (r _ _) zf q⟩
theorem od_sub : OpD X E (binaryOp .Sub) subD := od_int0 op_sub fun d e k q => by
  cases d <;> cases e <;> first | exact q.elim | exact ⟨_, _, rfl, rfl, _, q, rfl, fun _ _ => rfl⟩
theorem od_mul : OpD X E (binaryOp .Mult) mulD := od_int op_mul fun d e k q => by
  cases d <;> cases e <;> first | exact q.elim | exact ⟨_, _, rfl, rfl, q.1, _, q.2, rfl, fun _ _ => rfl⟩
theorem od_fdiv : OpD X E (binaryOp .FloorDiv) fdivD := od_int op_fdiv fun d e k q => by
  cases d <;> cases e <;> first | exact q.elim | exact ⟨_, _, rfl, rfl, q.1, _, q.2, rfl, fun _ _ => rfl⟩
theorem od_mod : OpD X E (binaryOp .Mod) modD := od_int op_mod fun d e k q => by
  cases d <;> cases e <;> first | exact q.elim | exact ⟨_, _, rfl, rfl, q.1, _, q.2, rfl, fun _ _ => rfl⟩
theorem od_pow : OpD X E (binaryOp .Pow) powD := od_int op_pow fun d e k q => by
  cases d <;> cases e <;> first | exact q.elim | exact ⟨_, _, rfl, rfl, ⟨q.1.1, Int.le_trans q.1.2.1 (by decide), q.1.2.2⟩, _, q.2, rfl, fun _ _ => rfl⟩
theorem od_cmp {op : Value → Value → Sem Value} {fi : Int → Int → Bool} {fs : List Nat → List Nat → Bool} (h1 : OpR X op (rI0 fun i j => .bl (fi i j))) (h2 : OpR X op (fun x y H Q => ∃ i j, x = .str i ∧ y = .str j ∧ Q (.bl (fs i.cps.toList j.cps.toList)) H)) : OpD X E op (cmpD fi fs) := by
  refine ⟨_, opR_or h1 h2, fun F H d e x y k Qv s hx hy q fin => ?_⟩
  cases d with
  | int i =>
    cases e with
    | int j =>
      cases (show x = .int i from pk_fz hx rfl)
      cases (show y = .int j from pk_fz hy rfl)
      exact .inl ⟨i, j, rfl, rfl, fin_bl fin s q⟩
    | _ => exact q.elim
  | str i =>
    cases e with
    | str j =>
      cases (show x = .str i from pk_fz hx rfl)
      cases (show y = .str j from pk_fz hy rfl)
      exact .inr ⟨i, j, rfl, rfl, fin_bl fin s q⟩
    | _ => exact q.elim
  | _ => exact q.elim
theorem od_lt : OpD X E (compareOp .Lt) ltD := od_cmp op_lt op_lt_str
theorem od_le : OpD X E (compareOp .LtE) leD := od_cmp op_le op_le_str
theorem od_gt : OpD X E (compareOp .Gt) gtD := od_cmp op_gt op_gt_str
theorem od_ge : OpD X E (compareOp .GtE) geD := od_cmp op_ge op_ge_str
theorem od_eq (hu : X.A.units + 64 < cLine) (hK : E.K = X.K := by rfl) : OpD X E (compareOp .Eq) eqD := by
  refine ⟨_, opR_or op_eq (op_eqD hu), fun F H d e x y k Qv s hx hy q fin => ?_⟩
  obtain ⟨c, q⟩ := q
  rcases (Bool.or_eq_true _ _).mp c with c | c
  · obtain ⟨h1, h2⟩ := scl_v c hx hy
    exact .inl ⟨h1, by rw [h2]; exact fin_bl fin s q⟩
  · rw [Bool.and_eq_true] at c
    exact .inr ⟨toP d, toP e, by rw [← hK]; exact dp_pk s c.1 hx, by rw [← hK]; exact dp_pk s c.2 hy, shaped_of c.1 (by decide), shaped_of c.2 (by decide), by rw [eqv_deq 40 d e c.1 c.2]; exact fin_bl fin s q⟩
theorem od_ne (hu : X.A.units + 64 < cLine) (hK : E.K = X.K := by rfl) : OpD X E (compareOp .NotEq) neD := by
  refine ⟨_, opR_or op_ne (op_neD hu), fun F H d e x y k Qv s hx hy q fin => ?_⟩
  obtain ⟨c, q⟩ := q
  rcases (Bool.or_eq_true _ _).mp c with c | c
  · obtain ⟨h1, h2⟩ := scl_v c hx hy
    exact .inl ⟨h1, by rw [h2]; exact fin_bl fin s q⟩
  · rw [Bool.and_eq_true] at c
    exact .inr ⟨toP d, toP e, by rw [← hK]; exact dp_pk s c.1 hx, by rw [← hK]; exact dp_pk s c.2 hy, shaped_of c.1 (by decide), shaped_of c.2 (by decide), by rw [eqv_deq 40 d e c.1 c.2]; exact fin_bl fin s q⟩
theorem in_cases {K : PySem.W.Frag} {F H : Hp} {d e : D} {x y : V} {k : D → Prop} (s : Sub F H) (hx : Pk K F H d x) (hy : Pk K F H e y) (q : inD d e k) :
    ∃ b, k (.bl b) ∧ ((∃ c z, x = .str ⟨#[c]⟩ ∧ y = .str z ∧ b = decide (c ∈ z.cps.toList)) ∨ ∃ p xs, y = .ref p ∧ (SqL K H p xs ∨ SqT K H p xs) ∧ flatV x = true ∧ xs.all flatV = true ∧ b = inV x xs) := by
  have seq : ∀ (l : List D) (vs : List V), (flat d && l.all flat) = true → RepL K F l vs → flatV x = true ∧ vs.all flatV = true ∧ inV x vs = inL d l := fun l vs h r => by
    rw [Bool.and_eq_true] at h
    have rx := pk_fz hx (flat_fz h.1)
    have w := inL_v h.1 rx h.2 r
    exact ⟨flat_v h.1 rx, w.1, w.2⟩
  have lst : ∀ o l, e = .lst o l → inD d (.lst o l) k = ((flat d && l.all flat) = true ∧ k (.bl (inL d l))) := fun o l _ => by cases d <;> rfl
  have tup : ∀ l, e = .tup l → inD d (.tup l) k = ((flat d && l.all flat) = true ∧ k (.bl (inL d l))) := fun l _ => by cases d <;> rfl
  cases e with
  | lst o l =>
    rw [lst o l rfl] at q
    obtain ⟨a, vs, rfl, h1, r1, _⟩ := pk_lst s hy
    obtain ⟨w1, w2, w3⟩ := seq l vs q.1 r1
    exact ⟨_, q.2, .inr ⟨a, vs, rfl, .inl h1, w1, w2, w3.symm⟩⟩
  | tup l =>
    rw [tup l rfl] at q
    obtain ⟨a, vs, rfl, h1, _, r1⟩ := pk_tup s hy
    obtain ⟨w1, w2, w3⟩ := seq l vs q.1 r1
    exact ⟨_, q.2, .inr ⟨a, vs, rfl, .inr h1, w1, w2, w3.symm⟩⟩
  | str z =>
    cases d with
    | str a =>
      obtain ⟨c, rfl, q⟩ := q
      cases (show x = .str _ from pk_fz hx rfl)
      cases (show y = .str _ from pk_fz hy rfl)
      exact ⟨_, q, .inl ⟨c, z, rfl, rfl, rfl⟩⟩
    | _ => exact q.elim
  | _ => cases d <;> exact q.elim
theorem od_in (hK : E.K = X.K := by rfl) : OpD X E (compareOp .In) inD := by
  refine ⟨_, opR_or op_in_sign op_in_seq, fun F H d e x y k Qv s hx hy q fin => ?_⟩
  obtain ⟨b, q, h | h⟩ := in_cases s hx hy q
  · obtain ⟨c, z, e1, e2, rfl⟩ := h
    exact .inl ⟨c, z, e1, e2, fin_bl fin s q⟩
  · obtain ⟨p, xs, e1, h2, h3, h4, rfl⟩ := h
    exact .inr ⟨p, xs, e1, by rw [← hK]; exact h2, h3, h4, fin_bl fin s q⟩
theorem od_nin (hK : E.K = X.K := by rfl) : OpD X E (compareOp .NotIn) ninD := by
  refine ⟨_, opR_or op_notIn_sign op_notIn_seq, fun F H d e x y k Qv s hx hy q fin => ?_⟩
  obtain ⟨b, q, h | h⟩ := in_cases s hx hy q
  · obtain ⟨c, z, e1, e2, rfl⟩ := h
    exact .inl ⟨c, z, e1, e2, fin_bl fin s q⟩
  · obtain ⟨p, xs, e1, h2, h3, h4, rfl⟩ := h
    exact .inr ⟨p, xs, e1, by rw [← hK]; exact h2, h3, h4, fin_bl fin s q⟩
theorem non_iff {K : PySem.W.Frag} {F H : Hp} {d : D} {x : V} (h : Pk K F H d x) : decide (x = .non) = (match d with | .non => true | _ => false) := by
  obtain ⟨f, h⟩ := h
  cases d with
  | non => cases (show x = .non from h.2); rfl
  | bl _ => cases (show x = .bl _ from h.2); rfl
  | int _ => cases (show x = .int _ from h.2); rfl
  | str _ => cases (show x = .str _ from h.2); rfl
  | ob _ => cases (show x = .ref _ from h.2); rfl
  | ty _ => cases (show x = .ty _ from h.2); rfl
  | tup _ => obtain ⟨_, a, _, rfl, _⟩ := h; rfl
  | lst o _ => cases o with
    | o => obtain ⟨a, _, rfl, _⟩ := h; rfl
    | f => obtain ⟨_, a, _, rfl, _⟩ := h; rfl
    | k => obtain ⟨_, a, _, rfl, _⟩ := h; rfl
  | dK o _ => cases o with
    | true => obtain ⟨a, _, rfl, _⟩ := h; rfl
    | false => obtain ⟨_, _, a, _, rfl, _⟩ := h; rfl
  | dT o _ => cases o with
    | true => obtain ⟨a, _, rfl, _⟩ := h; rfl
    | false => obtain ⟨_, _, a, _, rfl, _⟩ := h; rfl
  | ins _ _ => obtain ⟨a, _, _, _, rfl, _⟩ := h; rfl
  | nst _ => obtain ⟨a, _, _, rfl, _⟩ := h; rfl
  | nK _ => obtain ⟨a, _, _, rfl, _⟩ := h; rfl
  | exn _ _ => obtain ⟨_, a, _, rfl, _⟩ := h; rfl
theorem od_isn : OpD X E (compareOp .Is) isnD := by
  refine ⟨_, op_isN, fun F H d e x y k Qv s hx hy q fin => ?_⟩
  cases e with
  | non =>
    cases (show y = .non from pk_fz hy rfl)
    refine ⟨rfl, ?_⟩
    rw [non_iff hx]
    cases d <;> exact fin_bl fin s q
  | _ => cases d <;> exact q.elim
theorem od_notn : OpD X E (compareOp .IsNot) notnD := by
  refine ⟨_, op_notN, fun F H d e x y k Qv s hx hy q fin => ?_⟩
  cases e with
  | non =>
    cases (show y = .non from pk_fz hy rfl)
    refine ⟨rfl, ?_⟩
    rw [non_iff hx]
    cases d <;> exact fin_bl fin s q
  | _ => cases d <;> exact q.elim
end

theorem RepL.isEmpty {K : PySem.W.Frag} {F : Hp} : ∀ {l : List D} {vs : List V}, RepL K F l vs → vs.isEmpty = l.isEmpty
  | [], vs, h => by rw [show vs = [] from h]; rfl
  | d :: l, vs, h => by
    obtain ⟨v, r, rfl, _, _⟩ := h
    rfl
/-! ### readings -/
def dC (d : D) : TX := fun _ Γ Q => Q (.v d) Γ
def dN (i : Nat) : TX := fun _ Γ Q => un (Γ[i]?).join fun _ => Q (.s i) Γ
def dBin (f : F2) (ta tb : TX) : TX := fun Ex Γ Q => ta Ex Γ fun a Γ1 => tb Ex Γ1 fun b Γ2 => un (a.res Γ2) fun x => un (b.res Γ2) fun y => f x y fun z => Q (.v z) Γ2
def dUn (f : D → (D → Prop) → Prop) (ta : TX) : TX := fun Ex Γ Q => ta Ex Γ fun a Γ1 => un (a.res Γ1) fun x => f x fun z => Q (.v z) Γ1
def dNil : TXs := fun _ Γ Q => Q [] Γ
def dCons (ta : TX) (tr : TXs) : TXs := fun Ex Γ Q => ta Ex Γ fun a Γ1 => tr Ex Γ1 fun as Γ2 => Q (a :: as) Γ2
def dTup (ta : TXs) : TX := fun Ex Γ Q => ta Ex Γ fun as Γ1 => demL as Γ1 fun ds Γ2 => ds.length ≤ 16777216 ∧ Q (.v (.tup ds)) Γ2
def dLst (ta : TXs) : TX := fun Ex Γ Q => ta Ex Γ fun as Γ1 => demL as Γ1 fun ds Γ2 => ds.length ≤ 16777216 ∧ Q (.v (.lst .o ds)) Γ2
def dBl (t : TX) : TB := fun Ex Γ Q => t Ex Γ fun a Γ1 => un (a.res Γ1) fun x => match x with | .bl b => Q b Γ1 | _ => False
/-- a value's truth -/
def tru (x : D) (k : Bool → Prop) : Prop := match x with
  | .non => k false
  | .bl b => k b
  | .int i => k (i != 0)
  | .str s => s.length ≤ 16777216 ∧ k ((s.length : Int) != 0)
  | .lst _ l => k (!l.isEmpty)
  | .tup l => k (!l.isEmpty)
  | _ => False
def dTru (t : TX) : TB := fun Ex Γ Q => t Ex Γ fun a Γ1 => un (a.res Γ1) fun x => tru x fun b => Q b Γ1
def dAnd (t u : TB) : TB := fun Ex Γ Q => t Ex Γ fun c Γ1 => if c = true then u Ex Γ1 Q else Q false Γ1
def dOr (t u : TB) : TB := fun Ex Γ Q => t Ex Γ fun c Γ1 => if c = true then Q true Γ1 else u Ex Γ1 Q
def dNot (t : TB) : TB := fun Ex Γ Q => t Ex Γ fun c Γ1 => Q (!c) Γ1
def dAndV (ta tb : TX) : TX := fun Ex Γ Q => ta Ex Γ fun a Γ1 => un (a.res Γ1) fun x => match x with | .bl c => (if c = true then tb Ex Γ1 Q else Q (.v (.bl false)) Γ1) | _ => False
def dOrV (ta tb : TX) : TX := fun Ex Γ Q => ta Ex Γ fun a Γ1 => un (a.res Γ1) fun x => match x with | .bl c => (if c = true then Q (.v (.bl true)) Γ1 else tb Ex Γ1 Q) | _ => False
def dNotV (ta : TX) : TX := fun Ex Γ Q => ta Ex Γ fun a Γ1 => un (a.res Γ1) fun x => match x with | .bl c => Q (.v (.bl !c)) Γ1 | _ => False
/-- a op b op' c -/
def dChain (f g : F2) (ta tb tc : TX) : TX := fun Ex Γ Q => ta Ex Γ fun a Γ1 => tb Ex Γ1 fun b Γ2 => un (a.res Γ2) fun x => un (b.res Γ2) fun y => f x y fun z => match z with
  | .bl c => (if c = true then tc Ex Γ2 fun e Γ3 => un (b.res Γ3) fun y' => un (e.res Γ3) fun u => g y' u fun z => Q (.v z) Γ3 else Q (.v (.bl false)) Γ2)
  | _ => False
section
variable {X : Cx} {E : EC} {a b c : Expr} {es : List Expr} {ta tb tc : TX} {t u : TB} {tas : TXs} {pos : Pos}
theorem px_const {e : Expr} {d : D} {v : V} (h : PE X e (tC v)) (z : d.fz = true) (r : ∀ F, Rep E.K F d v) : PX X E e (dC d) := ⟨fun Ex _ => pe_imp h fun σ H Q ⟨F, Γ, fps, P, ok, q, k⟩ =>
  k v H ((At.start ok).val (own_nil (r F) z) q)⟩
theorem px_int {i j pos} : PX X E (.Constant (.int i) j pos) (dC (.int i)) := px_const pe_int rfl fun _ => rfl
theorem px_bl {i j pos} : PX X E (.Constant (.bool i) j pos) (dC (.bl i)) := px_const pe_bl rfl fun _ => rfl
theorem px_non {j pos} : PX X E (.Constant .none j pos) (dC .non) := px_const pe_non rfl fun _ => rfl
theorem px_str {i j pos} : PX X E (.Constant (.str i) j pos) (dC (.str i)) := px_const pe_str rfl fun _ => rfl
theorem px_glob {x : Str} {a : Addr} (hm : X.mg x = some (.ref a)) (hg : Gl X x := by rfl) (hd : (x == ("__debug__" : Str)) = false := by decide) : PX X E (.Name x pos) (dC (.ob a)) :=
  px_const (pe_glob (v := .ref a) hg hm rfl hd) rfl fun _ => rfl
theorem px_bltn {x : Str} {n : String} (hm : X.mg x = none) (hv : bootBuiltins x = some (.type n)) (hg : Gl X x := by rfl) (hn : x ≠ "__name__" := by decide) (hd : (x == ("__debug__" : Str)) = false := by decide) : PX X E (.Name x pos) (dC (.ty n)) :=
  px_const (pe_bltn (v := .ty n) hg hm hv rfl hn hd) rfl fun _ => rfl
theorem px_n (i : Nat) {x : Str} (hN : X.N[i]? = some x := by rfl) (hv : Vis X.env.scope x := by first | exact Or.inl rfl | exact Or.inr (Or.inl rfl) | exact Or.inr (Or.inr rfl)) (hd : (x == ("__debug__" : Str)) = false := by decide)
    (hcd : (x == ("__classdict__" : Str)) = false := by decide) : PX X E (.Name x pos) (dN i) := ⟨fun Ex _ => pe_imp (pe_var hN hv hd hcd) fun σ H Q ⟨F, Γ, fps, P, ok, q, k⟩ => by
  obtain ⟨d, e, q⟩ := un_of q
  obtain ⟨v, hv, _⟩ := ok.slot i d (join_some e)
  exact ⟨v, hv, k v H ⟨F, Γ, fps, .s i, Nil, At.start ok, ⟨rfl, hv⟩, q⟩⟩⟩
theorem px_bin {op : Operator} {f : F2} (ho : OpD X E (binaryOp op) f) (ha : PX X E a ta) (hb : PX X E b tb) : PX X E (.BinOp a op b pos) (dBin f ta tb) := ⟨fun Ex tk => by
  obtain ⟨r, hr, hf⟩ := ho.ex
  refine pe_imp (pe_op hr (ha.of Ex tk) (hb.of Ex tk)) fun σ H Q ⟨F, Γ, fps, P, ok, q, k⟩ => ?_
  refine first (t := ta) ok q fun x H1 F1 Γ1 fps1 A f1 A1 h1 q => next (t := tb) A1 (HoldL.one h1) q fun y H2 F2 Γ2 fps2 B f2 A2 h1 h2 dj q => ?_
  obtain ⟨d, e1, q⟩ := un_of q
  obtain ⟨e, e2, q⟩ := un_of q
  obtain ⟨_, _, _, _, hv, hT, _, h1, hn⟩ := h1
  cases hv
  exact hf F2 H2 d e x y _ _ A2.ok.sub (h1.peek A2.ok e1) (h2.peek A2.ok e2) q fun z F' H' g v o ev s q => k v H' (A2.done o ev s q)⟩
theorem px_cmp {op : CmpOp} {f : F2} (ho : OpD X E (compareOp op) f) (ha : PX X E a ta) (hb : PX X E b tb) (hm : behindInMarks op b = false) : PX X E (.Compare a [op] [b] pos) (dBin f ta tb) := ⟨fun Ex tk => by
  obtain ⟨r, hr, hf⟩ := ho.ex
  refine pe_imp (pe_cmpR hr (ha.of Ex tk) (hb.of Ex tk) hm) fun σ H Q ⟨F, Γ, fps, P, ok, q, k⟩ => ?_
  refine first (t := ta) ok q fun x H1 F1 Γ1 fps1 A f1 A1 h1 q => next (t := tb) A1 (HoldL.one h1) q fun y H2 F2 Γ2 fps2 B f2 A2 h1 h2 dj q => ?_
  obtain ⟨d, e1, q⟩ := un_of q
  obtain ⟨e, e2, q⟩ := un_of q
  obtain ⟨_, _, _, _, hv, hT, _, h1, hn⟩ := h1
  cases hv
  exact hf F2 H2 d e x y _ _ A2.ok.sub (h1.peek A2.ok e1) (h2.peek A2.ok e2) q fun z F' H' g v o ev s q => k v H' (A2.done o ev s q)⟩
/-- the reading of a test that a value is: its value is a truth -/
theorem bl_of {σ : L2.St} {H : Hp} {Q : Bool → Hp → Prop} {t : TX} {Ex : DX} (h : ttOf E (dBl t) Ex σ H Q) : teOf E t Ex σ H fun x H' => ∃ k, x = .bl k ∧ Q k H' := by
  obtain ⟨F, Γ, fps, P, ok, q, k⟩ := h
  refine first (t := t) ok q fun x H1 F1 Γ1 fps1 A f1 A1 h1 q => ?_
  obtain ⟨d, e1, q⟩ := un_of q
  have pk := h1.peek A1.ok e1
  cases d with
  | bl b =>
    refine ⟨b, pk_fz pk rfl, k b H1 ⟨F1, Γ1, fps1, A1.drop, q⟩⟩
  | _ => exact q.elim
theorem pb_cmp {op : CmpOp} {f : F2} (ho : OpD X E (compareOp op) f) (ha : PX X E a ta) (hb : PX X E b tb) (hm : behindInMarks op b = false) : PB X E (.Compare a [op] [b] pos) (dBl (dBin f ta tb)) := ⟨fun Ex tk => by
  obtain ⟨r, hr, hf⟩ := ho.ex
  refine pt_imp (pt_cmpR hr (ha.of Ex tk) (hb.of Ex tk) hm) fun σ H Q h => ?_
  obtain ⟨F, Γ, fps, P, ok, q, k⟩ := bl_of h
  refine first (t := ta) ok q fun x H1 F1 Γ1 fps1 A f1 A1 h1 q => next (t := tb) A1 (HoldL.one h1) q fun y H2 F2 Γ2 fps2 B f2 A2 h1 h2 dj q => ?_
  obtain ⟨d, e1, q⟩ := un_of q
  obtain ⟨e, e2, q⟩ := un_of q
  obtain ⟨_, _, _, _, hv, hT, _, h1, hn⟩ := h1
  cases hv
  exact hf F2 H2 d e x y _ _ A2.ok.sub (h1.peek A2.ok e1) (h2.peek A2.ok e2) q fun z F' H' g v o ev s q => k v H' (A2.done o ev s q)⟩
theorem chain_go {f g : F2} {r r' : R2} {Ex : DX} {σ : L2.St} {H : Hp} {Q : VK}
    (hf : ∀ (F H : Hp) (d e : D) (x y : V) (k : D → Prop) (Qv : VK), Sub F H → Pk E.K F H d x → Pk E.K F H e y → f d e k → Fin1 E.K F H k Qv → r x y H Qv)
    (hg : ∀ (F H : Hp) (d e : D) (x y : V) (k : D → Prop) (Qv : VK), Sub F H → Pk E.K F H d x → Pk E.K F H e y → g d e k → Fin1 E.K F H k Qv → r' x y H Qv)
    (h : teOf E (dChain f g ta tb tc) Ex σ H Q) : tChain r r' (teOf E ta Ex) (teOf E tb Ex) (teOf E tc Ex) σ H Q := by
  obtain ⟨F, Γ, fps, P, ok, q, k⟩ := h
  refine first (t := ta) ok q fun x H1 F1 Γ1 fps1 A f1 A1 h1 q => next (t := tb) A1 (HoldL.one h1) q fun y H2 F2 Γ2 fps2 B f2 A2 h1 h2 dj q => ?_
  obtain ⟨d, e1, q⟩ := un_of q
  obtain ⟨e, e2, q⟩ := un_of q
  obtain ⟨_, _, _, _, hv, hT, _, h1, hn⟩ := h1
  cases hv
  refine hf F2 H2 d e x y _ _ A2.ok.sub (h1.peek A2.ok e1) (h2.peek A2.ok e2) q fun z F' H' g' v o ev s q => ?_
  cases z with
  | bl cc =>
    cases (show v = .bl cc from o.2)
    refine ⟨cc, rfl, ?_⟩
    have A2b : At E F H fps σ F2 H2 Γ2 fps2 f2 := A2.mono fun x w => .inr w
    have A3 : At E F H fps σ F' H' Γ2 fps2 f2 := by
      have w : Evo F2 H2 f2 F' H' f2 := ((ev.wide (g := f2)).sub (fp1 := f2) fun x q => q.elim id fun z => z.elim).less fun x q => .inl q
      refine ⟨A2b.ok.grow (ev.sub (fp1 := Nil) fun _ z => z) s (fun _ z => z.elim) (fun _ z => z.elim), (A2b.evo.trans ?_), A2b.dj⟩
      exact ((ev.wide (g := fun x => f2 x ∨ U fps2 x)).sub (fp1 := fun x => f2 x ∨ U fps2 x) fun x q => q.elim id fun z => z.elim).less fun x q => .inl q
    have h2' : Hold E.K F' H' σ B y f2 := h2.keep (ev.kp h2.trk fun _ _ z => z)
    by_cases hc : cc = true
    · subst hc
      rw [if_pos rfl]
      have q' : tc Ex Γ2 fun e Γ3 => un (B.res Γ3) fun y' => un (e.res Γ3) fun u => g y' u fun z => P (.v z) Γ3 := q
      refine next (t := tc) A3 (HoldL.one h2') q' fun u H4 F4 Γ4 fps4 C f4 A4 h4 h5 dj q => ?_
      obtain ⟨d', e3, q⟩ := un_of q
      obtain ⟨e', e4, q⟩ := un_of q
      obtain ⟨_, _, _, _, hv, hT, _, h4, hn⟩ := h4
      cases hv
      exact hg F4 H4 d' e' y u _ _ A4.ok.sub (h4.peek A4.ok e3) (h5.peek A4.ok e4) q fun z F' H' g v o ev s q => k v H' (A4.done o ev s q)
    · have e0 : cc = false := by cases cc <;> first | rfl | exact absurd rfl hc
      subst e0
      rw [if_neg Bool.false_ne_true]
      exact k _ _ (A3.val (d := .bl false) ⟨rfl, rfl⟩ q)
  | _ => exact q.elim
theorem px_chain {op op' : CmpOp} {f g : F2} (ho : OpD X E (compareOp op) f) (ho' : OpD X E (compareOp op') g) (ha : PX X E a ta) (hb : PX X E b tb) (hc : PX X E c tc) (hm : lastMarks [op, op'] [b, c] = false := by with_unfolding_all rfl) :
    PX X E (.Compare a [op, op'] [b, c] pos) (dChain f g ta tb tc) := ⟨fun Ex tk => by
  obtain ⟨r, hr, hf⟩ := ho.ex
  obtain ⟨r', hr', hf'⟩ := ho'.ex
  exact pe_imp (pe_chain hr hr' (ha.of Ex tk) (hb.of Ex tk) (hc.of Ex tk) hm) fun σ H Q h => chain_go hf hf' h⟩
theorem pb_chain {op op' : CmpOp} {f g : F2} (ho : OpD X E (compareOp op) f) (ho' : OpD X E (compareOp op') g) (ha : PX X E a ta) (hb : PX X E b tb) (hc : PX X E c tc) (hm : lastMarks [op, op'] [b, c] = false := by with_unfolding_all rfl) :
    PB X E (.Compare a [op, op'] [b, c] pos) (dBl (dChain f g ta tb tc)) := ⟨fun Ex tk => by
  obtain ⟨r, hr, hf⟩ := ho.ex
  obtain ⟨r', hr', hf'⟩ := ho'.ex
  exact pt_imp (pt_chain hr hr' (ha.of Ex tk) (hb.of Ex tk) (hc.of Ex tk) hm) fun σ H Q h => chain_go hf hf' (bl_of h)⟩
theorem pb_val (ha : PX X E a ta) (he : ∀ whole, isTrue a X.env whole = (do let v ← whole; standAt a.pos; holding [v] (truthy v)) := by intro _; rfl) : PB X E a (dBl ta) := ⟨fun Ex tk =>
  pt_imp (pt_val (ha.of Ex tk) he) fun σ H Q h => bl_of h⟩
theorem pb_tru (ha : PX X E a ta) (hK : E.K = X.K := by rfl) (he : ∀ whole, isTrue a X.env whole = (do let v ← whole; standAt a.pos; holding [v] (truthy v)) := by intro _; rfl) : PB X E a (dTru ta) := ⟨fun Ex tk =>
  pt_imp (pt_truth (ha.of Ex tk) he) fun σ H Q h => by
    obtain ⟨F, Γ, fps, P, ok, q, k⟩ := h
    refine first (t := ta) ok q fun x H1 F1 Γ1 fps1 A f1 A1 h1 q => ?_
    obtain ⟨d, e1, q⟩ := un_of q
    have pk := h1.peek A1.ok e1
    have fin : ∀ b, P b Γ1 → Q b H1 := fun b q => k b H1 ⟨F1, Γ1, fps1, A1.drop, q⟩
    cases d with
    | non => cases (show x = .non from pk_fz pk rfl); exact ⟨_, rfl, fin _ q⟩
    | bl _ => cases (show x = .bl _ from pk_fz pk rfl); exact ⟨_, rfl, fin _ q⟩
    | int _ => cases (show x = .int _ from pk_fz pk rfl); exact ⟨_, rfl, fin _ q⟩
    | str _ => cases (show x = .str _ from pk_fz pk rfl); exact ⟨_, ⟨sz_line q.1, rfl⟩, fin _ q.2⟩
    | lst o l =>
      obtain ⟨a, vs, rfl, g1, r1, _⟩ := pk_lst A1.ok.sub pk
      have e : vs.isEmpty = l.isEmpty := RepL.isEmpty r1
      exact ⟨!l.isEmpty, .inl ⟨vs, by rw [← hK]; exact g1, by rw [e]⟩, fin _ q⟩
    | tup l =>
      obtain ⟨a, vs, rfl, g1, _, r1⟩ := pk_tup A1.ok.sub pk
      have e : vs.isEmpty = l.isEmpty := RepL.isEmpty r1
      exact ⟨!l.isEmpty, .inr (.inl ⟨vs, by rw [← hK]; exact g1, by rw [e]⟩), fin _ q⟩
    | _ => exact q.elim⟩
theorem PW'.pb (h : PW' X E a t) : PB X E a t := ⟨fun Ex tk => (h.of Ex tk).pt⟩
theorem pb_not (h : PB X E a t) : PB X E (.UnaryOp .Not a pos) (dNot t) := ⟨fun Ex tk => pt_imp (pt_not (h.of Ex tk)) fun σ H Q ⟨F, Γ, fps, P, ok, q, k⟩ =>
  firstB (t := t) ok q fun b H1 F1 Γ1 fps1 A1 q => k _ H1 ⟨F1, Γ1, fps1, A1, q⟩⟩
theorem pw_a1 (h : PB X E a t) : PW' X E (.BoolOp .And [a] pos) t := ⟨fun Ex tk => pw_and1 (h.of Ex tk)⟩
theorem pw_o1 (h : PB X E a t) : PW' X E (.BoolOp .Or [a] pos) t := ⟨fun Ex tk => pw_or1 (h.of Ex tk)⟩
theorem nil_or {T : ASet} : (fun x => Nil x ∨ T x) = T := by
  funext x
  exact propext ⟨fun q => q.elim (fun z => z.elim) id, .inr⟩
theorem or_nil {T : ASet} : (fun x => T x ∨ Nil x) = T := by
  funext x
  exact propext ⟨fun q => q.elim id (fun z => z.elim), .inl⟩
theorem pw_a {rest : List Expr} (ha : PB X E a t) (hb : PW' X E (.BoolOp .And (b :: rest) pos) u) : PW' X E (.BoolOp .And (a :: b :: rest) pos) (dAnd t u) := ⟨fun Ex tk => pw_imp (pw_and (ha.of Ex tk) (hb.of Ex tk)) fun σ H Q ⟨F, Γ, fps, P, ok, q, k⟩ =>
  firstB (t := t) ok q fun c H1 F1 Γ1 fps1 A1 q => by
    by_cases hc : c = true
    · rw [if_pos hc] at q ⊢
      exact nextB (t := u) A1 HoldL.nil q fun b H2 F2 Γ2 fps2 A2 _ q => k b H2 ⟨F2, Γ2, fps2, A2, q⟩
    · rw [if_neg hc] at q ⊢
      exact k _ H1 ⟨F1, Γ1, fps1, A1, q⟩⟩
theorem pw_o {rest : List Expr} (ha : PB X E a t) (hb : PW' X E (.BoolOp .Or (b :: rest) pos) u) : PW' X E (.BoolOp .Or (a :: b :: rest) pos) (dOr t u) := ⟨fun Ex tk => pw_imp (pw_or (ha.of Ex tk) (hb.of Ex tk)) fun σ H Q ⟨F, Γ, fps, P, ok, q, k⟩ =>
  firstB (t := t) ok q fun c H1 F1 Γ1 fps1 A1 q => by
    by_cases hc : c = true
    · rw [if_pos hc] at q ⊢
      exact k _ H1 ⟨F1, Γ1, fps1, A1, q⟩
    · rw [if_neg hc] at q ⊢
      exact nextB (t := u) A1 HoldL.nil q fun b H2 F2 Γ2 fps2 A2 _ q => k b H2 ⟨F2, Γ2, fps2, A2, q⟩⟩
theorem px_one {op} (h : PX X E a ta) : PX X E (.BoolOp op [a] pos) ta := ⟨fun Ex tk => pe_one (h.of Ex tk)⟩
theorem px_and {rest : List Expr} (ha : PX X E a ta) (hb : PX X E (.BoolOp .And (b :: rest) pos) tb) : PX X E (.BoolOp .And (a :: b :: rest) pos) (dAndV ta tb) := ⟨fun Ex tk => pe_imp (pe_and (ha.of Ex tk) (hb.of Ex tk)) fun σ H Q ⟨F, Γ, fps, P, ok, q, k⟩ =>
  first (t := ta) ok q fun x H1 F1 Γ1 fps1 A f1 A1 h1 q => by
    obtain ⟨d, e1, q⟩ := un_of q
    have pk := h1.peek A1.ok e1
    cases d with
    | bl c =>
      refine ⟨c, pk_fz pk rfl, ?_⟩
      have q' : if c = true then tb Ex Γ1 P else P (.v (.bl false)) Γ1 := q
      by_cases hc : c = true
      · rw [if_pos hc] at q' ⊢
        exact next (t := tb) A1.drop HoldL.nil q' fun y H2 F2 Γ2 fps2 B f2 A2 _ h2 _ q => k y H2 ⟨F2, Γ2, fps2, B, f2, by rw [nil_or] at A2; exact A2, h2, q⟩
      · rw [if_neg hc] at q' ⊢
        exact k _ H1 (A1.val (d := .bl false) ⟨rfl, rfl⟩ q')
    | _ => exact q.elim⟩
theorem px_or {rest : List Expr} (ha : PX X E a ta) (hb : PX X E (.BoolOp .Or (b :: rest) pos) tb) : PX X E (.BoolOp .Or (a :: b :: rest) pos) (dOrV ta tb) := ⟨fun Ex tk => pe_imp (pe_or (ha.of Ex tk) (hb.of Ex tk)) fun σ H Q ⟨F, Γ, fps, P, ok, q, k⟩ =>
  first (t := ta) ok q fun x H1 F1 Γ1 fps1 A f1 A1 h1 q => by
    obtain ⟨d, e1, q⟩ := un_of q
    have pk := h1.peek A1.ok e1
    cases d with
    | bl c =>
      refine ⟨c, pk_fz pk rfl, ?_⟩
      have q' : if c = true then P (.v (.bl true)) Γ1 else tb Ex Γ1 P := q
      by_cases hc : c = true
      · rw [if_pos hc] at q' ⊢
        exact k _ H1 (A1.val (d := .bl true) ⟨rfl, rfl⟩ q')
      · rw [if_neg hc] at q' ⊢
        exact next (t := tb) A1.drop HoldL.nil q' fun y H2 F2 Γ2 fps2 B f2 A2 _ h2 _ q => k y H2 ⟨F2, Γ2, fps2, B, f2, by rw [nil_or] at A2; exact A2, h2, q⟩
    | _ => exact q.elim⟩
theorem px_not (ha : PX X E a ta) : PX X E (.UnaryOp .Not a pos) (dNotV ta) := ⟨fun Ex tk => pe_imp (pe_not (ha.of Ex tk)) fun σ H Q ⟨F, Γ, fps, P, ok, q, k⟩ =>
  first (t := ta) ok q fun x H1 F1 Γ1 fps1 A f1 A1 h1 q => by
    obtain ⟨d, e1, q⟩ := un_of q
    have pk := h1.peek A1.ok e1
    cases d with
    | bl c => exact ⟨c, pk_fz pk rfl, k _ H1 (A1.val (d := .bl !c) ⟨rfl, rfl⟩ q)⟩
    | _ => exact q.elim⟩
theorem pxs_nil : PXs X E [] dNil := ⟨fun Ex tk => pa_imp pa_nil fun σ H Q ⟨F, Γ, fps, P, ok, q, k⟩ => k [] H ⟨F, Γ, fps, [], Nil, At.start ok, HoldL.nil, q⟩⟩
theorem pxs_cons (ha : PX X E a ta) (hr : PXs X E es tas) (hs : starEach (a :: es) X.env = (false, eval a X.env) :: starEach es X.env := by rfl) : PXs X E (a :: es) (dCons ta tas) := ⟨fun Ex tk =>
  pa_imp (pa_cons (ha.of Ex tk) (hr.of Ex tk) hs) fun σ H Q ⟨F, Γ, fps, P, ok, q, k⟩ => first (t := ta) ok q fun x H1 F1 Γ1 fps1 A f1 A1 h1 q =>
    nextL (t := tas) A1 (HoldL.one h1) q fun ws H2 F2 Γ2 fps2 bs f2 A2 h1 h2 dj q => by
      obtain ⟨_, _, g1, g2, hv, hT, _, h1, hn⟩ := h1
      cases hv
      have eg : f1 = g1 := by
        rw [hT, hn.2]
        exact or_nil
      subst eg
      exact k (x :: ws) H2 ⟨F2, Γ2, fps2, A :: bs, _, A2, ⟨x, ws, f1, f2, rfl, rfl, dj, h1, h2⟩, q⟩⟩
theorem px_tup {x1} (h : PXs X E es tas) : PX X E (.Tuple es x1 pos) (dTup tas) := ⟨fun Ex tk => pe_imp (pe_tup (h.of Ex tk)) fun σ H Q ⟨F, Γ, fps, P, ok, q, k⟩ =>
  firstL (t := tas) ok q fun vs H1 F1 Γ1 fps1 as f1 A1 h1 q => by
    obtain ⟨F2, Γ2, fps2, ds, A2, r, s, z, q⟩ := At.demL ok A1 h1 q
    refine ⟨by rw [r.length]; exact sz_line z, fun p hp => ?_⟩
    have e := Evo.newF (o := .tup vs) A2.ok.sub hp
    exact k _ _ (A2.done (d := .tup ds) (f := Nil) ⟨rfl, p, vs, rfl, SqT.of upd_same, RepL.mono e.ext ds vs r⟩ e (sub_newF A2.ok.sub) q)⟩
theorem px_lst (h : PXs X E es tas) : PX X E (.List es pos) (dLst tas) := ⟨fun Ex tk => pe_imp (pe_lst (h.of Ex tk)) fun σ H Q ⟨F, Γ, fps, P, ok, q, k⟩ =>
  firstL (t := tas) ok q fun vs H1 F1 Γ1 fps1 as f1 A1 h1 q => by
    obtain ⟨F2, Γ2, fps2, ds, A2, r, s, z, q⟩ := At.demL ok A1 h1 q
    refine ⟨by rw [r.length]; exact sz_line z, fun p hp => ?_⟩
    exact k _ _ (A2.done (d := .lst .o ds) (f := fun b => b = p) ⟨p, vs, rfl, rfl, none_sub A2.ok.sub hp, upd_same, r⟩ (Evo.new hp) (sub_new A2.ok.sub hp) q)⟩
end
end DL

/-! DF: calls of built-ins, places, slices, methods, by data. -/
namespace DL
open PySem PySem.Spec PyProof.Rows L2

abbrev FL := List D → (D → Prop) → Prop
structure CallD (X : Cx) (E : EC) (f : Value) (g : FL) : Prop where
  ex : ∃ r, CallR X f r ∧ ∀ (F H : Hp) (ds : List D) (vs : List V) (k : D → Prop) (Qv : VK), Sub F H → PkL E.K F H ds vs → g ds k → Fin1 E.K F H k Qv → r vs H Qv
theorem callR_or {X : Cx} {f : Value} {r r' : List V → Hp → VK → Prop} (h : CallR X f r) (h' : CallR X f r') : CallR X f (fun x H Q => r x H Q ∨ r' x H Q) := by
  intro pins s σ H x v Q I rx q
  rcases q with q | q
  · exact h pins s σ H x v Q I rx q
  · exact h' pins s σ H x v Q I rx q
def dB (g : FL) (ta : TXs) : TX := fun Ex Γ Q => ta Ex Γ fun as Γ1 => un (resL as Γ1) fun ds => g ds fun z => Q (.v z) Γ1
section
variable {X : Cx} {E : EC} {e : Expr} {es : List Expr} {tas : TXs} {x : Str} {p pos : Pos} {g : FL}
theorem px_callB {id : String} (hc : CallD X E (.builtin id) g) (ha : PXs X E (e :: es) tas) (hm : X.mg x = none) (hv : bootBuiltins x = some (.builtin id)) (hg : Gl X x := by rfl) (hn : x ≠ "__name__" := by decide) (hdb : (x == ("__debug__" : Str)) = false := by decide)
    (he : starEach (e :: es) X.env = (false, eval e X.env) :: starEach es X.env := by rfl) (hpl : (backTo pos (starEach es X.env)).any (·.1) = false := by rfl) : PX X E (.Call (.Name x p) (e :: es) [] pos) (dB g tas) := ⟨fun Ex tk => by
  obtain ⟨r, hr, hf⟩ := hc.ex
  refine pe_imp (pe_callB hr hg hm hv (ha.of Ex tk) hn hdb he hpl) fun σ H Q ⟨F, Γ, fps, P, ok, q, k⟩ => ?_
  refine firstL (t := tas) ok q fun vs H1 F1 Γ1 fps1 as f1 A1 h1 q => ?_
  obtain ⟨ds, e1, q⟩ := un_of q
  exact hf F1 H1 ds vs _ _ A1.ok.sub (h1.peek A1.ok e1) q fun z F' H' g v o ev s q => k v H' (A1.done o ev s q)⟩
theorem px_callT {T : String} (hc : CallD X E (.type T) g) (ha : PXs X E (e :: es) tas) (hm : X.mg x = none) (hv : bootBuiltins x = some (.type T)) (hg : Gl X x := by rfl) (hn : x ≠ "__name__" := by decide) (hdb : (x == ("__debug__" : Str)) = false := by decide)
    (he : starEach (e :: es) X.env = (false, eval e X.env) :: starEach es X.env := by rfl) (hpl : (backTo pos (starEach es X.env)).any (·.1) = false := by rfl) : PX X E (.Call (.Name x p) (e :: es) [] pos) (dB g tas) := ⟨fun Ex tk => by
  obtain ⟨r, hr, hf⟩ := hc.ex
  refine pe_imp (pe_callTy hr hg hm hv (ha.of Ex tk) hn hdb he hpl) fun σ H Q ⟨F, Γ, fps, P, ok, q, k⟩ => ?_
  refine firstL (t := tas) ok q fun vs H1 F1 Γ1 fps1 as f1 A1 h1 q => ?_
  obtain ⟨ds, e1, q⟩ := un_of q
  exact hf F1 H1 ds vs _ _ A1.ok.sub (h1.peek A1.ok e1) q fun z F' H' g v o ev s q => k v H' (A1.done o ev s q)⟩
end
theorem pkL1 {K : PySem.W.Frag} {F H : Hp} {d : D} {vs : List V} (h : PkL K F H [d] vs) : ∃ v, vs = [v] ∧ Pk K F H d v := by
  obtain ⟨v, r, rfl, h1, h2⟩ := h
  rw [show r = [] from h2]
  exact ⟨v, rfl, h1⟩
theorem pkL2 {K : PySem.W.Frag} {F H : Hp} {d e : D} {vs : List V} (h : PkL K F H [d, e] vs) : ∃ v w, vs = [v, w] ∧ Pk K F H d v ∧ Pk K F H e w := by
  obtain ⟨v, r, rfl, h1, h2⟩ := h
  obtain ⟨w, rfl, h3⟩ := pkL1 h2
  exact ⟨v, w, rfl, h1, h3⟩

/-! ### built-ins -/
def f1 (g : D → (D → Prop) → Prop) : FL := fun ds k => match ds with | [x] => g x k | _ => False
def f2' (g : D → D → (D → Prop) → Prop) : FL := fun ds k => match ds with | [x, y] => g x y k | _ => False
def lenD : D → (D → Prop) → Prop := fun x k => match x with
  | .str s => s.length ≤ 16777216 ∧ k (.int s.length)
  | .lst _ l => k (.int l.length)
  | .tup l => k (.int l.length)
  | _ => False
def absD : D → (D → Prop) → Prop := fun x k => match x with
  | .int i => k (.int (if i < 0 then -i else i))
  | _ => False
def int1D : D → (D → Prop) → Prop := fun x k => match x with
  | .int i => k (.int i)
  | .bl b => k (.int (if b then 1 else 0))
  | _ => False
def max2D : D → D → (D → Prop) → Prop := fun x y k => match x, y with
  | .int i, .int j => k (.int (if j > i then j else i))
  | _, _ => False
def min2D : D → D → (D → Prop) → Prop := fun x y k => match x, y with
  | .int i, .int j => k (.int (if j < i then j else i))
  | _, _ => False
def listD : D → (D → Prop) → Prop := fun x k => match x with
  | .lst _ l => k (.lst .o l)
  | .tup l => k (.lst .o l)
  | _ => False
def tupleD : D → (D → Prop) → Prop := fun x k => match x with
  | .lst _ l => k (.tup l)
  | .tup l => k (.tup l)
  | _ => False
def strD : D → (D → Prop) → Prop := fun x k => match x with
  | .int i => i.natAbs.log2 < 1920 ∧ k (.str (toString i))
  | .str s => k (.str s)
  | _ => False
/-- int of a text -/
def intD : D → (D → Prop) → Prop := fun x k => match x with
  | .int i => k (.int i)
  | .bl b => k (.int (if b then 1 else 0))
  | .str s => s.length ≤ 640 ∧ ∃ n, PySem.intText? s = some n ∧ k (.int n)
  | _ => False
def blsOf : List D → Option (List Bool)
  | [] => some []
  | .bl b :: l => (blsOf l).map (b :: ·)
  | _ :: _ => none
def intsOf : List D → Option (List Int)
  | [] => some []
  | .int b :: l => (intsOf l).map (b :: ·)
  | _ :: _ => none
def strsOf : List D → Option (List Str)
  | [] => some []
  | .str b :: l => (strsOf l).map (b :: ·)
  | _ :: _ => none
theorem blsOf_map (l : List Bool) : blsOf (l.map D.bl) = some l := by
  induction l with
  | nil => rfl
  | cons a l ih => show (blsOf (l.map D.bl)).map (a :: ·) = _; rw [ih]; rfl
theorem intsOf_map (l : List Int) : intsOf (l.map D.int) = some l := by
  induction l with
  | nil => rfl
  | cons a l ih => show (intsOf (l.map D.int)).map (a :: ·) = _; rw [ih]; rfl
theorem strsOf_map (l : List Str) : strsOf (l.map D.str) = some l := by
  induction l with
  | nil => rfl
  | cons a l ih => show (strsOf (l.map D.str)).map (a :: ·) = _; rw [ih]; rfl
theorem blsOf_v {K : PySem.W.Frag} {F : Hp} : ∀ {l : List D} {vs : List V} {bs : List Bool}, RepL K F l vs → blsOf l = some bs → vs = bs.map V.bl
  | [], vs, bs, h, e => by cases e; exact h
  | d :: l, vs, bs, h, e => by
    obtain ⟨v, r, rfl, h1, h2⟩ := h
    cases d with
    | bl b =>
      have e' : (blsOf l).map (b :: ·) = some bs := e
      cases q : blsOf l with
      | none => rw [q] at e'; cases e'
      | some cs =>
        rw [q] at e'
        cases e'
        rw [blsOf_v h2 q, show v = .bl b from h1]
        rfl
    | _ => cases e
theorem intsOf_v {K : PySem.W.Frag} {F : Hp} : ∀ {l : List D} {vs : List V} {bs : List Int}, RepL K F l vs → intsOf l = some bs → vs = bs.map V.int
  | [], vs, bs, h, e => by cases e; exact h
  | d :: l, vs, bs, h, e => by
    obtain ⟨v, r, rfl, h1, h2⟩ := h
    cases d with
    | int b =>
      have e' : (intsOf l).map (b :: ·) = some bs := e
      cases q : intsOf l with
      | none => rw [q] at e'; cases e'
      | some cs =>
        rw [q] at e'
        cases e'
        rw [intsOf_v h2 q, show v = .int b from h1]
        rfl
    | _ => cases e
theorem strsOf_v {K : PySem.W.Frag} {F : Hp} : ∀ {l : List D} {vs : List V} {bs : List Str}, RepL K F l vs → strsOf l = some bs → vs = bs.map V.str
  | [], vs, bs, h, e => by cases e; exact h
  | d :: l, vs, bs, h, e => by
    obtain ⟨v, r, rfl, h1, h2⟩ := h
    cases d with
    | str b =>
      have e' : (strsOf l).map (b :: ·) = some bs := e
      cases q : strsOf l with
      | none => rw [q] at e'; cases e'
      | some cs =>
        rw [q] at e'
        cases e'
        rw [strsOf_v h2 q, show v = .str b from h1]
        rfl
    | _ => cases e
theorem repL_strs {K : PySem.W.Frag} {F : Hp} (l : List Str) : RepL K F (l.map D.str) (l.map V.str) := by
  induction l with
  | nil => rfl
  | cons a l ih => exact ⟨_, _, rfl, rfl, ih⟩
/-- the items of a list or tuple -/
def seqOf : D → Option (List D)
  | .lst _ l => some l
  | .tup l => some l
  | _ => none
theorem pk_seq {K : PySem.W.Frag} {F H : Hp} {d : D} {v : V} {l : List D} (s : Sub F H) (h : Pk K F H d v) (e : seqOf d = some l) : ∃ a vs, v = .ref a ∧ (SqL K H a vs ∨ SqT K H a vs) ∧ RepL K F l vs := by
  cases d with
  | lst o m =>
    cases e
    obtain ⟨a, vs, e, h1, h2, _⟩ := pk_lst s h
    exact ⟨a, vs, e, .inl h1, h2⟩
  | tup m =>
    cases e
    obtain ⟨a, vs, e, h1, _, h2⟩ := pk_tup s h
    exact ⟨a, vs, e, .inr h1, h2⟩
  | _ => cases e
def allD : D → (D → Prop) → Prop := fun x k => match x with
  | .lst _ l => un (blsOf l) fun bs => k (.bl (bs.all id))
  | _ => False
def sumD : D → (D → Prop) → Prop := fun x k => match x with
  | .lst _ l => un (intsOf l) fun bs => k (.int bs.sum)
  | _ => False
section
variable {X : Cx} {E : EC}
theorem cd_1 {f : Value} {r : List V → Hp → VK → Prop} {g : D → (D → Prop) → Prop} (h : CallR X f r) (hf : ∀ (F H : Hp) (d : D) (v : V) (k : D → Prop) (Qv : VK), Sub F H → Pk E.K F H d v → g d k → Fin1 E.K F H k Qv → r [v] H Qv) : CallD X E f (f1 g) :=
  ⟨r, h, fun F H ds vs k Qv s pk q fin => by
    cases ds with
    | nil => exact q.elim
    | cons d r' =>
      cases r' with
      | nil =>
        obtain ⟨v, rfl, pk1⟩ := pkL1 pk
        exact hf F H d v k Qv s pk1 q fin
      | cons _ _ => exact q.elim⟩
theorem cd_2 {f : Value} {r : List V → Hp → VK → Prop} {g : D → D → (D → Prop) → Prop} (h : CallR X f r) (hf : ∀ (F H : Hp) (d e : D) (v w : V) (k : D → Prop) (Qv : VK), Sub F H → Pk E.K F H d v → Pk E.K F H e w → g d e k → Fin1 E.K F H k Qv → r [v, w] H Qv) : CallD X E f (f2' g) :=
  ⟨r, h, fun F H ds vs k Qv s pk q fin => by
    cases ds with
    | nil => exact q.elim
    | cons d r' =>
      cases r' with
      | nil => exact q.elim
      | cons e r' =>
        cases r' with
        | nil =>
          obtain ⟨v, w, rfl, pk1, pk2⟩ := pkL2 pk
          exact hf F H d e v w k Qv s pk1 pk2 q fin
        | cons _ _ => exact q.elim⟩
theorem cd_len (hK : E.K = X.K := by rfl) : CallD X E (.builtin "len") (f1 lenD) := cd_1 (callR_or call_len_str call_len_seq) fun F H d v k Qv s pk q fin => by
  cases d with
  | str z => cases (show v = .str z from pk_fz pk rfl); exact .inl ⟨z, rfl, sz_line q.1, fin_int fin s q.2⟩
  | lst o l =>
    obtain ⟨a, vs, rfl, h1, r1, _⟩ := pk_lst s pk
    exact .inr ⟨a, vs, rfl, .inl (by rw [← hK]; exact h1), by rw [r1.length]; exact fin_int fin s q⟩
  | tup l =>
    obtain ⟨a, vs, rfl, h1, _, r1⟩ := pk_tup s pk
    exact .inr ⟨a, vs, rfl, .inr (by rw [← hK]; exact h1), by rw [r1.length]; exact fin_int fin s q⟩
  | _ => exact q.elim
theorem cd_abs : CallD X E (.builtin "abs") (f1 absD) := cd_1 call_abs fun F H d v k Qv s pk q fin => by
  cases d with
  | int i => cases (show v = .int i from pk_fz pk rfl); exact ⟨i, rfl, fin_int fin s q⟩
  | _ => exact q.elim
theorem cd_int : CallD X E (.type "int") (f1 intD) := cd_1 (callR_or call_int1 call_int_str) fun F H d v k Qv s pk q fin => by
  cases d with
  | int i => cases (show v = .int i from pk_fz pk rfl); exact .inl (.inl ⟨i, rfl, fin_int fin s q⟩)
  | bl b => cases (show v = .bl b from pk_fz pk rfl); exact .inl (.inr ⟨b, rfl, fin_int fin s q⟩)
  | str z =>
    cases (show v = .str z from pk_fz pk rfl)
    obtain ⟨h1, n, h2, q⟩ := q
    exact .inr ⟨z, n, rfl, h2, h1, fin_int fin s q⟩
  | _ => exact q.elim
theorem cd_str : CallD X E (.type "str") (f1 strD) := cd_1 (callR_or call_str_int SkE.call_str_str) fun F H d v k Qv s pk q fin => by
  cases d with
  | int i => cases (show v = .int i from pk_fz pk rfl); exact .inl ⟨i, rfl, q.1, fin_str fin s q.2⟩
  | str z => cases (show v = .str z from pk_fz pk rfl); exact .inr ⟨z, rfl, fin_str fin s q⟩
  | _ => exact q.elim
theorem cd_max2 (hc : X.calm = true := by rfl) : CallD X E (.builtin "max") (f2' max2D) := cd_2 (call_max2 hc) fun F H d e v w k Qv s pk pk' q fin => by
  cases d <;> cases e <;> first
    | exact q.elim
    | (rename_i i j; cases (show v = .int i from pk_fz pk rfl); cases (show w = .int j from pk_fz pk' rfl); exact ⟨i, j, rfl, fin_int fin s q⟩)
theorem cd_min2 (hc : X.calm = true := by rfl) : CallD X E (.builtin "min") (f2' min2D) := cd_2 (call_min2 hc) fun F H d e v w k Qv s pk pk' q fin => by
  cases d <;> cases e <;> first
    | exact q.elim
    | (rename_i i j; cases (show v = .int i from pk_fz pk rfl); cases (show w = .int j from pk_fz pk' rfl); exact ⟨i, j, rfl, fin_int fin s q⟩)
theorem cd_list (hK : E.K = X.K := by rfl) : CallD X E (.type "list") (f1 listD) := cd_1 call_list_of fun F H d v k Qv s pk q fin => by
  cases d with
  | lst o l =>
    obtain ⟨a, vs, rfl, h1, r1, _⟩ := pk_lst s pk
    exact ⟨a, vs, rfl, .inl (by rw [← hK]; exact h1), fun p hp => fin_lst fin s hp r1 q⟩
  | tup l =>
    obtain ⟨a, vs, rfl, h1, _, r1⟩ := pk_tup s pk
    exact ⟨a, vs, rfl, .inr (by rw [← hK]; exact h1), fun p hp => fin_lst fin s hp r1 q⟩
  | _ => exact q.elim
theorem cd_tuple (hK : E.K = X.K := by rfl) : CallD X E (.type "tuple") (f1 tupleD) := cd_1 call_tuple_of fun F H d v k Qv s pk q fin => by
  cases d with
  | lst o l =>
    obtain ⟨a, vs, rfl, h1, r1, _⟩ := pk_lst s pk
    exact ⟨a, vs, rfl, .inl ⟨by rw [← hK]; exact h1, fun p hp => fin_tup fin s hp r1 q⟩⟩
  | tup l =>
    obtain ⟨a, vs, rfl, h1, h2, r1⟩ := pk_tup s pk
    exact ⟨a, vs, rfl, .inr ⟨by rw [← hK]; exact h1, fin_val fin s (z := .tup l) (rep_tup h2 r1) rfl q⟩⟩
  | _ => exact q.elim
theorem cd_all (hK : E.K = X.K := by rfl) (hc : X.calm = true := by rfl) : CallD X E (.builtin "all") (f1 allD) := cd_1 (cr_all hc) fun F H d v k Qv s pk q fin => by
  cases d with
  | lst o l =>
    obtain ⟨bs, e, q⟩ := un_of q
    obtain ⟨a, vs, rfl, h1, r1, _⟩ := pk_lst s pk
    have ev := blsOf_v r1 e
    subst ev
    exact ⟨a, bs, rfl, by rw [← hK]; exact h1, fin_bl fin s q⟩
  | _ => exact q.elim
theorem cd_sum (hK : E.K = X.K := by rfl) (hc : X.calm = true := by rfl) : CallD X E (.builtin "sum") (f1 sumD) := cd_1 (cr_sum hc) fun F H d v k Qv s pk q fin => by
  cases d with
  | lst o l =>
    obtain ⟨bs, e, q⟩ := un_of q
    obtain ⟨a, vs, rfl, h1, r1, _⟩ := pk_lst s pk
    have ev := intsOf_v r1 e
    subst ev
    exact ⟨a, bs, rfl, by rw [← hK]; exact h1, fin_int fin s q⟩
  | _ => exact q.elim
end

/-! ### isinstance -/
/-- what the class of an exception says -/
structure ExcK (K : PySem.W.Frag) (C : Addr) : Prop where
  cl : (PySem.W.clsIn K C).isSome = true
  ga : PySem.W.findIn K (.ref C) "__getattribute__" = some (some (.builtin "BaseException.__getattribute__"))
  gt : PySem.W.findIn K (.ref C) "__getattr__" = some none
  sb : PySem.W.subIn K (.ref C) (.type "BaseException") = some true
  ca : PySem.W.findIn K (.ref C) "__class__" = some (some (.builtin "object.__class__"))
  sp : PySem.W.specialIn K (.builtin "object.__class__") "__get__" = some (some (.builtin "getset_descriptor.__get__"))
  tk : PySem.W.takesIn K (.builtin "object.__class__") = some true
  mo : PySem.W.mroIn K C (.type "object") = some true
  hd : PySem.W.hasDictIn K C = true
inductive TyK (K : PySem.W.Frag) : D → Value → Prop where
  | non : TyK K .non (.type "NoneType")
  | bl {b} : TyK K (.bl b) (.type "bool")
  | int {i} : TyK K (.int i) (.type "int")
  | str {i} : TyK K (.str i) (.type "str")
  | tup {i} : TyK K (.tup i) (.type "tuple")
  | lst {o i} : TyK K (.lst o i) (.type "list")
  | dK {o i} : TyK K (.dK o i) (.type "dict")
  | dT {o i} : TyK K (.dT o i) (.type "dict")
  | exn {C i} (h : ExcK K C) : TyK K (.exn C i) (.ref C)
def clsD : D → Option Value
  | .ty n => some (.type n)
  | .ob C => some (.ref C)
  | _ => none
def clsL : List D → Option (List Value)
  | [] => some []
  | c :: l => match clsD c, clsL l with
    | some u, some us => some (u :: us)
    | _, _ => none
def IsK (K : PySem.W.Frag) (t : Value) (c : D) (b : Bool) : Prop := match c with
  | .tup cs => ∃ us, clsL cs = some us ∧ PySem.W.kitAny K t us = some b
  | c => ∃ u, clsD c = some u ∧ PySem.W.kitOne K t u = some b
def isiD (K : PySem.W.Frag) : D → D → (D → Prop) → Prop := fun x c k => ∃ t b, TyK K x t ∧ IsK K t c b ∧ k (.bl b)
section
variable {X : Cx} {E : EC}
def PkX (X : Cx) (H : Hp) (x : V) (t : Value) : Prop := ∀ (pins : List (Addr × Obj)) (σ : L2.St) (s : Shared) (u : Value), Inv X pins σ H s → RelV x u → ∃ P : Heap → Prop, PySem.W.KitX X.K u t P ∧ P s.heap ∧ u ≠ .builtin "__main__.__loader__#opaque"
theorem tyX_seq {K : PySem.W.Frag} {H : Hp} {a : Addr} {vs : List V} (h : SqL K H a vs) : TyX K H (.ref a) (.type "list") := by
  rcases h with (h | ⟨o, h⟩) | ⟨o, its, n, h, c, _⟩
  · exact .base (.lst h)
  · exact .base (.frz h)
  · exact .kList h c
theorem tyX_tup {K : PySem.W.Frag} {H : Hp} {a : Addr} {vs : List V} (h : SqT K H a vs) : TyX K H (.ref a) (.type "tuple") := by
  rcases h with (h | ⟨o, h⟩) | ⟨o, its, n, h, c, _⟩
  · exact .base (.tup h)
  · exact .fTuple h
  · exact .kTuple h c
theorem pkX_of {F H : Hp} {d : D} {x : V} {t : Value} (s : Sub F H) (h : Pk X.K F H d x) (ty : TyK X.K d t) : PkX X H x t := by
  have base : ∀ {t : Value}, TyX X.K H x t → PkX X H x t := fun ty pins σ sh u I r => kit_of I r ty
  cases ty with
  | non => cases (show x = .non from pk_fz h rfl); exact base (.base .non)
  | bl => cases (show x = .bl _ from pk_fz h rfl); exact base (.base (.bl _))
  | int => cases (show x = .int _ from pk_fz h rfl); exact base (.base (.int _))
  | str => cases (show x = .str _ from pk_fz h rfl); exact base (.base (.str _))
  | tup => obtain ⟨a, vs, rfl, h1, _⟩ := pk_tup s h; exact base (tyX_tup h1)
  | lst => obtain ⟨a, vs, rfl, h1, _⟩ := pk_lst s h; exact base (tyX_seq h1)
  | @dK o i =>
    obtain ⟨f, h⟩ := h
    cases o with
    | true => obtain ⟨a, vs, rfl, _, _, h2, _⟩ := h; exact base (.base (.dK h2))
    | false => obtain ⟨_, _, a, vs, rfl, h2, _⟩ := h; exact base (.base (.dK (s _ _ h2)))
  | @dT o i =>
    obtain ⟨f, h⟩ := h
    cases o with
    | true => obtain ⟨a, vs, rfl, _, _, h2, _⟩ := h; exact base (.base (.dT h2))
    | false => obtain ⟨_, _, a, vs, rfl, h2, _⟩ := h; exact base (.base (.dT (s _ _ h2)))
  | @exn C l hk =>
    obtain ⟨a, dd, rfl, h1, h2⟩ := pk_fz h rfl
    intro pins σ sh u I r
    cases (show u = Value.ref a from r)
    obtain ⟨⟨oe, vs, e1, e2, e3, e4⟩, _⟩ := I.hok a _ (s _ _ h1)
    have dict : ∃ od, PySem.W.InstAt sh.heap a oe C od := by
      have nc : PySem.W.notCls oe = true := by unfold PySem.W.notCls; rw [e4] <;> rfl
      cases dd with
      | none => exact ⟨none, e1, e2, nc, by rw [e3]; trivial⟩
      | some dd =>
        obtain ⟨fs, h3, _⟩ := h2
        obtain ⟨m, ⟨o, es, ep, h4, _⟩, _⟩ := I.hok dd _ (s _ _ h3)
        exact ⟨some o, e1, e2, nc, by rw [e3]; exact h4⟩
    obtain ⟨od, J⟩ := dict
    exact ⟨_, PySem.W.kitx_exc hk.cl hk.ga hk.gt hk.sb hk.ca hk.sp hk.tk hk.mo, J, fun z => nomatch z⟩
def rIsD (X : Cx) : List V → Hp → VK → Prop := fun xs H Q => ∃ (x c : V) (t : Value) (b : Bool), xs = [x, c] ∧ PkX X H x t ∧
  ((∃ u, (∀ w, RelV c w → w = u) ∧ PySem.W.kitOne X.K t u = some b) ∨ ∃ (tp : Addr) (cs : List V) (us : List Value), c = .ref tp ∧ SqT X.K H tp cs ∧ (∀ ws, Vals cs ws → ws = us) ∧ PySem.W.kitAny X.K t us = some b) ∧ Q (.bl b) H
theorem call_isD : CallR X (.builtin "isinstance") (rIsD X) := by
  intro pins s σ H xs us Q I r h
  obtain ⟨x, c, t, b, rfl, pk, hh, q⟩ := h
  cases r with
  | cons r1 rr =>
    cases rr with
    | cons r2 rr =>
      cases rr
      obtain ⟨P, Z, p, hx⟩ := pk pins σ s _ I r1
      rcases hh with ⟨u, hu, e⟩ | ⟨tp, cs, ws, rfl, ht, hw, e⟩
      · have e2 := hu _ r2
        subst e2
        exact PySem.W.kia_one Z I.kIn p e hx fun tk => ⟨.bl b, H, I.tok tk, rfl, q⟩
      · cases (show _ = Value.ref tp from r2)
        obtain ⟨its, rv, ⟨o, h1, h2, n, h3⟩, _⟩ := I.tuple ht
        have e3 := hw _ rv
        subst e3
        obtain ⟨oc, od, dt, sl⟩ := o
        have h2' : oc = .type "tuple" := h2
        have h3' : dt = .seq its.toArray n := h3
        subst h2' h3'
        exact PySem.W.kia_tup Z I.kIn p h1 e hx fun tk => ⟨.bl b, H, I.tok tk, rfl, q⟩
theorem cls_v {K : PySem.W.Frag} {F H : Hp} {c : D} {v : V} {u : Value} (h : Rep K F c v) (e : clsD c = some u) : ∀ w, RelV v w → w = u := fun w r => by
  cases c with
  | ty n => cases e; cases (show v = .ty n from h); exact r
  | ob C => cases e; cases (show v = .ref C from h); exact r
  | _ => cases e
theorem clsL_v {K : PySem.W.Frag} {F H : Hp} : ∀ {cs : List D} {vs : List V} {us : List Value}, RepL K F cs vs → clsL cs = some us → ∀ ws, Vals vs ws → ws = us
  | [], vs, us, h, e, ws, r => by
    cases e
    cases (show vs = [] from h)
    cases r
    rfl
  | c :: cs, vs, us, h, e, ws, r => by
    obtain ⟨v, w, rfl, h1, h2⟩ := h
    unfold clsL at e
    cases e1 : clsD c with
    | none => rw [e1] at e; cases e
    | some u =>
      cases e2 : clsL cs with
      | none => rw [e1, e2] at e; cases e
      | some us' =>
        rw [e1, e2] at e
        cases e
        cases r with
        | cons r1 r2 => rw [cls_v (H := H) h1 e1 _ r1, clsL_v (H := H) h2 e2 _ r2]
theorem cd_isi (hK : E.K = X.K := by rfl) : CallD X E (.builtin "isinstance") (f2' (isiD E.K)) := cd_2 call_isD fun F H d e v w k Qv s pk pk' q fin => by
  obtain ⟨t, b, ty, is, q⟩ := q
  rw [hK] at pk pk' ty is fin
  refine ⟨v, w, t, b, rfl, pkX_of s pk ty, ?_, fin_bl fin s q⟩
  cases e with
  | tup cs =>
    obtain ⟨us, e1, e2⟩ := is
    obtain ⟨a, vs, rfl, h1, _, r1⟩ := pk_tup s pk'
    exact .inr ⟨a, vs, us, rfl, h1, clsL_v (H := H) r1 e1, e2⟩
  | ty n =>
    obtain ⟨u, e1, e2⟩ := is
    exact .inl ⟨u, cls_v (H := H) (pk_fz pk' rfl) e1, e2⟩
  | ob n =>
    obtain ⟨u, e1, e2⟩ := is
    exact .inl ⟨u, cls_v (H := H) (pk_fz pk' rfl) e1, e2⟩
  | _ =>
    obtain ⟨u, e1, e2⟩ := is
    cases e1
end

/-! ### places and slices -/
def ixD : F2 := fun x y k => match x, y with
  | .lst _ l, .int i => un (atI l i) k
  | .tup l, .int i => un (atI l i) k
  | .str s, .int i => s.length ≤ 16777216 ∧ un (atI s.cps.toList i) fun c => k (.str ⟨#[c]⟩)
  | _, _ => False
/-- what lies in frozen things is frozen -/
theorem rep_fz {K : PySem.W.Frag} {F : Hp} : ∀ {d : D} {v : V}, Rep K F d v → d.fz = true
  | .lst .o _, _, h => by obtain ⟨_, _, _, h, _⟩ := h; exact h.elim
  | .dK true _, _, h => by cases h.1
  | .dT true _, _, h => by cases h.1
  | .ins _ _, _, h => h.elim
  | .nst _, _, h => h.elim
  | .nK _, _, h => h.elim
  | .non, _, _ => rfl
  | .bl _, _, _ => rfl
  | .int _, _, _ => rfl
  | .str _, _, _ => rfl
  | .ob _, _, _ => rfl
  | .ty _, _, _ => rfl
  | .tup _, _, _ => rfl
  | .lst .f _, _, _ => rfl
  | .lst .k _, _, _ => rfl
  | .dK false _, _, _ => rfl
  | .dT false _, _, _ => rfl
  | .exn _ _, _, _ => rfl
section
variable {X : Cx} {E : EC} {a b : Expr} {ta tb : TX} {pos : Pos}
theorem px_ix (ha : PX X E a ta) (hb : PX X E b tb) (hK : E.K = X.K := by rfl) (hs : PlainIx b := by exact fun _ _ => rfl) : PX X E (.Subscript a b pos) (dBin ixD ta tb) := ⟨fun Ex tk => by
  refine pe_imp (pe_ix ix_seq (ha.of Ex tk) (hb.of Ex tk) hs) fun σ H Q ⟨F, Γ, fps, P, ok, q, k⟩ => ?_
  refine first (t := ta) ok q fun x H1 F1 Γ1 fps1 A f1 A1 h1 q => next (t := tb) A1 (HoldL.one h1) q fun y H2 F2 Γ2 fps2 B f2 A2 h1 h2 dj q => ?_
  obtain ⟨d, e1, q⟩ := un_of q
  obtain ⟨e, e2, q⟩ := un_of q
  obtain ⟨_, _, _, _, hv, hT, _, h1, hn⟩ := h1
  cases hv
  have pk := h1.peek A2.ok e1
  have pk' := h2.peek A2.ok e2
  have s := A2.ok.sub
  cases e with
  | int i =>
    cases (show y = .int i from pk_fz pk' rfl)
    cases d with
    | lst o l =>
      obtain ⟨z, ez, q⟩ := un_of q
      obtain ⟨p, vs, rfl, g1, r1, _⟩ := pk_lst s pk
      obtain ⟨w, ew, rw'⟩ := r1.atI ez
      exact .inl ⟨p, vs, i, w, rfl, rfl, by rw [← hK]; exact g1, ew, k _ _ (A2.val (own_nil rw' (rep_fz rw')) q)⟩
    | tup l =>
      obtain ⟨z, ez, q⟩ := un_of q
      obtain ⟨p, vs, rfl, g1, _, r1⟩ := pk_tup s pk
      obtain ⟨w, ew, rw'⟩ := r1.atI ez
      exact .inr (.inl ⟨p, vs, i, w, rfl, rfl, by rw [← hK]; exact g1, ew, k _ _ (A2.val (own_nil rw' (rep_fz rw')) q)⟩)
    | str z =>
      obtain ⟨hz, q⟩ := q
      obtain ⟨c, ec, q⟩ := un_of q
      cases (show x = .str z from pk_fz pk rfl)
      exact .inr (.inr ⟨z, i, c, rfl, rfl, sz_line hz, ec, k _ _ (A2.val (d := .str ⟨#[c]⟩) ⟨rfl, rfl⟩ q)⟩)
    | _ => exact q.elim
  | _ => cases d <;> exact q.elim⟩
end
def cutD (l : List D) (lo hi : Option Int) : List D := (l.drop (HT.sIx l.length 0 lo)).take (HT.sIx l.length l.length hi - HT.sIx l.length 0 lo)
theorem RepL.cut {K : PySem.W.Frag} {F : Hp} {l : List D} {vs : List V} (h : RepL K F l vs) (lo hi : Option Int) : RepL K F (cutD l lo hi) (cutV vs lo hi) := by
  unfold cutD cutV
  rw [h.length]
  exact (h.drop _).take _
def slD (x : D) (lo hi : Option Int) (k : D → Prop) : Prop := match x with
  | .lst _ l => k (.lst .o (cutD l lo hi))
  | .tup l => k (.tup (cutD l lo hi))
  | .str s => s.length ≤ 16777216 ∧ k (.str (cutS s lo hi))
  | _ => False
/-- a part of a slice -/
abbrev TP := DX → DEnv → (Option Int → DEnv → Prop) → Prop
def dPn : TP := fun _ Γ Q => Q none Γ
def dPs (t : TX) : TP := fun Ex Γ Q => t Ex Γ fun a Γ1 => un (a.res Γ1) fun x => match x with | .int i => Q (some i) Γ1 | _ => False
def toOf (E : EC) (t : TP) (Ex : DX) : TO := fun σ H Qv => ∃ F Γ fps Q, EOk E F H σ Γ fps ∧ t Ex Γ Q ∧ ∀ v H', (∃ F' Γ' fps', At E F H fps σ F' H' Γ' fps' Nil ∧ Q v Γ') → Qv v H'
structure PP (X : Cx) (E : EC) (e : Option Expr) (t : TP) : Prop where
  of : ∀ Ex, Tk X E Ex → PO X e (toOf E t Ex)
def dSl (ta : TX) (tl th : TP) : TX := fun Ex Γ Q => ta Ex Γ fun a Γ1 => tl Ex Γ1 fun lo Γ2 => th Ex Γ2 fun hi Γ3 => un (a.res Γ3) fun x => slD x lo hi fun z => Q (.v z) Γ3
theorem po_imp {X : Cx} {e : Option Expr} {t t' : TO} (h : PO X e t) (i : ∀ σ H Q, t' σ H Q → t σ H Q) : PO X e t' := ⟨fun p s σ H Q I q => h.run p s σ H Q I (i _ _ _ q)⟩
section
variable {X : Cx} {E : EC} {a b : Expr} {ta tb : TX} {pos p2 : Pos} {lo hi : Option Expr} {tl th : TP}
theorem pp_n : PP X E none dPn := ⟨fun Ex _ => po_imp po_none fun σ H Q ⟨F, Γ, fps, P, ok, q, k⟩ => k none H ⟨F, Γ, fps, At.start ok, q⟩⟩
theorem pp_s (h : PX X E a ta) : PP X E (some a) (dPs ta) := ⟨fun Ex tk => po_imp (po_some (h.of Ex tk)) fun σ H Q ⟨F, Γ, fps, P, ok, q, k⟩ =>
  first (t := ta) ok q fun x H1 F1 Γ1 fps1 A f1 A1 h1 q => by
    obtain ⟨d, e1, q⟩ := un_of q
    have pk := h1.peek A1.ok e1
    cases d with
    | int i =>
      cases (show x = .int i from pk_fz pk rfl)
      exact ⟨i, rfl, k _ H1 ⟨F1, Γ1, fps1, A1.drop, q⟩⟩
    | _ => exact q.elim⟩
theorem nextP {F0 H0 F H : Hp} {fps0 fps : Fps} {σ : L2.St} {Γ : DEnv} {T : ASet} {as : List AD} {vs : List V} {Ex : DX} {P : Option Int → DEnv → Prop} (A : At E F0 H0 fps0 σ F H Γ fps T) (hl : HoldL E.K F H σ as vs T) (h : tl Ex Γ P) {R : Option Int → Hp → Prop}
    (k : ∀ v H' F' Γ' fps', At E F0 H0 fps0 σ F' H' Γ' fps' T → HoldL E.K F' H' σ as vs T → P v Γ' → R v H') : toOf E tl Ex σ H R :=
  ⟨F, Γ, fps, P, A.ok, h, fun v H' ⟨F', Γ', fps', B, p⟩ => by
    obtain ⟨C, kp, dj⟩ := A.step hl.trk B
    rw [or_nil] at C
    exact k v H' F' Γ' fps' C (hl.keep kp) p⟩
theorem px_sl (ha : PX X E a ta) (hl : PP X E lo tl) (hh : PP X E hi th) (hK : E.K = X.K := by rfl) : PX X E (.Subscript a (.Slice lo hi none p2) pos) (dSl ta tl th) := ⟨fun Ex tk => by
  refine pe_imp (pe_slice (sl_list.or (sl_tupA.or sl_str)) (ha.of Ex tk) (hl.of Ex tk) (hh.of Ex tk)) fun σ H Q ⟨F, Γ, fps, P, ok, q, k⟩ => ?_
  refine first (t := ta) ok q fun x H1 F1 Γ1 fps1 A f1 A1 h1 q => nextP (tl := tl) A1 (HoldL.one h1) q fun lo H2 F2 Γ2 fps2 A2 h1 q => nextP (tl := th) A2 h1 q fun hi H3 F3 Γ3 fps3 A3 h1 q => ?_
  obtain ⟨d, e1, q⟩ := un_of q
  obtain ⟨_, _, _, _, hv, hT, _, h1, hn⟩ := h1
  cases hv
  have pk := h1.peek A3.ok e1
  have s := A3.ok.sub
  have fin : Fin1 E.K F3 H3 (fun z => P (.v z) Γ3) Q := fun z F' H' g v o ev s q => k v H' (A3.done o ev s q)
  cases d with
  | lst o l =>
    obtain ⟨p, vs, rfl, g1, r1, _⟩ := pk_lst s pk
    exact .inl ⟨p, vs, rfl, by rw [← hK]; exact g1, fun p hp => fin_lst fin s hp (r1.cut _ _) q⟩
  | tup l =>
    obtain ⟨p, vs, rfl, g1, g2, r1⟩ := pk_tup s pk
    refine .inr (.inl ⟨p, vs, rfl, by rw [← hK]; exact g1, fun ⟨w1, w2⟩ => ?_, fun _ p hp => fin_tup fin s hp (r1.cut _ _) q⟩)
    have e : cutD l lo hi = l := by
      have q1 : HT.sIx l.length 0 lo = 0 := by rw [← r1.length]; exact w1
      have q2 : HT.sIx l.length l.length hi = l.length := by
        have z := w2
        rw [r1.length] at z
        exact z
      unfold cutD
      rw [q1, q2]
      simp
    have q' : P (.v (.tup (cutD l lo hi))) Γ3 := q
    rw [e] at q'
    exact fin_val fin s (z := .tup l) (rep_tup g2 r1) rfl q'
  | str z =>
    obtain ⟨hz, q⟩ := q
    cases (show x = .str z from pk_fz pk rfl)
    exact .inr (.inr ⟨z, rfl, sz_line hz, fin_str fin s q⟩)
  | _ => exact q.elim⟩
end
end DL

/-! DG: methods of built-ins, lists changed in place, calls of the text's own defs, by data. -/
namespace DL
open PySem PySem.Spec PyProof.Rows L2

/-! ### a built-in's method that changes nothing -/
def isTy (T : String) (x : D) : Prop := match x with
  | .str _ => T = "str"
  | .lst _ _ => T = "list"
  | _ => False
structure MetD (X : Cx) (E : EC) (id : String) (f : D → List D → (D → Prop) → Prop) : Prop where
  ex : ∃ r, MtR X id r ∧ ∀ (F H : Hp) (d : D) (x : V) (ds : List D) (vs : List V) (k : D → Prop) (Qv : VK), Sub F H → Pk E.K F H d x → PkL E.K F H ds vs → f d ds k → Fin1 E.K F H k Qv → r x vs H Qv
def dM (T : String) (f : D → List D → (D → Prop) → Prop) (to : TX) (ta : TXs) : TX := fun Ex Γ Q => to Ex Γ fun a Γ1 => un (a.res Γ1) fun x0 => isTy T x0 ∧ ta Ex Γ1 fun as Γ2 => un (a.res Γ2) fun x => un (resL as Γ2) fun ds => f x ds fun z => Q (.v z) Γ2
theorem isTy_v {K : PySem.W.Frag} {F H : Hp} {d : D} {x : V} {T : String} (s : Sub F H) (h : Pk K F H d x) (t : isTy T d) : tyV K T x H := by
  cases d with
  | str z => cases (show x = .str z from pk_fz h rfl); exact t
  | lst o l => obtain ⟨a, vs, rfl, h1, _⟩ := pk_lst s h; exact .inl ⟨t, vs, h1⟩
  | _ => exact t.elim
section
variable {X : Cx} {E : EC} {o e : Expr} {es : List Expr} {to te : TX} {tas : TXs} {name : Str} {apos cpos pos p : Pos} {T id : String} {f : D → List D → (D → Prop) → Prop}
theorem px_m (pa : PlainAttrs T) (slot : Slot T name id) (hty : typeOf (.builtin id) = pure (.type "method_descriptor")) (hm : MetD X E id f) (ho : PX X E o to) (ha : PXs X E (e :: es) tas) (hK : E.K = X.K := by rfl)
    (hbase : attributeBase o name X.env (eval o X.env) = eval o X.env := by rfl)
    (hfew : ((backTo cpos (starEach (e :: es) X.env)).all (fun x => !x.1) && (backToKw cpos (keywordEach [] X.env)).all (fun x => x.1.isSome)
      && decide ((e :: es).length + ([] : List Keyword).length + (if ([] : List Keyword).isEmpty then 0 else 1) < 30)) = true := by rfl)
    (hline : (apos.endLine == cpos.line) = true := by rfl) (hs : starEach (e :: es) X.env = (false, eval e X.env) :: starEach es X.env := by rfl) (hplain : (backTo cpos (starEach es X.env)).any (·.1) = false := by rfl) :
    PX X E (.Call (.Attribute o name apos) (e :: es) [] cpos) (dM T f to tas) := ⟨fun Ex tk => by
  obtain ⟨r, hr, hf⟩ := hm.ex
  refine pe_imp (pe_bm pa slot hty hr (ho.of Ex tk) (ha.of Ex tk) hbase hfew hline hs hplain) fun σ H Q ⟨F, Γ, fps, P, ok, q, k⟩ => ?_
  refine first (t := to) ok q fun x H1 F1 Γ1 fps1 A f1 A1 h1 q => ?_
  obtain ⟨x0, e0, ty, q⟩ := un_of q
  refine ⟨by rw [← hK]; exact isTy_v A1.ok.sub (h1.peek A1.ok e0) ty, nextL (t := tas) A1 (HoldL.one h1) q fun vs H2 F2 Γ2 fps2 bs f2 A2 h1 h2 dj q => ?_⟩
  obtain ⟨d, e1, q⟩ := un_of q
  obtain ⟨ds, e2, q⟩ := un_of q
  obtain ⟨_, _, _, _, hv, hT, _, h1, hn⟩ := h1
  cases hv
  exact hf F2 H2 d x ds vs _ _ A2.ok.sub (h1.peek A2.ok e1) (h2.peek A2.ok e2) q fun z F' H' g v o ev s q => k v H' (A2.done o ev s q)⟩
theorem px_m0 (pa : PlainAttrs T) (slot : Slot T name id) (hty : typeOf (.builtin id) = pure (.type "method_descriptor")) (hm : MetD X E id f) (ho : PX X E o to) (hK : E.K = X.K := by rfl)
    (hbase : attributeBase o name X.env (eval o X.env) = eval o X.env := by rfl) (hline : (apos.endLine == cpos.line) = true := by rfl) : PX X E (.Call (.Attribute o name apos) [] [] cpos) (dM T f to dNil) := ⟨fun Ex tk => by
  obtain ⟨r, hr, hf⟩ := hm.ex
  refine pe_imp (pe_bm0 pa slot hty hr (ho.of Ex tk) hbase hline) fun σ H Q ⟨F, Γ, fps, P, ok, q, k⟩ => ?_
  refine first (t := to) ok q fun x H1 F1 Γ1 fps1 A f1 A1 h1 q => ?_
  obtain ⟨x0, e0, ty, q⟩ := un_of q
  refine ⟨by rw [← hK]; exact isTy_v A1.ok.sub (h1.peek A1.ok e0) ty, ?_⟩
  obtain ⟨d, e1, q⟩ := un_of q
  obtain ⟨ds, e2, q⟩ := un_of q
  cases e2
  exact hf F1 H1 d x [] [] _ _ A1.ok.sub (h1.peek A1.ok e1) rfl q fun z F' H' g v o ev s q => k v H' (A1.done o ev s q)⟩
end
def m1 (g : D → D → (D → Prop) → Prop) : D → List D → (D → Prop) → Prop := fun x ds k => match ds with | [y] => g x y k | _ => False
def m0 (g : D → (D → Prop) → Prop) : D → List D → (D → Prop) → Prop := fun x ds k => match ds with | [] => g x k | _ => False
def splitD : D → D → (D → Prop) → Prop := fun x y k => match x, y with
  | .str a, .str b => (b.length == 0) = false ∧ a.length + 2 ≤ 16777216 ∧ k (.lst .o ((Txt.split a b).map D.str))
  | _, _ => False
def joinD : D → D → (D → Prop) → Prop := fun x y k => match x with
  | .str a => un (seqOf y) fun l => un (strsOf l) fun ys => (ys.map (·.length)).sum + ys.length * a.length ≤ 16777216 ∧ k (.str (Txt.join a ys))
  | _ => False
def upperD : D → (D → Prop) → Prop := fun x k => match x with
  | .str a => a.length ≤ 5592405 ∧ k (.str (Txt.upper a))
  | _ => False
section
variable {X : Cx} {E : EC}
theorem md_1 {id : String} {r : V → List V → Hp → VK → Prop} {g : D → D → (D → Prop) → Prop} (h : MtR X id r) (hf : ∀ (F H : Hp) (d e : D) (v w : V) (k : D → Prop) (Qv : VK), Sub F H → Pk E.K F H d v → Pk E.K F H e w → g d e k → Fin1 E.K F H k Qv → r v [w] H Qv) : MetD X E id (m1 g) :=
  ⟨r, h, fun F H d x ds vs k Qv s pk pks q fin => by
    cases ds with
    | nil => exact q.elim
    | cons e r' =>
      cases r' with
      | nil =>
        obtain ⟨w, rfl, pk1⟩ := pkL1 pks
        exact hf F H d e x w k Qv s pk pk1 q fin
      | cons _ _ => exact q.elim⟩
theorem md_0 {id : String} {r : V → List V → Hp → VK → Prop} {g : D → (D → Prop) → Prop} (h : MtR X id r) (hf : ∀ (F H : Hp) (d : D) (v : V) (k : D → Prop) (Qv : VK), Sub F H → Pk E.K F H d v → g d k → Fin1 E.K F H k Qv → r v [] H Qv) : MetD X E id (m0 g) :=
  ⟨r, h, fun F H d x ds vs k Qv s pk pks q fin => by
    cases ds with
    | nil =>
      rw [show vs = [] from pks]
      exact hf F H d x k Qv s pk q fin
    | cons e r' => exact q.elim⟩
theorem md_split : MetD X E "str.split" (m1 splitD) := md_1 mt_split fun F H d e v w k Qv s pk pk' q fin => by
  cases d with
  | str a =>
    cases e with
    | str b =>
      cases (show v = .str a from pk_fz pk rfl)
      cases (show w = .str b from pk_fz pk' rfl)
      exact ⟨a, b, rfl, rfl, q.1, sz_line q.2.1, fun p hp => fin_lst fin s hp (repL_strs _) q.2.2⟩
    | _ => exact q.elim
  | _ => exact q.elim
theorem md_join (hK : E.K = X.K := by rfl) : MetD X E "str.join" (m1 joinD) := md_1 mt_join fun F H d e v w k Qv s pk pk' q fin => by
  cases d with
  | str a =>
    obtain ⟨l, e1, q⟩ := un_of q
    obtain ⟨ys, e2, z, q⟩ := un_of q
    cases (show v = .str a from pk_fz pk rfl)
    obtain ⟨p, vs, rfl, h1, r1⟩ := pk_seq s pk' e1
    have ev := strsOf_v r1 e2
    subst ev
    exact ⟨a, p, ys, rfl, rfl, by rw [← hK]; exact h1, z, fin_str fin s q⟩
  | _ => exact q.elim
theorem md_upper : MetD X E "str.upper" (m0 upperD) := md_0 mt_upper fun F H d v k Qv s pk q fin => by
  cases d with
  | str a =>
    cases (show v = .str a from pk_fz pk rfl)
    exact ⟨a, rfl, rfl, q.1, fin_str fin s q.2⟩
  | _ => exact q.elim
end

/-! ### a list that a name holds, changed in place -/
/-- from the list's items and the arguments: what is handed back, the items behind -/
abbrev FM := List D → List D → (D → List D → Prop) → Prop
structure MutD (X : Cx) (E : EC) (id : String) (g : FM) : Prop where
  ex : ∃ r, MtR X id r ∧ ∀ (F H : Hp) (a : Addr) (l : List D) (vs : List V) (ds : List D) (ws : List V) (k : D → List D → Prop) (Qv : VK), H a = some (.lst vs) → RepL E.K F l vs → RepL E.K F ds ws → g l ds k →
    (∀ z l' v vs', Rep E.K F z v → RepL E.K F l' vs' → k z l' → Qv v (upd H a (.lst vs'))) → r (.ref a) ws H Qv
def isLst (x : D) : Prop := match x with | .lst _ _ => True | _ => False
def dMut (g : FM) (i : Nat) (ta : TXs) : TX := fun Ex Γ Q => un (Γ[i]?).join fun d0 => isLst d0 ∧ ta Ex Γ fun as Γ1 => demL as Γ1 fun ds Γ2 => un (Γ2[i]?).join fun d => match d with
  | .lst .o l => g l ds fun z l' => Q (.v z) (Γ2.set i (some (.lst .o l')))
  | _ => False
section
variable {E : EC} {F0 H0 F H F' H' : Hp} {fps0 fps : Fps} {σ : L2.St} {Γ : DEnv} {i : Nat}
/-- a list of a name's own is changed -/
theorem At.mut {l l' : List D} {a : Addr} {vs' : List V} (A : At E F0 H0 fps0 σ F H Γ fps Nil) (hd : Γ[i]? = some (some (.lst .o l))) (hv : σ[i]? = some (some (.ref a))) (r : RepL E.K F l' vs') :
    ∃ fps', At E F0 H0 fps0 σ F (upd H a (.lst vs')) (Γ.set i (some (.lst .o l'))) fps' Nil := by
  obtain ⟨v, h1, h2⟩ := A.ok.slot i _ hd
  rw [hv] at h1
  cases h1
  obtain ⟨b, ws, e, hf, f1, f2, f3⟩ := h2
  cases e
  have ev : Evo F H (fps i) F (upd H a (.lst vs')) (fps i) := by
    rw [hf]
    exact ⟨fun _ _ z => z, fun x o z n => by rw [upd_ne n]; exact z, fun x z => .inl z, fun x o z => .inl z⟩
  have s : Sub F (upd H a (.lst vs')) := fun x o z => by
    have n : x ≠ a := fun e => by rw [e, f1] at z; cases z
    rw [upd_ne n]
    exact A.ok.sub x o z
  refine ⟨put fps i (fps i), A.ok.chg ev s hv ?_, (A.evo.trans ?_), fun x z => z.elim⟩
  · rw [hf]
    exact ⟨a, vs', rfl, rfl, f1, upd_same, r⟩
  · have t := Evo.chg ev
    exact (t.sub (fp1 := fun x => Nil x ∨ U fps x) fun x z => .inr z).less fun x z => z.elim (fun q => q.elim) id
end
section
variable {X : Cx} {E : EC} {e : Expr} {es : List Expr} {tas : TXs} {x name : Str} {apos cpos p : Pos} {id : String} {g : FM}
theorem px_mut (i : Nat) (slot : Slot "list" name id) (hty : typeOf (.builtin id) = pure (.type "method_descriptor")) (hm : MutD X E id g) (ha : PXs X E (e :: es) tas) (hK : E.K = X.K := by rfl) (hN : X.N[i]? = some x := by rfl)
    (hv : Vis X.env.scope x := by first | exact Or.inl rfl | exact Or.inr (Or.inl rfl) | exact Or.inr (Or.inr rfl)) (hd : (x == ("__debug__" : Str)) = false := by decide) (hcd : (x == ("__classdict__" : Str)) = false := by decide)
    (hbase : attributeBase (.Name x p) name X.env (eval (.Name x p) X.env) = eval (.Name x p) X.env := by rfl)
    (hfew : ((backTo cpos (starEach (e :: es) X.env)).all (fun x => !x.1) && (backToKw cpos (keywordEach [] X.env)).all (fun x => x.1.isSome)
      && decide ((e :: es).length + ([] : List Keyword).length + (if ([] : List Keyword).isEmpty then 0 else 1) < 30)) = true := by rfl)
    (hline : (apos.endLine == cpos.line) = true := by rfl) (hs : starEach (e :: es) X.env = (false, eval e X.env) :: starEach es X.env := by rfl) (hplain : (backTo cpos (starEach es X.env)).any (·.1) = false := by rfl) :
    PX X E (.Call (.Attribute (.Name x p) name apos) (e :: es) [] cpos) (dMut g i tas) := ⟨fun Ex tk => by
  obtain ⟨r, hr, hf⟩ := hm.ex
  refine pe_imp (pe_bm PySem.F.plainAttrs_list slot hty hr (pe_var hN hv hd hcd) (ha.of Ex tk) hbase hfew hline hs hplain) fun σ H Q ⟨F, Γ, fps, P, ok, q, k⟩ => ?_
  obtain ⟨d0, e0, ty, q⟩ := un_of q
  obtain ⟨v, hv, hvo⟩ := ok.slot i d0 (join_some e0)
  refine ⟨v, hv, ?_, ?_⟩
  · cases d0 with
    | lst o l =>
      obtain ⟨a, vs, rfl, h1, _⟩ := pk_lst ok.sub ⟨_, hvo⟩
      exact .inl ⟨rfl, vs, by rw [← hK]; exact h1⟩
    | _ => exact ty.elim
  refine firstL (t := tas) ok q fun ws H1 F1 Γ1 fps1 as f1 A1 h1 q => ?_
  obtain ⟨F2, Γ2, fps2, ds, A2, r1, s1, q⟩ := At.demL ok A1 h1 q
  obtain ⟨d, e2, q⟩ := un_of q
  obtain ⟨v', hv', hvo'⟩ := A2.ok.slot i d (join_some e2)
  rw [hv] at hv'
  cases hv'
  cases d with
  | lst o l =>
    cases o with
    | o =>
      obtain ⟨a, vs, rfl, hfp, g1, g2, g3⟩ := hvo'
      refine hf F2 H1 a l vs ds ws _ _ g2 g3 r1 q fun z l' w vs' rz rl q => ?_
      obtain ⟨fps', A3⟩ := A2.mut (join_some e2) hv rl
      exact k w _ (A3.val (own_nil rz (rep_fz rz)) q)
    | _ => exact q.elim
  | _ => exact q.elim⟩
theorem px_mut0 (i : Nat) (slot : Slot "list" name id) (hty : typeOf (.builtin id) = pure (.type "method_descriptor")) (hm : MutD X E id g) (hK : E.K = X.K := by rfl) (hN : X.N[i]? = some x := by rfl)
    (hv : Vis X.env.scope x := by first | exact Or.inl rfl | exact Or.inr (Or.inl rfl) | exact Or.inr (Or.inr rfl)) (hd : (x == ("__debug__" : Str)) = false := by decide) (hcd : (x == ("__classdict__" : Str)) = false := by decide)
    (hbase : attributeBase (.Name x p) name X.env (eval (.Name x p) X.env) = eval (.Name x p) X.env := by rfl) (hline : (apos.endLine == cpos.line) = true := by rfl) :
    PX X E (.Call (.Attribute (.Name x p) name apos) [] [] cpos) (dMut g i dNil) := ⟨fun Ex tk => by
  obtain ⟨r, hr, hf⟩ := hm.ex
  refine pe_imp (pe_bm0 PySem.F.plainAttrs_list slot hty hr (pe_var hN hv hd hcd) hbase hline) fun σ H Q ⟨F, Γ, fps, P, ok, q, k⟩ => ?_
  obtain ⟨d0, e0, ty, q⟩ := un_of q
  obtain ⟨d, e2, q⟩ := un_of q
  obtain ⟨v, hv, hvo⟩ := ok.slot i d (join_some e2)
  cases d with
  | lst o l =>
    cases o with
    | o =>
      obtain ⟨a, vs, rfl, hfp, g1, g2, g3⟩ := hvo
      refine ⟨.ref a, hv, .inl ⟨rfl, vs, SqL.of g2⟩, ?_⟩
      refine hf F H a l vs [] [] _ _ g2 g3 rfl q fun z l' w vs' rz rl q => ?_
      obtain ⟨fps', A3⟩ := (At.start ok).mut (join_some e2) hv rl
      exact k w _ (A3.val (own_nil rz (rep_fz rz)) q)
    | _ => exact q.elim
  | _ => exact q.elim⟩
end
def appendM : FM := fun l ds k => match ds with
  | [x] => l.length < 16777216 ∧ k .non (l ++ [x])
  | _ => False
def popM : FM := fun l ds k => match ds with
  | [] => un l.getLast? fun x => k x l.dropLast
  | [.int i] => (0 ≤ i ∧ i < 16777216) ∧ un l[i.toNat]? fun x => k x (l.eraseIdx i.toNat)
  | _ => False
def insertM : FM := fun l ds k => match ds with
  | [.int i, x] => (0 ≤ i ∧ i < 16777216) ∧ l.length < 16777216 ∧ k .non (l.take i.toNat ++ [x] ++ l.drop i.toNat)
  | _ => False
theorem RepL.eraseIdx {K : PySem.W.Frag} {F : Hp} : ∀ {l : List D} {vs : List V} (i : Nat), RepL K F l vs → RepL K F (l.eraseIdx i) (vs.eraseIdx i)
  | [], vs, i, h => by rw [show vs = [] from h]; cases i <;> rfl
  | d :: l, vs, 0, h => by
    obtain ⟨v, r, rfl, _, h2⟩ := h
    exact h2
  | d :: l, vs, i + 1, h => by
    obtain ⟨v, r, rfl, h1, h2⟩ := h
    exact ⟨v, _, rfl, h1, RepL.eraseIdx i h2⟩
theorem RepL.dropLast {K : PySem.W.Frag} {F : Hp} {l : List D} {vs : List V} (h : RepL K F l vs) : RepL K F l.dropLast vs.dropLast := by
  rw [List.dropLast_eq_take, List.dropLast_eq_take, h.length]
  exact h.take _
section
variable {X : Cx} {E : EC}
theorem mu_append : MutD X E "list.append" appendM := ⟨_, (mt_append : MtR X _ _), fun F H a l vs ds ws k Qv hH r r' q fin => by
  match ds, q with
  | [x], q =>
    obtain ⟨w, ws', rfl, h1, h2⟩ := r'
    rw [show ws' = [] from h2]
    exact ⟨a, vs, w, rfl, rfl, hH, by rw [r.length, sizeLine_eq]; exact q.1, fin .non _ _ _ rfl (r.append (m := [x]) ⟨w, [], rfl, h1, rfl⟩) q.2⟩⟩
theorem mu_pop : MutD X E "list.pop" popM := ⟨_, MtR.or (mt_pop : MtR X _ _) (mt_popAt : MtR X _ _), fun F H a l vs ds ws k Qv hH r r' q fin => by
  match ds, q with
  | [], q =>
    obtain ⟨x, e, q⟩ := un_of q
    rw [show ws = [] from r']
    rw [List.getLast?_eq_getElem?] at e
    obtain ⟨w, e1, h1⟩ := r.get e
    exact .inl ⟨a, vs, w, rfl, rfl, hH, by rw [r.length]; exact e1, fin x _ _ _ h1 r.dropLast q⟩
  | [.int i], q =>
    obtain ⟨⟨h0, h9⟩, q⟩ := q
    obtain ⟨x, e, q⟩ := un_of q
    obtain ⟨w, ws', rfl, h1, h2⟩ := r'
    rw [show ws' = [] from h2, show w = .int i from h1]
    obtain ⟨w, e1, h1⟩ := r.get e
    have hl : i.toNat < l.length := (List.getElem?_eq_some_iff.mp e).1
    exact .inr ⟨a, vs, i, i.toNat, w, rfl, rfl, hH, by omega, by omega, seqIndex_of h0 (by rw [r.length]; omega), e1, fin x _ _ _ h1 (r.eraseIdx _) q⟩⟩
theorem mu_insert : MutD X E "list.insert" insertM := ⟨_, mt_insert, fun F H a l vs ds ws k Qv hH r r' q fin => by
  match ds, q with
  | [.int i, x], q =>
    obtain ⟨w, ws', rfl, h1, h2⟩ := r'
    obtain ⟨y, ws', rfl, h3, h4⟩ := h2
    rw [show ws' = [] from h4, show w = .int i from h1]
    exact ⟨a, vs, i, y, rfl, rfl, hH, by rw [r.length, sizeLine_eq]; exact q.2.1, q.1.1, by have := q.1.2; omega, fin .non _ _ _ rfl (((r.take _).append (m := [x]) ⟨y, [], rfl, h3, rfl⟩).append (r.drop _)) q.2.2⟩⟩
end

/-! ### calls of the text's own defs -/
abbrev SpD := List D → (D → List (Option D) → Prop) → (Addr → List (Str × D) → List (Option D) → Prop) → Prop
/-- what the parameters hold behind the call -/
def OutL (K : PySem.W.Frag) (F H : Hp) : List (Option D) → List V → ASet → Prop
  | [], vs, g => vs = [] ∧ g = Nil
  | o :: os, vs, g => ∃ v r f h, vs = v :: r ∧ (g = fun b => f b ∨ h b) ∧ (∀ b, f b → h b → False) ∧ (match o with | none => f = Nil | some d => Own K F H d v f) ∧ OutL K F H os r h
def spOf (K : PySem.W.Frag) (sp : SpD) : Sp := fun vs H Q E => ∃ (F : Hp) (ds : List D) (T : ASet) (Qd : D → List (Option D) → Prop) (Ed : Addr → List (Str × D) → List (Option D) → Prop), Sub F H ∧ OwnL K F H ds vs T ∧ sp ds Qd Ed ∧
  (∀ F' H' r v outs f g, OutL K F' H' outs vs g → Own K F' H' r v f → (∀ x, f x → g x → False) → Evo F H T F' H' (fun x => f x ∨ g x) → Sub F' H' → Qd r outs → Q v H') ∧
  (∀ F' H' C dd l outs g, OutL K F' H' outs vs g → PayOk K F' dd l → Evo F H T F' H' g → Sub F' H' → Ed C l outs → E (.ref C) dd H')
/-- what the names lend to a call: their things, and the names without them -/
def lend : List AD → DEnv → Option (List D × DEnv)
  | [], Γ => some ([], Γ)
  | .v d :: as, Γ => match lend as Γ with
    | some (ds, Γ') => some (d :: ds, Γ')
    | none => none
  | .s i :: as, Γ => match (Γ[i]?).join with
    | none => none
    | some d => if d.fz = true then (match lend as Γ with
        | some (ds, Γ') => some (d :: ds, Γ')
        | none => none)
      else match lend as (Γ.set i none) with
        | some (ds, Γ') => some (d :: ds, Γ')
        | none => none
/-- and what they get back -/
def back : List AD → List D → List (Option D) → DEnv → DEnv
  | .s i :: as, d :: ds, o :: os, Γ => if d.fz = true then back as ds os Γ else back as ds os (Γ.set i o)
  | .v _ :: as, _ :: ds, _ :: os, Γ => back as ds os Γ
  | _, _, _, Γ => Γ
section
variable {E : EC} {F0 H0 F H F' H' : Hp} {fps0 fps : Fps} {σ : L2.St} {Γ Γ' : DEnv} {i : Nat} {d : D} {v : V} {f T : ASet}
theorem EOk.drop (h : EOk E F H σ Γ fps) (i : Nat) : EOk E F H σ (Γ.set i none) (put fps i Nil) := by
  refine ⟨h.sub, fun j d q => ?_, fun j k a hjk hj hk => ?_, fun j a q => ?_, h.evo.less fun x q => ?_, h.kept, by rw [List.length_set]; exact h.len⟩
  · by_cases hj : j = i
    · subst hj
      by_cases hl : j < Γ.length
      · rw [List.getElem?_set_self hl] at q; cases q
      · rw [List.getElem?_eq_none (by rw [List.length_set]; omega)] at q; cases q
    · rw [List.getElem?_set_ne (Ne.symm hj)] at q
      rw [put_ne hj]
      exact h.slot j d q
  · by_cases h1 : j = i
    · rw [h1, put_same] at hj; exact hj
    · by_cases h2 : k = i
      · rw [h2, put_same] at hk; exact hk
      · rw [put_ne h1] at hj
        rw [put_ne h2] at hk
        exact h.dis j k a hjk hj hk
  · by_cases hj : j = i
    · rw [hj, put_same] at q; exact q.elim
    · rw [put_ne hj] at q
      exact h.trk j a q
  · rcases U_put q with q | ⟨j, _, q⟩
    · exact q.elim
    · exact ⟨j, q⟩
/-- a name that holds nothing known gets a thing that is its value's -/
theorem EOk.give (h : EOk E F H σ Γ fps) (hi : i < Γ.length) (hv : σ[i]? = some (some v)) (o : Own E.K F H d v f) (dj : ∀ a, f a → ¬ U fps a) (hf : E.mine f) : EOk E F H σ (Γ.set i (some d)) (put fps i f) := by
  refine ⟨h.sub, fun j d' q => ?_, fun j k a hjk hj hk => ?_, fun j a q => ?_, ⟨h.evo.ext, h.evo.frame, fun a q => ?_, h.evo.froz⟩, h.kept, by rw [List.length_set]; exact h.len⟩
  · by_cases hj : j = i
    · subst hj
      rw [List.getElem?_set_self hi] at q
      cases q
      exact ⟨v, hv, by rw [put_same]; exact o⟩
    · rw [List.getElem?_set_ne (Ne.symm hj)] at q
      rw [put_ne hj]
      exact h.slot j d' q
  · by_cases h1 : j = i
    · rw [h1, put_same] at hj
      have h2 : k ≠ i := fun z => hjk (h1.trans z.symm)
      rw [put_ne h2] at hk
      exact dj a hj ⟨k, hk⟩
    · rw [put_ne h1] at hj
      by_cases h2 : k = i
      · rw [h2, put_same] at hk
        exact dj a hk ⟨j, hj⟩
      · rw [put_ne h2] at hk
        exact h.dis j k a hjk hj hk
  · by_cases hj : j = i
    · rw [hj, put_same] at q
      exact Own.trk _ _ _ o a q
    · rw [put_ne hj] at q
      exact h.trk j a q
  · rcases U_put q with q | ⟨j, _, q⟩
    · exact hf a q
    · exact h.evo.fresh a ⟨j, q⟩
/-- the names' things are lent: T what is lent and the temporary things, Γ' what stays with the names -/
theorem lend_ok : ∀ {as : List AD} {vs : List V} {Γ : DEnv} {fps : Fps} {S : ASet} {ds : List D} {Γ' : DEnv}, EOk E F H σ Γ fps → HoldL E.K F H σ as vs S → (∀ x, S x → ¬ U fps x) → E.mine S → lend as Γ = some (ds, Γ') →
    ∃ fps' T, EOk E F H σ Γ' fps' ∧ OwnL E.K F H ds vs T ∧ (∀ x, T x → ¬ U fps' x) ∧ E.mine T ∧ (∀ x, T x → S x ∨ U fps x) ∧ (∀ x, U fps' x → U fps x)
  | [], vs, Γ, fps, S, ds, Γ', ok, h, dj, hm, e => by
    cases e
    exact ⟨fps, Nil, ok, h.1 ▸ ⟨rfl, rfl⟩, fun _ z => z.elim, fun _ z => z.elim, fun _ z => z.elim, fun _ z => z⟩
  | .v d :: as, vs, Γ, fps, S, ds, Γ', ok, h, dj, hm, e => by
    obtain ⟨v, r, f1, f2, rfl, rfl, d12, h1, h2⟩ := h
    unfold lend at e
    cases q : lend as Γ with
    | none => rw [q] at e; cases e
    | some p =>
      obtain ⟨ds', Γ2⟩ := p
      rw [q] at e
      cases e
      obtain ⟨fps', T, ok', o, a1, a2, a3, a4⟩ := lend_ok ok h2 (fun x z => dj x (.inr z)) (fun x z => hm x (.inr z)) q
      refine ⟨fps', fun x => f1 x ∨ T x, ok', ⟨v, r, f1, T, rfl, rfl, fun x z1 z2 => ?_, h1, o⟩, fun x z w => ?_, fun x z => z.elim (fun z => hm x (.inl z)) (a2 x), fun x z => z.elim (fun z => .inl (.inl z)) fun z => (a3 x z).elim (fun z => .inl (.inr z)) .inr, a4⟩
      · rcases a3 x z2 with z | z
        · exact d12 x z1 z
        · exact dj x (.inl z1) z
      · rcases z with z | z
        · exact dj x (.inl z) (a4 x w)
        · exact a1 x z w
  | .s i :: as, vs, Γ, fps, S, ds, Γ', ok, h, dj, hm, e => by
    obtain ⟨v, r, f1, f2, rfl, rfl, d12, ⟨rfl, hv⟩, h2⟩ := h
    unfold lend at e
    cases q0 : (Γ[i]?).join with
    | none => rw [q0] at e; cases e
    | some d =>
      rw [q0] at e
      have e : (if d.fz = true then (match lend as Γ with | some (ds, Γ') => some (d :: ds, Γ') | none => none) else match lend as (Γ.set i none) with | some (ds, Γ') => some (d :: ds, Γ') | none => none) = some (ds, Γ') := e
      obtain ⟨v', hv', ow⟩ := ok.slot i d (join_some q0)
      rw [hv] at hv'
      cases hv'
      by_cases z : d.fz = true
      · rw [if_pos z] at e
        cases q : lend as Γ with
        | none => rw [q] at e; cases e
        | some p =>
          obtain ⟨ds', Γ2⟩ := p
          rw [q] at e
          cases e
          obtain ⟨fps', T, ok', o, a1, a2, a3, a4⟩ := lend_ok ok h2 (fun x z => dj x (.inr z)) (fun x z => hm x (.inr z)) q
          have ow' := (own_fz z).mp ow
          exact ⟨fps', T, ok', ⟨v, r, Nil, T, rfl, nil_or.symm, fun _ z => z.elim, own_nil ow'.2 z, o⟩, a1, a2, fun x z => (a3 x z).elim (fun z => .inl (.inr z)) .inr, a4⟩
      · rw [if_neg z] at e
        cases q : lend as (Γ.set i none) with
        | none => rw [q] at e; cases e
        | some p =>
          obtain ⟨ds', Γ2⟩ := p
          rw [q] at e
          cases e
          have up : ∀ x, U (put fps i Nil) x → ∃ j, j ≠ i ∧ fps j x := fun x z => (U_put z).elim (fun z => z.elim) fun z => z
          obtain ⟨fps', T, ok', o, a1, a2, a3, a4⟩ := lend_ok (ok.drop i) h2 (fun x z w => dj x (.inr z) (let ⟨j, _, q⟩ := up x w; ⟨j, q⟩)) (fun x z => hm x (.inr z)) q
          refine ⟨fps', fun x => fps i x ∨ T x, ok', ⟨v, r, fps i, T, rfl, rfl, fun x z1 z2 => ?_, ow, o⟩, fun x z w => ?_, fun x z => z.elim (fun z => ok.evo.fresh x ⟨i, z⟩) (a2 x), fun x z => z.elim (fun z => .inr ⟨i, z⟩) fun z => (a3 x z).elim (fun z => .inl (.inr z)) fun z => .inr (let ⟨j, _, q⟩ := up x z; ⟨j, q⟩), fun x z => let ⟨j, _, q⟩ := up x (a4 x z); ⟨j, q⟩⟩
          · rcases a3 x z2 with z | z
            · exact dj x (.inr z) ⟨i, z1⟩
            · obtain ⟨j, n, q⟩ := up x z
              exact ok.dis j i x n q z1
          · rcases z with z | z
            · obtain ⟨j, n, q⟩ := up x (a4 x w)
              exact ok.dis j i x n q z
            · exact a1 x z w
/-- .. and given back -/
theorem back_ok : ∀ {as : List AD} {vs : List V} {Γ : DEnv} {fps : Fps} {ds : List D} {outs : List (Option D)} {g : ASet}, EOk E F H σ Γ fps → (∀ a v, (a, v) ∈ as.zip vs → ∀ i, a = .s i → σ[i]? = some (some v)) → as.length = vs.length → OutL E.K F H outs vs g → (∀ x, g x → ¬ U fps x) → E.mine g →
    ∃ fps', EOk E F H σ (back as ds outs Γ) fps' ∧ ∀ x, U fps' x → U fps x ∨ g x
  | [], vs, Γ, fps, ds, outs, g, ok, hs, hl, o, dj, hm => ⟨fps, by cases ds <;> cases outs <;> exact ok, fun _ z => .inl z⟩
  | a :: as, [], Γ, fps, ds, outs, g, ok, hs, hl, o, dj, hm => by cases hl
  | a :: as, v :: vs, Γ, fps, [], outs, g, ok, hs, hl, o, dj, hm => ⟨fps, by cases a <;> cases outs <;> exact ok, fun _ z => .inl z⟩
  | a :: as, v :: vs, Γ, fps, d :: ds, [], g, ok, hs, hl, o, dj, hm => ⟨fps, by cases a <;> exact ok, fun _ z => .inl z⟩
  | a :: as, v :: vs, Γ, fps, d :: ds, ot :: outs, g, ok, hs, hl, o, dj, hm => by
    obtain ⟨v', r, f, h, e, rfl, d12, h1, h2⟩ := o
    cases e
    have hs' : ∀ a v, (a, v) ∈ as.zip vs → ∀ i, a = .s i → σ[i]? = some (some v) := fun a v m i e => hs a v (List.mem_cons_of_mem _ m) i e
    have hl' : as.length = vs.length := by simpa using hl
    have rest := back_ok (ds := ds) ok hs' hl' h2 (fun x z => dj x (.inr z)) (fun x z => hm x (.inr z))
    cases a with
    | v d' =>
      obtain ⟨fps', k1, k2⟩ := rest
      exact ⟨fps', k1, fun x z => (k2 x z).elim .inl fun z => .inr (.inr z)⟩
    | s i =>
      by_cases z : d.fz = true
      · obtain ⟨fps', k1, k2⟩ := rest
        refine ⟨fps', ?_, fun x z => (k2 x z).elim .inl fun z => .inr (.inr z)⟩
        show EOk E F H σ (if d.fz = true then back as ds outs Γ else back as ds outs (Γ.set i ot)) fps'
        rw [if_pos z]
        exact k1
      · have hv := hs (.s i) v List.mem_cons_self i rfl
        have hi : i < Γ.length := by rw [ok.len]; exact (List.getElem?_eq_some_iff.mp hv).1
        have step : ∃ fps1, EOk E F H σ (Γ.set i ot) fps1 ∧ ∀ x, U fps1 x → U fps x ∨ f x := by
          cases ot with
          | none => exact ⟨_, ok.drop i, fun x z => (U_put z).elim (fun z => z.elim) fun ⟨j, _, q⟩ => .inl ⟨j, q⟩⟩
          | some e => exact ⟨_, ok.give hi hv h1 (fun x z => dj x (.inl z)) (fun x z => hm x (.inl z)), fun x z => (U_put z).elim .inr fun ⟨j, _, q⟩ => .inl ⟨j, q⟩⟩
        obtain ⟨fps1, s1, s2⟩ := step
        obtain ⟨fps', k1, k2⟩ := back_ok (ds := ds) s1 hs' hl' h2 (fun x z w => (s2 x w).elim (dj x (.inr z)) fun w => d12 x w z) (fun x z => hm x (.inr z))
        refine ⟨fps', ?_, fun x z => (k2 x z).elim (fun z => (s2 x z).elim .inl fun z => .inr (.inl z)) fun z => .inr (.inr z)⟩
        show EOk E F H σ (if d.fz = true then back as ds outs Γ else back as ds outs (Γ.set i ot)) fps'
        rw [if_neg z]
        exact k1
end
end DL

/-! DH: calls of the text's own defs; what is walked; comprehensions, by data. -/
namespace DL
open PySem PySem.Spec PyProof.Rows L2

/-- a def of the text, at a name of the module: the levels that it needs, what it is worth -/
structure Dn (P : Program) (w : World) (K : PySem.W.Frag) (mg : Str → Option Value) (base : Heap) (f : Addr) (k : Nat) (sp : SpD) : Prop where
  ex : ∃ (fd : FuncData) (ps : List Str), FnOk P w K mg base (CX P w) k f fd ps (spOf K sp) ∧ PySem.W.keepIn K (.ref f) = true ∧ Binds K fd ps []
def dCall (sp : SpD) (ta : TXs) : TX := fun Ex Γ Q => ta Ex Γ fun as Γ1 => match lend as Γ1 with
  | some (ds, Γ2) => sp ds (fun r outs => Q (.v r) (back as ds outs Γ2)) (fun C l outs => Ex C l (back as ds outs Γ2))
  | none => False
def dCallL (i : Nat) (f : Addr) (sp : SpD) (ta : TXs) : TX := fun Ex Γ Q => (Γ[i]?).join = some (.ob f) ∧ dCall sp ta Ex Γ Q
def dCall0 (sp : SpD) : TX := fun _ Γ Q => sp [] (fun r _ => Q (.v r) Γ) (fun _ _ _ => False)
theorem HoldL.slots {K : PySem.W.Frag} {F H : Hp} {σ : L2.St} : ∀ {as : List AD} {vs : List V} {T : ASet}, HoldL K F H σ as vs T → as.length = vs.length ∧ ∀ a v, (a, v) ∈ as.zip vs → ∀ i, a = .s i → σ[i]? = some (some v)
  | [], vs, T, h => by rw [show vs = [] from h.1]; exact ⟨rfl, fun _ _ m => by simp at m⟩
  | a :: as, vs, T, h => by
    obtain ⟨v, r, f, g, rfl, rfl, _, h1, h2⟩ := h
    obtain ⟨i1, i2⟩ := HoldL.slots h2
    refine ⟨by simpa using i1, fun a' v' m i e => ?_⟩
    rcases List.mem_cons.mp m with q | q
    · cases q
      subst e
      exact h1.2
    · exact i2 a' v' q i e
section
variable {E : EC} {F0 H0 F H F' H' : Hp} {fps0 fps : Fps} {σ : L2.St} {Γ Γ2 : DEnv} {T : ASet} {as : List AD} {vs : List V} {ds : List D} {Γ0 : DEnv}
/-- a call: what is lent, and what is had behind it -/
theorem call_go (ok0 : EOk E F0 H0 σ Γ0 fps0) (A : At E F0 H0 fps0 σ F H Γ fps T) (hl : HoldL E.K F H σ as vs T) (e : lend as Γ = some (ds, Γ2)) :
    ∃ S, OwnL E.K F H ds vs S ∧ ∀ F' H' outs f g, OutL E.K F' H' outs vs g → Evo F H S F' H' (fun x => f x ∨ g x) → Sub F' H' → (∀ x, f x → g x → False) → (∀ x, f x → ∃ o, H' x = some o) →
      ∃ fps', At E F0 H0 fps0 σ F' H' (back as ds outs Γ2) fps' f := by
  obtain ⟨fps', S, ok1, ow, a1, a2, a3, a4⟩ := lend_ok A.ok hl A.dj (A.mine ok0) e
  refine ⟨S, ow, fun F' H' outs f g o ev s dj tf => ?_⟩
  have ok2 : EOk E F' H' σ Γ2 fps' := ok1.grow ev s a1 a2
  have far : ∀ x, (f x ∨ g x) → ¬ U fps' x := fun x q w => by
    rcases ev.fresh x q with z | z
    · exact a1 x z w
    · obtain ⟨_, o, t⟩ := U_trk ok1 w
      rw [z] at t; cases t
  have mine : E.mine g := fun x q => (ev.fresh x (.inr q)).elim (a2 x) fun z => A.ok.unmine z
  obtain ⟨s1, s2⟩ := hl.slots
  obtain ⟨fps2, ok3, u3⟩ := back_ok (ds := ds) ok2 s2 s1 o (fun x q => far x (.inr q)) mine
  refine ⟨fps2, ok3, (A.evo.trans ((ev.wide (g := fun x => T x ∨ U fps x)).sub (fp1 := fun x => T x ∨ U fps x) fun x q => q.elim id (a3 x))).less fun x q => ?_, fun x q w => ?_⟩
  · rcases q with q | q
    · exact .inr (.inl q)
    · rcases u3 x q with z | z
      · exact .inl (.inr (a4 x z))
      · exact .inr (.inr z)
  · rcases u3 x w with z | z
    · exact far x (.inl q) z
    · exact dj x q z
end
section
variable {X : Cx} {E : EC} {e : Expr} {es : List Expr} {tas : TXs} {x : Str} {p pos : Pos} {k : Nat} {f : Addr} {sp : SpD}
theorem px_call (D : Dn X.prog X.w X.K X.mg X.base f k sp) (hm : X.mg x = some (.ref f)) (hr : Room k X.A) (ha : PXs X E (e :: es) tas) (hK : E.K = X.K := by rfl) (hg : Gl X x := by rfl) (hdb : (x == ("__debug__" : Str)) = false := by decide)
    (he : starEach (e :: es) X.env = (false, eval e X.env) :: starEach es X.env := by rfl) (hpl : (backTo pos (starEach es X.env)).any (·.1) = false := by rfl) : PX X E (.Call (.Name x p) (e :: es) [] pos) (dCall sp tas) := ⟨fun Ex tk => by
  obtain ⟨fd, ps, hF, hk, hb⟩ := D.ex
  refine pe_imp (pe_callS hF hr hg hm hk hb (fun σ => passAt tk σ) (ha.of Ex tk) hdb he hpl) fun σ H Q ⟨F, Γ, fps, P, ok, q, kk⟩ => ?_
  refine firstL (t := tas) ok q fun vs H1 F1 Γ1 fps1 as T A1 h1 q => ?_
  cases e1 : lend as Γ1 with
  | none => rw [e1] at q; exact q.elim
  | some pr =>
    obtain ⟨ds, Γ2⟩ := pr
    rw [e1] at q
    obtain ⟨S, ow, go⟩ := call_go ok A1 h1 e1
    refine ⟨F1, ds, S, _, _, A1.ok.sub, by rw [← hK]; exact ow, q, fun F' H' r v outs f' g o rv dj ev s q => ?_, fun F' H' C dd l outs g o py ev s q => ?_⟩
    · rw [← hK] at o rv
      obtain ⟨fps', A2⟩ := go F' H' outs f' g o ev s dj fun x q => (Own.trk _ _ _ rv x q).2
      exact kk v H' ⟨F', _, fps', .v r, f', A2, rv, q⟩
    · rw [← hK] at o py
      obtain ⟨fps', A2⟩ := go F' H' outs Nil g o (by rw [nil_or]; exact ev) s (fun _ z => z.elim) fun _ z => z.elim
      exact ⟨F', _, fps', C, l, rfl, A2.ok, py, q⟩⟩
theorem px_call0 (D : Dn X.prog X.w X.K X.mg X.base f k sp) (hm : X.mg x = some (.ref f)) (hr : Room k X.A) (hK : E.K = X.K := by rfl) (hg : Gl X x := by rfl) (hdb : (x == ("__debug__" : Str)) = false := by decide) : PX X E (.Call (.Name x p) [] [] pos) (dCall0 sp) := ⟨fun Ex tk => by
  obtain ⟨fd, ps, hF, hk, hb⟩ := D.ex
  refine pe_imp (pe_call0 (E := E0) hF hr hg hm hk hb .nil passL hdb) fun σ H Q ⟨F, Γ, fps, P, ok, q, kk⟩ => ?_
  refine ⟨F, [], Nil, _, _, ok.sub, ⟨rfl, rfl⟩, q, fun F' H' r v outs f' g o rv dj ev s q => ?_, fun F' H' C dd l outs g o py ev s q => q.elim⟩
  rw [← hK] at rv
  have eg : g = Nil := by
    cases outs with
    | nil => exact o.2
    | cons o' os =>
      obtain ⟨_, _, _, _, e, _⟩ := o
      cases e
  subst eg
  have ev' : Evo F H Nil F' H' f' := by rw [or_nil] at ev; exact ev
  exact kk v H' ((At.start ok).done rv ev' s q)⟩
/-- a call of what a name of the def holds: a def of the text -/
theorem px_callL (i : Nat) (D : Dn X.prog X.w X.K X.mg X.base f k sp) (hr : Room k X.A) (ha : PXs X E (e :: es) tas) (hK : E.K = X.K := by rfl) (hN : X.N[i]? = some x := by rfl) (hv : Vis X.env.scope x := by first | exact Or.inl rfl | exact Or.inr (Or.inl rfl) | exact Or.inr (Or.inr rfl))
    (hdb : (x == ("__debug__" : Str)) = false := by decide) (hcd : (x == ("__classdict__" : Str)) = false := by decide)
    (he : starEach (e :: es) X.env = (false, eval e X.env) :: starEach es X.env := by rfl) (hpl : (backTo pos (starEach es X.env)).any (·.1) = false := by rfl) :
    PX X E (.Call (.Name x p) (e :: es) [] pos) (dCallL i f sp tas) := ⟨fun Ex tk => ⟨fun pins s σ H Q I h => by
  obtain ⟨F, Γ, fps, P, ok, ⟨hi, q⟩, kk⟩ := h
  obtain ⟨fd, ps, hF, hk, hb⟩ := D.ex
  obtain ⟨v, hv', ho⟩ := ok.slot i _ (join_some hi)
  cases (show v = .ref f from ho.2)
  refine wpAny_Call_Name_kw (thn ((pe_var (pos := p) hN hv hdb hcd).run pins s σ H (fun v H1 => v = .ref f ∧ H1 = H) I ⟨.ref f, hv', rfl, rfl⟩) fun u s1 ⟨v, H1, I1, r1, q1⟩ => ?_)
  obtain ⟨rfl, rfl⟩ := q1
  cases r1
  refine PySem.W.callWith_K (h₀ := X.base) I.ok.mod.kin hk (thn ((ha.of Ex tk).run pos pins s1 σ _ (fun vs H1 => spOf X.K sp vs H1 Q (WE (wOf E Ex) σ)) I1 ?_) fun us s2 ⟨vs, H2, I2, r, q⟩ => ⟨I2.kIn, run_fnS hF hr hb (passAt tk σ) I2 r q⟩) he hpl
  refine firstL (t := tas) ok q fun vs H1 F1 Γ1 fps1 as T A1 h1 q => ?_
  cases e1 : lend as Γ1 with
  | none => rw [e1] at q; exact q.elim
  | some pr =>
    obtain ⟨ds, Γ2⟩ := pr
    rw [e1] at q
    obtain ⟨S, ow, go⟩ := call_go ok A1 h1 e1
    refine ⟨F1, ds, S, _, _, A1.ok.sub, by rw [← hK]; exact ow, q, fun F' H' r v outs f' g o rv dj ev s q => ?_, fun F' H' C dd l outs g o py ev s q => ?_⟩
    · rw [← hK] at o rv
      obtain ⟨fps', A2⟩ := go F' H' outs f' g o ev s dj fun x q => (Own.trk _ _ _ rv x q).2
      exact kk v H' ⟨F', _, fps', .v r, f', A2, rv, q⟩
    · rw [← hK] at o py
      obtain ⟨fps', A2⟩ := go F' H' outs Nil g o (by rw [nil_or]; exact ev) s (fun _ z => z.elim) fun _ z => z.elim
      exact ⟨F', _, fps', C, l, rfl, A2.ok, py, q⟩⟩⟩
end

/-! ### what is walked -/
/-- while what is at T stays, J goes through xs -/
def Src (K : PySem.W.Frag) (J : It) (xs : List D) (F1 H1 : Hp) (T : ASet) : Prop := ∀ F' H' i, Sub F' H' → Kp F1 H1 F' H' T →
  (∀ d, xs[i]? = some d → J.go i H' ∧ ∀ x H'', J.yld i H' x H'' → ∃ F'', Rep K F'' d x ∧ Evo F' H' Nil F'' H'' Nil ∧ Sub F'' H'') ∧ (xs.length ≤ i → J.stop i H')
/-- the items, the names meanwhile, what a name gets back behind it -/
abbrev TSr := DX → DEnv → (List D → DEnv → List (Nat × D) → Prop) → Prop
def Gv (E : EC) (F H : Hp) (σ : L2.St) : List (Nat × D) → ASet → Prop
  | [], _ => True
  | (i, d) :: r, T => ∃ f g v, (T = fun x => f x ∨ g x) ∧ (∀ x, f x → g x → False) ∧ σ[i]? = some (some v) ∧ Own E.K F H d v f ∧ Gv E F H σ r g
theorem Gv.keep {E : EC} {F H F' H' : Hp} {σ : L2.St} : ∀ {gv : List (Nat × D)} {T : ASet}, Gv E F H σ gv T → Kp F H F' H' T → Gv E F' H' σ gv T
  | [], _, _, _ => True.intro
  | (i, d) :: r, T, h, k => by
    obtain ⟨f, g, v, rfl, dj, hv, ow, h⟩ := h
    exact ⟨f, g, v, rfl, dj, hv, Own.keep _ _ _ ow k.l, h.keep k.r⟩
def tiOf (E : EC) (ts : TSr) (Ex : DX) : TI := fun σ H R => ∃ F Γ fps P, EOk E F H σ Γ fps ∧ ts Ex Γ P ∧
  ∀ J F' H' Γ' fps' T xs gv, At E F H fps σ F' H' Γ' fps' T → (∀ x, T x → F' x = none ∧ ∃ o, H' x = some o) → Src E.K J xs F' H' T → Gv E F' H' σ gv T → P xs Γ' gv → R J H'
structure PIx (X : Cx) (E : EC) (tg iter : Expr) (ts : TSr) : Prop where
  of : ∀ Ex, Tk X E Ex → PI X tg iter (tiOf E ts Ex)
theorem pi_imp {X : Cx} {tg e : Expr} {t t' : TI} (h : PI X tg e t) (i : ∀ σ H Q, t' σ H Q → t σ H Q) : PI X tg e t' := ⟨fun p s σ H Q I q => h.run p s σ H Q I (i _ _ _ q)⟩
/-- a list, a tuple, a text -/
def itemsOf : D → Option (List D)
  | .lst _ l => some l
  | .tup l => some l
  | .str s => some (s.cps.toList.map fun c => .str ⟨#[c]⟩)
  | _ => none
/-- a value that is walked -/
def sV (te : TX) : TSr := fun Ex Γ Q => te Ex Γ fun a Γ1 => match a with
  | .v d => un (itemsOf d) fun xs => Q xs Γ1 []
  | .s i => un (Γ1[i]?).join fun d => un (itemsOf d) fun xs => if d.fz = true then Q xs Γ1 [] else d.can = true ∧ Q xs (Γ1.set i (some d.frz)) []
/-- what a name holds is walked; meanwhile the name is not asked -/
def sL (i : Nat) : TSr := fun _ Γ Q => un (Γ[i]?).join fun d => un (itemsOf d) fun xs => Q xs (Γ.set i none) [(i, d)]
/-- walked as it is -/
def iAny (K : PySem.W.Frag) (te : TE) : TI := fun σ H R => te σ H fun v H1 => (∃ a, v = .ref a ∧ (∃ xs, SqL K H1 a xs) ∧ R (Itl K a) H1) ∨ (∃ a, v = .ref a ∧ (∃ xs, SqT K H1 a xs) ∧ R (Itt K a) H1) ∨ ∃ x, v = .str x ∧ R (Its x) H1
theorem pi_any {X : Cx} {tg e : Expr} {te : TE} (he : PE X e te) : PI X tg e (iAny X.K te) := by
  refine ⟨fun pins s σ H R I h => ?_⟩
  refine thn (he.run pins s σ H _ I h) fun v s1 ⟨y, H1, I1, r1, q⟩ => ?_
  rcases q with ⟨a, ex, ⟨xs, hx⟩, q⟩ | ⟨a, ex, ⟨xs, hx⟩, q⟩ | ⟨x, ex, q⟩
  · subst ex
    cases r1
    obtain ⟨its, _, pl, _⟩ := I1.list hx
    refine wpAny_pyIter_list pl.isList (pi_one (tk := s1.toks) I1 _ (turn_list a _) ⟨_, Heap.get?_push_size _ rfl, rfl, rfl⟩ q)
  · subst ex
    cases r1
    obtain ⟨its, _, pl, _⟩ := I1.tuple hx
    refine wpAny_pyIter_tuple (show s1.heap.IsTuple a its.toArray from pl) (pi_one (tk := s1.toks) I1 _ (turn_tuple a _) ⟨_, Heap.get?_push_size _ rfl, rfl, rfl⟩ q)
  · subst ex
    obtain ⟨t, rfl⟩ := r1
    cases ha : x.cps.all (· < 128)
    · exact wpAny_pyIter_wide ha (pi_one (tk := s1.toks) I1 _ (turn_str _ x t "str_iterator" (.inr rfl)) ⟨_, Heap.get?_push_size _ rfl, rfl, rfl⟩ q)
    · exact wpAny_pyIter_ascii ha (pi_one (tk := s1.toks) I1 _ (turn_str _ x t "str_ascii_iterator" (.inl rfl)) ⟨_, Heap.get?_push_size _ rfl, rfl, rfl⟩ q)
/-- what is walked, by its items -/
theorem src_own {K : PySem.W.Frag} {F H : Hp} {d : D} {v : V} {T : ASet} {xs : List D} (s : Sub F H) (ow : Own K F H d v T) (e : itemsOf d = some xs) {R : It → Hp → Prop} (go : ∀ J, Src K J xs F H T → R J H) :
    (∃ a, v = .ref a ∧ (∃ xs, SqL K H a xs) ∧ R (Itl K a) H) ∨ (∃ a, v = .ref a ∧ (∃ xs, SqT K H a xs) ∧ R (Itt K a) H) ∨ ∃ x, v = .str x ∧ R (Its x) H := by
  cases d with
  | lst o l =>
    cases e
    obtain ⟨a, vs, rfl, q, _, _⟩ := pk_lst s ⟨_, ow⟩
    refine .inl ⟨a, rfl, ⟨vs, q⟩, go _ fun F' H' i s' k => ?_⟩
    obtain ⟨a', vs, e, q, r, _⟩ := pk_lst s' ⟨_, Own.keep _ _ _ ow k⟩
    cases e
    refine ⟨fun d hd => ?_, fun hl => ⟨vs, q, by rw [r.length]; exact hl⟩⟩
    obtain ⟨v, hv, rv⟩ := r.get hd
    refine ⟨⟨vs, v, q, hv⟩, fun x H'' y => ?_⟩
    obtain ⟨rfl, y⟩ := y
    have e := y vs q
    rw [hv] at e
    cases e
    exact ⟨F', rv, Evo.refl, s'⟩
  | tup l =>
    cases e
    obtain ⟨a, vs, rfl, q, _, _⟩ := pk_tup s ⟨_, ow⟩
    refine .inr (.inl ⟨a, rfl, ⟨vs, q⟩, go _ fun F' H' i s' k => ?_⟩)
    obtain ⟨a', vs, e, q, _, r⟩ := pk_tup s' ⟨_, Own.keep _ _ _ ow k⟩
    cases e
    refine ⟨fun d hd => ?_, fun hl => ⟨vs, q, by rw [r.length]; exact hl⟩⟩
    obtain ⟨v, hv, rv⟩ := r.get hd
    refine ⟨⟨vs, v, q, hv⟩, fun x H'' y => ?_⟩
    obtain ⟨rfl, y⟩ := y
    have e := y vs q
    rw [hv] at e
    cases e
    exact ⟨F', rv, Evo.refl, s'⟩
  | str z =>
    cases e
    cases (show v = .str z from ow.2)
    refine .inr (.inr ⟨z, rfl, go _ fun F' H' i s' k => ⟨fun d hd => ?_, fun hl => ?_⟩⟩)
    · rw [List.getElem?_map] at hd
      cases q : z.cps.toList[i]? with
      | none => rw [q] at hd; cases hd
      | some c =>
        rw [q] at hd
        cases hd
        have q' : z.cps[i]? = some c := by simpa using q
        refine ⟨(Array.getElem?_eq_some_iff.mp q').1, fun x H'' y => ?_⟩
        obtain ⟨rfl, c', hc, rfl⟩ := y
        rw [q'] at hc
        cases hc
        exact ⟨F', rfl, Evo.refl, s'⟩
    · show z.cps.size ≤ i
      simpa using hl
  | _ => cases e
section
variable {X : Cx} {E : EC} {tg e e2 : Expr} {es : List Expr} {te : TX} {tas : TXs} {x : Str} {p pos : Pos}
theorem pi_v (he : PX X E e te) (hK : E.K = X.K := by rfl) : PIx X E tg e (sV te) := ⟨fun Ex tk => pi_imp (pi_any (he.of Ex tk)) fun σ H R ⟨F, Γ, fps, P, ok, q, go⟩ =>
  first (t := te) ok q fun v H1 F1 Γ1 fps1 a T A1 h1 q => by
    rw [← hK]
    cases a with
    | v d =>
      obtain ⟨xs, e1, q⟩ := un_of q
      exact src_own A1.ok.sub h1 e1 fun J sr => go J F1 H1 Γ1 fps1 T xs [] A1 (Own.trk _ _ _ h1) sr trivial q
    | s i =>
      obtain ⟨d, e0, q⟩ := un_of q
      obtain ⟨xs, e1, q⟩ := un_of q
      obtain ⟨rfl, hv⟩ := h1
      by_cases z : d.fz = true
      · rw [if_pos z] at q
        obtain ⟨v', hv', ow⟩ := A1.ok.slot i d (join_some e0)
        rw [hv] at hv'
        cases hv'
        exact src_own A1.ok.sub (own_nil ((own_fz z).mp ow).2 z) e1 fun J sr => go J F1 H1 Γ1 fps1 Nil xs [] A1 (fun _ z => z.elim) sr trivial q
      · rw [if_neg z] at q
        obtain ⟨A2, r⟩ := A1.freezeS e0 q.1 hv
        have e2 : itemsOf d.frz = some xs := by
          cases d with
          | lst o l => cases o <;> exact e1
          | tup _ => exact e1
          | str _ => exact e1
          | _ => cases e1
        exact src_own A2.ok.sub (own_nil r (rep_fz r)) e2 fun J sr => go J _ H1 _ _ Nil xs [] A2 (fun _ z => z.elim) sr trivial q.2⟩
theorem At.lent {E : EC} {F H : Hp} {fps : Fps} {σ : L2.St} {Γ : DEnv} (ok : EOk E F H σ Γ fps) (i : Nat) : At E F H fps σ F H (Γ.set i none) (put fps i Nil) (fps i) := by
  refine ⟨ok.drop i, Evo.refl.less fun x q => ?_, fun x q w => ?_⟩
  · rcases q with q | q
    · exact ⟨i, q⟩
    · rcases U_put q with q | ⟨j, _, q⟩
      · exact q.elim
      · exact ⟨j, q⟩
  · rcases U_put w with w | ⟨j, n, w⟩
    · exact w
    · exact ok.dis j i x n w q
theorem pi_l (i : Nat) (hK : E.K = X.K := by rfl) (hN : X.N[i]? = some x := by rfl) (hv : Vis X.env.scope x := by first | exact Or.inl rfl | exact Or.inr (Or.inl rfl) | exact Or.inr (Or.inr rfl)) (hd : (x == ("__debug__" : Str)) = false := by decide)
    (hcd : (x == ("__classdict__" : Str)) = false := by decide) : PIx X E tg (.Name x p) (sL i) := ⟨fun Ex tk => pi_imp (pi_any (pe_var hN hv hd hcd)) fun σ H R ⟨F, Γ, fps, P, ok, q, go⟩ => by
  obtain ⟨d, e0, q⟩ := un_of q
  obtain ⟨xs, e1, q⟩ := un_of q
  obtain ⟨v, hv, ow⟩ := ok.slot i d (join_some e0)
  refine ⟨v, hv, ?_⟩
  rw [← hK]
  exact src_own ok.sub ow e1 fun J sr => go J F H _ _ (fps i) xs [(i, d)] (At.lent ok i) (ok.trk i) sr ⟨fps i, Nil, v, or_nil.symm, fun _ _ z => z, hv, ow, True.intro⟩ q⟩
/-- range(n), range(m, n) -/
def rangeL (lo : Int) (n : Nat) : List D := (List.range n).map fun i => .int (lo + (i : Nat))
def sR1 (ta : TXs) : TSr := fun Ex Γ Q => ta Ex Γ fun as Γ1 => un (resL as Γ1) fun ds => match ds with
  | [.int n] => (-1000000 ≤ n ∧ n ≤ 1000000) ∧ Q (rangeL 0 n.toNat) Γ1 []
  | _ => False
def sR2 (ta : TXs) : TSr := fun Ex Γ Q => ta Ex Γ fun as Γ1 => un (resL as Γ1) fun ds => match ds with
  | [.int m, .int n] => (-1000000 ≤ m ∧ m ≤ 1000000 ∧ -1000000 ≤ n ∧ n ≤ 1000000) ∧ Q (rangeL m (n - m).toNat) Γ1 []
  | _ => False
theorem src_range {K : PySem.W.Frag} {F H : Hp} {T : ASet} {lo : Int} {n : Nat} : Src K (Itr lo n) (rangeL lo n) F H T := fun F' H' i s k => by
  refine ⟨fun d hd => ?_, fun hl => ?_⟩
  case refine_2 => 
    have z : n ≤ i := by simpa [rangeL] using hl
    exact z
  unfold rangeL at hd
  rw [List.getElem?_map] at hd
  by_cases q : i < n
  · rw [List.getElem?_range q] at hd
    cases hd
    refine ⟨q, fun x H'' y => ?_⟩
    obtain ⟨rfl, rfl⟩ := y
    exact ⟨F', rfl, Evo.refl, s⟩
  · rw [List.getElem?_eq_none (by simpa using q)] at hd
    cases hd
theorem pi_r1 (ha : PXs X E [e] tas) (hm : X.mg "range" = none) (hg : Gl X "range" := by rfl) (hs : starEach [e] X.env = [(false, eval e X.env)] := by rfl) : PIx X E tg (.Call (.Name "range" p) [e] [] pos) (sR1 tas) := ⟨fun Ex tk =>
  pi_imp (pi_range1 hg hm (ha.of Ex tk) hs) fun σ H R ⟨F, Γ, fps, P, ok, q, go⟩ => firstL (t := tas) ok q fun vs H1 F1 Γ1 fps1 as T A1 h1 q => by
    obtain ⟨ds, e1, q⟩ := un_of q
    have pk := h1.peek A1.ok e1
    match ds, q with
    | [.int n], q =>
      obtain ⟨v, rfl, pk1⟩ := pkL1 pk
      cases (show v = .int n from pk_fz pk1 rfl)
      exact ⟨n, rfl, by have := q.1.1; omega, by have := q.1.2; omega, go _ F1 H1 Γ1 fps1 Nil _ [] A1.drop (fun _ z => z.elim) src_range trivial q.2⟩⟩
theorem pi_r2 (ha : PXs X E [e, e2] tas) (hm : X.mg "range" = none) (hg : Gl X "range" := by rfl) (hs : starEach [e, e2] X.env = [(false, eval e X.env), (false, eval e2 X.env)] := by rfl) (hs2 : starEach [e2] X.env = [(false, eval e2 X.env)] := by rfl) : PIx X E tg (.Call (.Name "range" p) [e, e2] [] pos) (sR2 tas) := ⟨fun Ex tk =>
  pi_imp (pi_range2 hg hm (ha.of Ex tk) hs hs2) fun σ H R ⟨F, Γ, fps, P, ok, q, go⟩ => firstL (t := tas) ok q fun vs H1 F1 Γ1 fps1 as T A1 h1 q => by
    obtain ⟨ds, e1, q⟩ := un_of q
    have pk := h1.peek A1.ok e1
    match ds, q with
    | [.int m, .int n], q =>
      obtain ⟨v, w, rfl, pk1, pk2⟩ := pkL2 pk
      cases (show v = .int m from pk_fz pk1 rfl)
      cases (show w = .int n from pk_fz pk2 rfl)
      obtain ⟨⟨b1, b2, b3, b4⟩, q⟩ := q
      exact ⟨m, n, rfl, ⟨by omega, by omega, by omega, by omega⟩, go _ F1 H1 Γ1 fps1 Nil _ [] A1.drop (fun _ z => z.elim) src_range trivial q⟩⟩
/-- zip(a, b), enumerate(a), of lists -/
def sZip (ta : TXs) : TSr := fun Ex Γ Q => ta Ex Γ fun as Γ1 => demL as Γ1 fun ds Γ2 => match ds with
  | [.lst .f l, .lst .f m] => Q ((l.zip m).map fun p => .tup [p.1, p.2]) Γ2 []
  | [.tup l, .tup m] => Q ((l.zip m).map fun p => .tup [p.1, p.2]) Γ2 []
  | _ => False
def sEnum (ta : TXs) : TSr := fun Ex Γ Q => ta Ex Γ fun as Γ1 => demL as Γ1 fun ds Γ2 => match ds with
  | [.lst .f l] => Q (l.mapIdx fun i d => .tup [.int (i : Nat), d]) Γ2 []
  | _ => False
theorem newtup {K : PySem.W.Frag} {F H : Hp} {p : Addr} {l : List D} {vs : List V} (s : Sub F H) (h : H p = none) (r : RepL K F l vs) : ∃ F'', Rep K F'' (.tup l) (.ref p) ∧ Evo F H Nil F'' (upd H p (.tup vs)) Nil ∧ Sub F'' (upd H p (.tup vs)) := by
  have e := Evo.newF (o := .tup vs) s h
  exact ⟨_, ⟨p, vs, rfl, SqT.of upd_same, RepL.mono e.ext l vs r⟩, e, sub_newF s⟩
theorem src_zip {K : PySem.W.Frag} {F H : Hp} {T : ASet} {a b : Addr} {vs ws : List V} {l m : List D} (ha : F a = some (.lst vs)) (hb : F b = some (.lst ws)) (ra : RepL K F l vs) (rb : RepL K F m ws) : Src K (Itz K a b) ((l.zip m).map fun p => .tup [p.1, p.2]) F H T := fun F' H' i s k => by
  have qa : SqL K H' a vs := SqL.of (s _ _ (k.ext _ _ ha))
  have qb : SqL K H' b ws := SqL.of (s _ _ (k.ext _ _ hb))
  refine ⟨fun d hd => ?_, fun hl => ⟨vs, ws, qa, qb, ?_⟩⟩
  · rw [List.getElem?_map] at hd
    cases q : (l.zip m)[i]? with
    | none => rw [q] at hd; cases hd
    | some p =>
      rw [q] at hd
      cases hd
      rw [List.getElem?_zip_eq_some] at q
      obtain ⟨x, hx, rx⟩ := ra.get q.1
      obtain ⟨y, hy, ry⟩ := rb.get q.2
      refine ⟨⟨vs, ws, x, y, qa, qb, hx, hy⟩, fun z H'' h => ?_⟩
      obtain ⟨t, x', y', rfl, hn, rfl, h1, h2⟩ := h
      have e1 := h1 vs qa
      have e2 := h2 ws qb
      rw [hx] at e1
      rw [hy] at e2
      cases e1
      cases e2
      exact newtup s hn ⟨x, [y], rfl, Rep.mono k.ext _ _ rx, y, [], rfl, Rep.mono k.ext _ _ ry, rfl⟩
  · have z : (l.zip m).length ≤ i := by simpa using hl
    rw [List.length_zip] at z
    rw [ra.length, rb.length]
    omega
theorem src_zipT {K : PySem.W.Frag} {F H : Hp} {T : ASet} {a b : Addr} {l m : List D} (ha : Rep K F (.tup l) (.ref a)) (hb : Rep K F (.tup m) (.ref b)) : Src K (RZ.ItzT K a b) ((l.zip m).map fun p => .tup [p.1, p.2]) F H T := fun F' H' i s k => by
  obtain ⟨_, vs, e1, qa, _, ra⟩ := pk_tup s ⟨_, own_nil (Rep.mono k.ext _ _ ha) rfl⟩
  obtain ⟨_, ws, e2, qb, _, rb⟩ := pk_tup s ⟨_, own_nil (Rep.mono k.ext _ _ hb) rfl⟩
  cases e1
  cases e2
  refine ⟨fun d hd => ?_, fun hl => ⟨vs, ws, qa, qb, ?_⟩⟩
  · rw [List.getElem?_map] at hd
    cases q : (l.zip m)[i]? with
    | none => rw [q] at hd; cases hd
    | some p =>
      rw [q] at hd
      cases hd
      rw [List.getElem?_zip_eq_some] at q
      obtain ⟨x, hx, rx⟩ := ra.get q.1
      obtain ⟨y, hy, ry⟩ := rb.get q.2
      refine ⟨⟨vs, ws, x, y, qa, qb, hx, hy⟩, fun z H'' h => ?_⟩
      obtain ⟨t, x', y', rfl, hn, rfl, h1, h2⟩ := h
      have e1 := h1 vs qa
      have e2 := h2 ws qb
      rw [hx] at e1
      rw [hy] at e2
      cases e1
      cases e2
      exact newtup s hn ⟨x, [y], rfl, rx, y, [], rfl, ry, rfl⟩
  · have z : (l.zip m).length ≤ i := by simpa using hl
    rw [List.length_zip] at z
    rw [ra.length, rb.length]
    omega
theorem src_enum {K : PySem.W.Frag} {F H : Hp} {T : ASet} {a : Addr} {vs : List V} {l : List D} (ha : F a = some (.lst vs)) (ra : RepL K F l vs) : Src K (Ite K a) (l.mapIdx fun i d => .tup [.int (i : Nat), d]) F H T := fun F' H' i s k => by
  have qa : SqL K H' a vs := SqL.of (s _ _ (k.ext _ _ ha))
  refine ⟨fun d hd => ?_, fun hl => ⟨vs, qa, ?_⟩⟩
  · rw [List.getElem?_mapIdx] at hd
    cases q : l[i]? with
    | none => rw [q] at hd; cases hd
    | some p =>
      rw [q] at hd
      cases hd
      obtain ⟨x, hx, rx⟩ := ra.get q
      refine ⟨⟨vs, x, qa, hx⟩, fun z H'' h => ?_⟩
      obtain ⟨t, x', rfl, hn, rfl, h1⟩ := h
      have e1 := h1 vs qa
      rw [hx] at e1
      cases e1
      exact newtup s hn ⟨_, [x], rfl, rfl, x, [], rfl, Rep.mono k.ext _ _ rx, rfl⟩
  · have z : l.length ≤ i := by simpa using hl
    rw [ra.length]
    exact z
theorem pi_z {elts : List Expr} {kk : Nat} {tpos : Pos} (ha : PXs X E [e, e2] tas) (hm : X.mg "zip" = none) (hK : E.K = X.K := by rfl) (hg : Gl X "zip" := by rfl) (hs : starEach [e, e2] X.env = (false, eval e X.env) :: starEach [e2] X.env := by rfl) (hpl : (backTo pos (starEach [e2] X.env)).any (·.1) = false := by rfl) :
    PIx X E (.Tuple elts kk tpos) (.Call (.Name "zip" p) [e, e2] [] pos) (sZip tas) := ⟨fun Ex tk =>
  pi_imp (RZ.pi_zipA hg hm (ha.of Ex tk) hs hpl) fun σ H R ⟨F, Γ, fps, P, ok, q, go⟩ => firstL (t := tas) ok q fun vs H1 F1 Γ1 fps1 as T A1 h1 q => by
    obtain ⟨F2, Γ2, fps2, ds, A2, r, s, q⟩ := At.demL ok A1 h1 q
    match ds, q with
    | [.tup l, .tup m], q =>
      obtain ⟨v, r', rfl, g1, g2⟩ := r
      obtain ⟨w, r', rfl, g3, g4⟩ := g2
      rw [show r' = [] from g4]
      obtain ⟨a, vs, rfl, qa, _, ra⟩ := pk_tup A2.ok.sub ⟨_, own_nil g1 rfl⟩
      obtain ⟨b, ws, rfl, qb, _, rb⟩ := pk_tup A2.ok.sub ⟨_, own_nil g3 rfl⟩
      exact ⟨a, b, vs, ws, rfl, .inr ⟨by rw [← hK]; exact qa, by rw [← hK]; exact qb, by rw [← hK]; exact go _ F2 H1 Γ2 fps2 Nil _ [] A2 (fun _ z => z.elim) (src_zipT g1 g3) trivial q⟩⟩
    | [.lst .f l, .lst .f m], q =>
      obtain ⟨v, r', rfl, g1, g2⟩ := r
      obtain ⟨w, r', rfl, g3, g4⟩ := g2
      rw [show r' = [] from g4]
      obtain ⟨a, vs, rfl, fa, ra⟩ := g1
      obtain ⟨b, ws, rfl, fb, rb⟩ := g3
      exact ⟨a, b, vs, ws, rfl, .inl ⟨SqL.of (A2.ok.sub _ _ fa), SqL.of (A2.ok.sub _ _ fb), by rw [← hK]; exact go _ F2 H1 Γ2 fps2 Nil _ [] A2 (fun _ z => z.elim) (src_zip fa fb ra rb) trivial q⟩⟩⟩
theorem pi_e {elts : List Expr} {kk : Nat} {tpos : Pos} (ha : PXs X E [e] tas) (hm : X.mg "enumerate" = none) (hK : E.K = X.K := by rfl) (hg : Gl X "enumerate" := by rfl) (hs : starEach [e] X.env = [(false, eval e X.env)] := by rfl) :
    PIx X E (.Tuple elts kk tpos) (.Call (.Name "enumerate" p) [e] [] pos) (sEnum tas) := ⟨fun Ex tk =>
  pi_imp (pi_enum hg hm (ha.of Ex tk) hs) fun σ H R ⟨F, Γ, fps, P, ok, q, go⟩ => firstL (t := tas) ok q fun vs H1 F1 Γ1 fps1 as T A1 h1 q => by
    obtain ⟨F2, Γ2, fps2, ds, A2, r, s, q⟩ := At.demL ok A1 h1 q
    match ds, q with
    | [.lst .f l], q =>
      obtain ⟨v, r', rfl, g1, g3⟩ := r
      rw [show r' = [] from g3]
      obtain ⟨a, vs, rfl, fa, ra⟩ := g1
      exact ⟨a, vs, rfl, SqL.of (A2.ok.sub _ _ fa), by rw [← hK]; exact go _ F2 H1 Γ2 fps2 Nil _ [] A2 (fun _ z => z.elim) (src_enum fa ra) trivial q⟩⟩
/-- zip(x, y), enumerate(x) of names: meanwhile they are not asked -/
def sZipL (i j : Nat) : TSr := fun _ Γ Q => un (Γ[i]?).join fun d => un ((Γ.set i none)[j]?).join fun e => match d, e with
  | .lst _ l, .lst _ m => Q ((l.zip m).map fun p => .tup [p.1, p.2]) ((Γ.set i none).set j none) [(i, d), (j, e)]
  | .tup l, .tup m => Q ((l.zip m).map fun p => .tup [p.1, p.2]) ((Γ.set i none).set j none) [(i, d), (j, e)]
  | _, _ => False
def sEnumL (i : Nat) : TSr := fun _ Γ Q => un (Γ[i]?).join fun d => match d with
  | .lst _ l => Q (l.mapIdx fun i d => .tup [.int (i : Nat), d]) (Γ.set i none) [(i, d)]
  | _ => False
theorem src_zipO {K : PySem.W.Frag} {F H : Hp} {T f g : ASet} {o o' : Ow} {a b : V} {l m : List D} (ha : Own K F H (.lst o l) a f) (hb : Own K F H (.lst o' m) b g) (hf : ∀ x, f x → T x) (hg : ∀ x, g x → T x) {p q : Addr} (ea : a = .ref p) (eb : b = .ref q) :
    Src K (Itz K p q) ((l.zip m).map fun p => .tup [p.1, p.2]) F H T := fun F' H' i s k => by
  obtain ⟨_, vs, e1, qa, ra, _⟩ := pk_lst s ⟨_, Own.keep _ _ _ ha ⟨k.ext, fun x w => k.non x (hf x w), fun x o w => k.hp x o (hf x w)⟩⟩
  obtain ⟨_, ws, e2, qb, rb, _⟩ := pk_lst s ⟨_, Own.keep _ _ _ hb ⟨k.ext, fun x w => k.non x (hg x w), fun x o w => k.hp x o (hg x w)⟩⟩
  rw [ea] at e1; cases e1
  rw [eb] at e2; cases e2
  refine ⟨fun d hd => ?_, fun hl => ⟨vs, ws, qa, qb, ?_⟩⟩
  · rw [List.getElem?_map] at hd
    cases q : (l.zip m)[i]? with
    | none => rw [q] at hd; cases hd
    | some p =>
      rw [q] at hd
      cases hd
      rw [List.getElem?_zip_eq_some] at q
      obtain ⟨x, hx, rx⟩ := ra.get q.1
      obtain ⟨y, hy, ry⟩ := rb.get q.2
      refine ⟨⟨vs, ws, x, y, qa, qb, hx, hy⟩, fun z H'' h => ?_⟩
      obtain ⟨t, x', y', rfl, hn, rfl, h1, h2⟩ := h
      have e1 := h1 vs qa
      have e2 := h2 ws qb
      rw [hx] at e1
      rw [hy] at e2
      cases e1
      cases e2
      exact newtup s hn ⟨x, [y], rfl, rx, y, [], rfl, ry, rfl⟩
  · have z : (l.zip m).length ≤ i := by simpa using hl
    rw [List.length_zip] at z
    rw [ra.length, rb.length]
    omega
theorem src_enumO {K : PySem.W.Frag} {F H : Hp} {T : ASet} {o : Ow} {a : V} {l : List D} (ha : Own K F H (.lst o l) a T) {p : Addr} (ea : a = .ref p) : Src K (Ite K p) (l.mapIdx fun i d => .tup [.int (i : Nat), d]) F H T := fun F' H' i s k => by
  obtain ⟨_, vs, e1, qa, ra, _⟩ := pk_lst s ⟨_, Own.keep _ _ _ ha k⟩
  rw [ea] at e1; cases e1
  refine ⟨fun d hd => ?_, fun hl => ⟨vs, qa, ?_⟩⟩
  · rw [List.getElem?_mapIdx] at hd
    cases q : l[i]? with
    | none => rw [q] at hd; cases hd
    | some p =>
      rw [q] at hd
      cases hd
      obtain ⟨x, hx, rx⟩ := ra.get q
      refine ⟨⟨vs, x, qa, hx⟩, fun z H'' h => ?_⟩
      obtain ⟨t, x', rfl, hn, rfl, h1⟩ := h
      have e1 := h1 vs qa
      rw [hx] at e1
      cases e1
      exact newtup s hn ⟨_, [x], rfl, rfl, x, [], rfl, rx, rfl⟩
  · have z : l.length ≤ i := by simpa using hl
    rw [ra.length]
    exact z
section
variable {y : Str} {p1 p2 : Pos}
theorem pi_zl (i j : Nat) {elts : List Expr} {kk : Nat} {tpos : Pos} (hm : X.mg "zip" = none) (hK : E.K = X.K := by rfl) (hg : Gl X "zip" := by rfl) (hN : X.N[i]? = some x := by rfl) (hv : Vis X.env.scope x := by first | exact Or.inl rfl | exact Or.inr (Or.inl rfl) | exact Or.inr (Or.inr rfl))
    (hN2 : X.N[j]? = some y := by rfl) (hv2 : Vis X.env.scope y := by first | exact Or.inl rfl | exact Or.inr (Or.inl rfl) | exact Or.inr (Or.inr rfl))
    (hd : (x == ("__debug__" : Str)) = false := by decide) (hcd : (x == ("__classdict__" : Str)) = false := by decide) (hd2 : (y == ("__debug__" : Str)) = false := by decide) (hcd2 : (y == ("__classdict__" : Str)) = false := by decide)
    (hs : starEach [.Name x p1, .Name y p2] X.env = (false, eval (.Name x p1) X.env) :: starEach [.Name y p2] X.env := by rfl) (hs2 : starEach [.Name y p2] X.env = (false, eval (.Name y p2) X.env) :: starEach [] X.env := by rfl) (hpl : (backTo pos (starEach [.Name y p2] X.env)).any (·.1) = false := by rfl) :
    PIx X E (.Tuple elts kk tpos) (.Call (.Name "zip" p) [.Name x p1, .Name y p2] [] pos) (sZipL i j) := ⟨fun Ex tk =>
  pi_imp (RZ.pi_zipA hg hm (pa_cons (pe_var hN hv hd hcd) (pa_cons (pe_var hN2 hv2 hd2 hcd2) pa_nil hs2) hs) hs hpl) fun σ H R ⟨F, Γ, fps, P, ok, q, go⟩ => by
    obtain ⟨d, e0, q⟩ := un_of q
    obtain ⟨e, e1, q⟩ := un_of q
    obtain ⟨v, hv, ow⟩ := ok.slot i d (join_some e0)
    have ok1 := ok.drop i
    obtain ⟨u, hu, ow2⟩ := ok1.slot j e (join_some e1)
    have A1 := At.lent ok i
    obtain ⟨A2, _, dj⟩ := A1.step (ok.trk i) (At.lent ok1 j)
    have tr : ∀ x, (fps i x ∨ put fps i Nil j x) → F x = none ∧ ∃ o, H x = some o := fun x w => w.elim (ok.trk i x) (ok1.trk j x)
    have gv : Gv E F H σ [(i, d), (j, e)] (fun x => fps i x ∨ put fps i Nil j x) := ⟨_, _, _, rfl, dj, hv, ow, _, Nil, _, or_nil.symm, fun _ _ z => z, hu, ow2, True.intro⟩
    match d, e, q with
    | .lst o l, .lst o' m, q =>
      obtain ⟨a, vs, rfl, qa, _⟩ := pk_lst ok.sub ⟨_, ow⟩
      obtain ⟨b, ws, rfl, qb, _⟩ := pk_lst ok.sub ⟨_, ow2⟩
      refine ⟨_, hv, _, hu, a, b, vs, ws, rfl, .inl ⟨by rw [← hK]; exact qa, by rw [← hK]; exact qb, ?_⟩⟩
      rw [← hK]
      exact go _ F H _ _ _ _ [(i, .lst o l), (j, .lst o' m)] A2 tr (src_zipO ow ow2 (fun _ => .inl) (fun _ => .inr) rfl rfl) gv q
    | .tup l, .tup m, q =>
      obtain ⟨a, vs, rfl, qa, _⟩ := pk_tup ok.sub ⟨_, ow⟩
      obtain ⟨b, ws, rfl, qb, _⟩ := pk_tup ok.sub ⟨_, ow2⟩
      refine ⟨_, hv, _, hu, a, b, vs, ws, rfl, .inr ⟨by rw [← hK]; exact qa, by rw [← hK]; exact qb, ?_⟩⟩
      rw [← hK]
      exact go _ F H _ _ _ _ [(i, .tup l), (j, .tup m)] A2 tr (src_zipT ow.2 ow2.2) gv q⟩
theorem pi_el (i : Nat) {elts : List Expr} {kk : Nat} {tpos : Pos} (hm : X.mg "enumerate" = none) (hK : E.K = X.K := by rfl) (hg : Gl X "enumerate" := by rfl) (hN : X.N[i]? = some x := by rfl) (hv : Vis X.env.scope x := by first | exact Or.inl rfl | exact Or.inr (Or.inl rfl) | exact Or.inr (Or.inr rfl))
    (hd : (x == ("__debug__" : Str)) = false := by decide) (hcd : (x == ("__classdict__" : Str)) = false := by decide)
    (hs : starEach [.Name x p1] X.env = [(false, eval (.Name x p1) X.env)] := by rfl) :
    PIx X E (.Tuple elts kk tpos) (.Call (.Name "enumerate" p) [.Name x p1] [] pos) (sEnumL i) := ⟨fun Ex tk =>
  pi_imp (pi_enum hg hm (pa_cons (pe_var hN hv hd hcd) pa_nil hs) hs) fun σ H R ⟨F, Γ, fps, P, ok, q, go⟩ => by
    obtain ⟨d, e0, q⟩ := un_of q
    obtain ⟨v, hv, ow⟩ := ok.slot i d (join_some e0)
    match d, q with
    | .lst o l, q =>
      obtain ⟨a, vs, rfl, qa, _⟩ := pk_lst ok.sub ⟨_, ow⟩
      refine ⟨_, hv, a, vs, rfl, by rw [← hK]; exact qa, ?_⟩
      rw [← hK]
      exact go _ F H _ _ _ _ [(i, .lst o l)] (At.lent ok i) (ok.trk i) (src_enumO ow rfl) ⟨_, Nil, _, or_nil.symm, fun _ _ z => z, hv, ow, True.intro⟩ q⟩
end
end
end DL

/-! DI: targets; list comprehensions, by data. -/
namespace DL
open PySem PySem.Spec PyProof.Rows L2

/-! ### targets -/
theorem At.slots {E : EC} {F0 H0 F H : Hp} {fps0 fps fps1 : Fps} {σ σ' : L2.St} {Γ Γ' : DEnv} {T : ASet} (A : At E F0 H0 fps0 σ F H Γ fps T) (ok : EOk E F H σ' Γ' fps1) (s : ∀ x, U fps1 x → U fps x) : At E F0 H0 fps0 σ' F H Γ' fps1 T :=
  ⟨ok, A.evo.less fun x q => q.elim .inl fun z => .inr (s x z), fun x q z => A.dj x q (s x z)⟩
abbrev TGD := D → DEnv → (DEnv → Prop) → Prop
abbrev TGDs := List D → DEnv → (DEnv → Prop) → Prop
def ResG (E : EC) (vs : List Nat) (σ : L2.St) (F H : Hp) (fps : Fps) (P : DEnv → Prop) (σ' : L2.St) (H' : Hp) : Prop :=
  ∃ F' Γ' fps', At E F H fps σ' F' H' Γ' fps' Nil ∧ (∀ j, j ∉ vs → σ'[j]? = σ[j]?) ∧ σ'.length = σ.length ∧ P Γ'
def tgOf (E : EC) (vs : List Nat) (t : TGD) : TG := fun v σ H Q => ∃ F Γ fps d P, EOk E F H σ Γ fps ∧ Rep E.K F d v ∧ t d Γ P ∧ ∀ σ' H', ResG E vs σ F H fps P σ' H' → Q σ' H'
def tgsOf (E : EC) (vs : List Nat) (t : TGDs) : TGs := fun v σ H Q => ∃ F Γ fps d P, EOk E F H σ Γ fps ∧ RepL E.K F d v ∧ t d Γ P ∧ ∀ σ' H', ResG E vs σ F H fps P σ' H' → Q σ' H'
structure PGx (X : Cx) (E : EC) (tg : Expr) (vs : List Nat) (t : TGD) : Prop where
  of : PG X tg (tgOf E vs t)
structure PGxs (X : Cx) (E : EC) (tg : List Expr) (vs : List Nat) (t : TGDs) : Prop where
  of : PGs X tg (tgsOf E vs t)
theorem pg_imp {X : Cx} {e : Expr} {t t' : TG} (h : PG X e t) (i : ∀ v σ H Q, σ.length = X.N.length → t' v σ H Q → t v σ H Q) : PG X e t' := ⟨fun p s σ H v u Q I r q => h.run p s σ H v u Q I r (i _ _ _ _ I.len q)⟩
theorem pgs_imp {X : Cx} {e : List Expr} {t t' : TGs} (h : PGs X e t) (i : ∀ v σ H Q, t' v σ H Q → t v σ H Q) : PGs X e t' := ⟨fun p s σ H v u Q I r q => h.run p s σ H v u Q I r (i _ _ _ _ q)⟩
def gN (i : Nat) : TGD := fun d Γ Q => Q (Γ.set i (some d))
def gZ : TGDs := fun l Γ Q => match l with | [] => Q Γ | _ => False
def gC (t : TGD) (u : TGDs) : TGDs := fun l Γ Q => match l with
  | [] => False
  | d :: r => t d Γ fun Γ1 => u r Γ1 Q
def gT (n : Nat) (u : TGDs) : TGD := fun d Γ Q => match d with
  | .tup l => l.length = n ∧ u l Γ Q
  | _ => False
section
variable {X : Cx} {E : EC} {vs ws : List Nat} {t : TGD} {u : TGDs} {x : Str} {pos : Pos} {e : Expr} {es : List Expr}
theorem pgx_name (i : Nat) (hk : E.kp i = false := by rfl) (hi : X.N[i]? = some x := by rfl) (hx : Loc X.env.scope x := by first | exact Or.inl rfl | exact Or.inr rfl) (hN : X.N.Nodup := by decide)
    (hf : X.fn x = true ∨ X.env.scope.names.lookup x = some .local := by first | exact .inl rfl | exact .inr rfl) : PGx X E (.Name x pos) [i] (gN i) := ⟨pg_imp (pg_name hN hi hx hf) fun v σ H Q hl ⟨F, Γ, fps, d, P, ok, r, q, go⟩ => by
  have o : Own E.K F H d v Nil := own_nil r (rep_fz r)
  refine go _ _ ⟨F, _, _, (At.start ok).slots (ok.store (by rw [ok.len, hl]; exact (List.getElem?_eq_some_iff.mp hi).1) o (fun _ z => z.elim) (fun _ z => z.elim) hk) fun x w => ?_, fun j n => ?_, by rw [List.length_set], q⟩
  · rcases U_put w with w | ⟨j, _, w⟩
    · exact w.elim
    · exact ⟨j, w⟩
  · rw [List.getElem?_set_ne]
    intro z
    exact n (by rw [z]; exact List.mem_cons_self)⟩
theorem pgxs_nil : PGxs X E [] [] gZ := ⟨pgs_imp pgs_nil fun v σ H Q ⟨F, Γ, fps, d, P, ok, r, q, go⟩ => by
  cases d with
  | nil => exact ⟨r, go _ _ ⟨F, Γ, fps, At.start ok, fun _ _ => rfl, rfl, q⟩⟩
  | cons _ _ => exact q.elim⟩
theorem pgxs_cons (h1 : PGx X E e vs t) (h2 : PGxs X E es ws u) (hs : (assignEach (e :: es) X.env).map (·.2) = assign e X.env :: (assignEach es X.env).map (·.2) := by rfl) : PGxs X E (e :: es) (vs ++ ws) (gC t u) := ⟨pgs_imp (pgs_cons h1.of h2.of hs) fun v σ H Q ⟨F, Γ, fps, d, P, ok, r, q, go⟩ => by
  cases d with
  | nil => exact q.elim
  | cons d ds =>
    obtain ⟨v1, v2, rfl, r1, r2⟩ := r
    refine ⟨v1, v2, rfl, F, Γ, fps, d, _, ok, r1, q, fun σ' H' ⟨F', Γ', fps', A, n1, l1, q'⟩ => ?_⟩
    refine ⟨F', Γ', fps', ds, _, A.ok, RepL.mono A.evo.ext _ _ r2, q', fun σ2 H2 ⟨F2, Γ2, fps2, B, n2, l2, q2⟩ => ?_⟩
    exact go _ _ ⟨F2, Γ2, fps2, (A.step (fun _ z => z.elim) B).1.mono fun _ z => z.elim, fun j n => (n2 j fun z => n (List.mem_append_right _ z)).trans (n1 j fun z => n (List.mem_append_left _ z)), l2.trans l1, q2⟩⟩
theorem pgx_tup {k n : Nat} (h : PGxs X E es vs u) (hc : X.calm = true) (hK : E.K = X.K := by rfl) (hn : (assignEach es X.env).length = n := by rfl) (hst : (assignEach es X.env).findIdx? (·.1) = none := by rfl) : PGx X E (.Tuple es k pos) vs (gT n u) := ⟨pg_imp (pg_tup hc h.of hn hst) fun v σ H Q _ ⟨F, Γ, fps, d, P, ok, r, q, go⟩ => by
  cases d with
  | tup l =>
    obtain ⟨a, xs, rfl, h1, _, h2⟩ := pk_tup ok.sub ⟨_, own_nil r (rep_fz r)⟩
    exact ⟨a, xs, rfl, by rw [← hK]; exact h1, by rw [← q.1, h2.length], F, Γ, fps, l, P, ok, h2, q.2, go⟩
  | _ => exact q.elim⟩
/-- x[i] = .., x a name that holds a list of its own -/
def gIx (k : Nat) (ti : TX) : TGD := fun d Γ Q => un (Γ[k]?).join fun d0 => ti DX.no Γ fun a Γ1 => un (a.res Γ1) fun b => un (Γ1[k]?).join fun c => match b, c with
  | .int n, .lst .o l => un (ixN l.length n) fun j => Q (Γ1.set k (some (.lst .o (l.set j d))))
  | _, _ => False
theorem pgx_ix {i : Expr} {ti : TX} {p : Pos} (k : Nat) (hi : PX X E i ti) (hN : X.N[k]? = some x := by rfl) (hv : Vis X.env.scope x := by first | exact Or.inl rfl | exact Or.inr (Or.inl rfl) | exact Or.inr (Or.inr rfl))
    (hd : (x == ("__debug__" : Str)) = false := by decide) (hcd : (x == ("__classdict__" : Str)) = false := by decide)
    (ha : ∀ v, assign (.Subscript (.Name x p) i pos) X.env v = (do
      let ov ← holding [v] (eval (.Name x p) X.env)
      let iv ← holding [v, ov] (eval i X.env)
      standAt pos
      holding [v, ov, iv] (setItem ov iv v)
      release [v, ov, iv] []) := by intro _; rfl) : PGx X E (.Subscript (.Name x p) i pos) [] (gIx k ti) := ⟨pg_imp (pg_sub (pe_var hN hv hd hcd) (hi.of _ Tk.no) set_list ha) fun v σ H Q _ ⟨F, Γ, fps, d, P, ok, r, q, go⟩ => by
  obtain ⟨d0, e0, q⟩ := un_of q
  obtain ⟨v0, hv0, _⟩ := ok.slot k d0 (join_some e0)
  refine ⟨v0, hv0, first (t := ti) ok q fun w H1 F1 Γ1 fps1 a T A1 h1 q => ?_⟩
  obtain ⟨b, eb, q⟩ := un_of q
  obtain ⟨c, ec, q⟩ := un_of q
  have pb := h1.peek A1.ok eb
  obtain ⟨v1, hv1, ow⟩ := A1.ok.slot k c (join_some ec)
  rw [hv0] at hv1
  cases hv1
  match b, c, q with
  | .int n, .lst .o l, q =>
    obtain ⟨j, ej, q⟩ := un_of q
    cases (show w = .int n from pk_fz pb rfl)
    obtain ⟨a', vs, rfl, _, _, h2, h3⟩ := id ow
    obtain ⟨fps2, A2⟩ := A1.drop.mut (join_some ec) hv0 (h3.set (Rep.mono A1.evo.ext _ _ r))
    exact ⟨a', vs, n, j, rfl, rfl, h2, by rw [h3.length]; exact ej, go _ _ ⟨F1, _, fps2, A2, fun _ _ => rfl, rfl, q⟩⟩⟩
end

/-! ### comprehensions -/
def wipeD (Γ : DEnv) : List Nat → DEnv
  | [] => Γ
  | v :: vs => (wipeD Γ vs).set v none
theorem wipeD_length (Γ : DEnv) : ∀ vs : List Nat, (wipeD Γ vs).length = Γ.length
  | [] => rfl
  | v :: vs => by unfold wipeD; rw [List.length_set, wipeD_length Γ vs]
theorem wipeD_some {Γ : DEnv} {i : Nat} {d : D} : ∀ {vs : List Nat}, (wipeD Γ vs)[i]? = some (some d) → Γ[i]? = some (some d) ∧ i ∉ vs
  | [], h => ⟨h, by simp⟩
  | v :: vs, h => by
    unfold wipeD at h
    by_cases hi : v = i
    · subst hi
      by_cases hv : v < (wipeD Γ vs).length
      · rw [List.getElem?_set_self hv] at h; cases h
      · rw [List.getElem?_eq_none (by rw [List.length_set]; omega)] at h; cases h
    · rw [List.getElem?_set_ne hi] at h
      obtain ⟨a, b⟩ := wipeD_some h
      exact ⟨a, fun m => (List.mem_cons.mp m).elim (fun e => hi e.symm) b⟩
theorem wipe_in {j : Nat} {τ : L2.St} : ∀ {vs : List Nat}, j ∈ vs → (wipe τ vs)[j]? = if j < τ.length then some none else none
  | v :: vs, hj => by
    unfold wipe
    by_cases e : v = j
    · subst e
      by_cases l : v < τ.length
      · rw [List.getElem?_set_self (by rw [wipe_length]; exact l), if_pos l]
      · rw [List.getElem?_eq_none (by rw [List.length_set, wipe_length]; omega), if_neg l]
    · rw [List.getElem?_set_ne e]
      exact wipe_in ((List.mem_cons.mp hj).resolve_left fun q => e q.symm)
section
variable {E : EC} {F0 H0 F H F' H' F1 H1 : Hp} {fps0 fps fps1 : Fps} {σ σ' : L2.St} {Γ Γ' Γ1 : DEnv} {T f : ASet} {vs : List Nat}
theorem EOk.wipe (h : EOk E F H σ Γ fps) (hk : ∀ i ∈ vs, E.kp i = false) : EOk E F H (wipe σ vs) (wipeD Γ vs) fps :=
  ⟨h.sub, fun i d q => by
    obtain ⟨a, b⟩ := wipeD_some q
    rw [wipe_out b]
    exact h.slot i d a, h.dis, h.trk, h.evo, fun i v q => by
    obtain ⟨k1, k2⟩ := h.kept i v q
    refine ⟨k1, ?_⟩
    rw [wipe_out fun m => by rw [hk i m] at k1; cases k1]
    exact k2, by rw [wipe_length, wipeD_length]; exact h.len⟩
theorem EOk.unwipe (h : EOk E F H (L2.wipe σ vs) Γ fps) : EOk E F H σ Γ fps :=
  ⟨h.sub, fun i d q => by
    obtain ⟨v, a, b⟩ := h.slot i d q
    exact ⟨v, (wipe_some a).1, b⟩, h.dis, h.trk, h.evo, fun i v q => ⟨(h.kept i v q).1, (wipe_some (h.kept i v q).2).1⟩, by rw [h.len, wipe_length]⟩
/-- how it began, by other values of the names -/
theorem EOk.blank (h : EOk E F H σ Γ fps) (h' : EOk E F' H' σ' Γ' fps1) : EOk E F H σ' (List.replicate σ'.length none) fps :=
  ⟨h.sub, fun i d q => absurd (List.mem_replicate.mp (List.mem_of_getElem? q)).2 (fun z => by cases z), h.dis, h.trk, h.evo, h'.kept, List.length_replicate ..⟩
theorem At.chgT (A : At E F0 H0 fps0 σ F H Γ fps T) (e : Evo F H T F' H' f) (s : Sub F' H') (hm : E.mine T) : At E F0 H0 fps0 σ F' H' Γ fps f := by
  refine ⟨A.ok.grow e s A.dj hm, ?_, fun x hx q => ?_⟩
  · refine (A.evo.trans ((e.wide (g := U fps)).sub (fp1 := fun x => T x ∨ U fps x) fun x q => q.elim .inr .inl)).less fun x q => q.elim .inr .inl
  · rcases e.fresh x hx with z | z
    · exact A.dj x z q
    · obtain ⟨_, o, w⟩ := U_trk A.ok q
      rw [z] at w; cases w
end
/-- what a name gets back -/
def giv : List (Nat × D) → DEnv → DEnv
  | [], Γ => Γ
  | (i, d) :: r, Γ => giv r (Γ.set i (some d))
theorem At.give {E : EC} {F0 H0 F H : Hp} {fps0 : Fps} {σ : L2.St} {S : ASet} (ok0 : ∃ Γ1, EOk E F0 H0 σ Γ1 fps0) : ∀ {gv : List (Nat × D)} {fps : Fps} {Γ : DEnv} {T : ASet}, At E F0 H0 fps0 σ F H Γ fps (fun x => T x ∨ S x) → (∀ x, T x → S x → False) → Gv E F H σ gv T →
    ∃ fps', At E F0 H0 fps0 σ F H (giv gv Γ) fps' S
  | [], fps, Γ, T, A, _, _ => ⟨fps, A.mono fun x w => .inr w⟩
  | (i, d) :: r, fps, Γ, T, A, hd, g => by
    obtain ⟨f, g', v, rfl, dj, hv, ow, g⟩ := g
    obtain ⟨Γ1, ok1⟩ := id ok0
    have hi : i < Γ.length := by
      rw [A.ok.len]
      exact (List.getElem?_eq_some_iff.mp hv).1
    have B : At E F0 H0 fps0 σ F H (Γ.set i (some d)) (put fps i f) (fun x => g' x ∨ S x) := by
      refine ⟨A.ok.give hi hv ow (fun x w => A.dj x (.inl (.inl w))) (fun x w => (A.mine ok1) x (.inl (.inl w))), A.evo.less fun x q => ?_, fun x w z => ?_⟩
      · rcases q with (q | q) | q
        · exact .inl (.inl (.inr q))
        · exact .inl (.inr q)
        · rcases U_put q with q | ⟨j, _, q⟩
          · exact .inl (.inl (.inl q))
          · exact .inr ⟨j, q⟩
      · rcases U_put z with q | ⟨j, _, q⟩
        · rcases w with w | w
          · exact dj x q w
          · exact hd x (.inl q) w
        · exact A.dj x (w.elim (fun w => .inl (.inr w)) .inr) ⟨j, q⟩
    exact At.give (gv := r) ok0 B (fun x w z => hd x (.inr w) z) g
/-- tests of a comprehension -/
structure PBs (X : Cx) (E : EC) (es : List Expr) (t : TB) : Prop where
  of : ∀ Ex, Tk X E Ex → PTs X es (ttOf E t Ex)
def dYes : TB := fun _ Γ Q => Q true Γ
theorem pbs_nil {X : Cx} {E : EC} : PBs X E [] dYes := ⟨fun Ex tk => ⟨fun pins s σ H Q I ⟨F, Γ, fps, P, ok, q, go⟩ => (pts_nil (X := X)).run pins s σ H Q I (go true H ⟨F, Γ, fps, At.start ok, q⟩)⟩⟩
theorem pbs_one {X : Cx} {E : EC} {c : Expr} {t : TB} (h : PB X E c t) : PBs X E [c] t := ⟨fun Ex tk => pts_one (h.of Ex tk)⟩
/-- one turn; the whole by an invariant of how many, what has come, the names -/
def dLcT (g : TGD) (tt : TB) (te : TX) (vs : List Nat) (d : D) (acc : List D) (Γ : DEnv) (k : List D → DEnv → Prop) : Prop :=
  g d Γ fun Γ3 => tt DX.no Γ3 fun b Γ4 => if b = true then te DX.no Γ4 fun a Γ5 => dem a Γ5 fun d' Γ6 => acc.length < sizeLine ∧ k (acc ++ [d']) (wipeD Γ6 vs) else k acc (wipeD Γ4 vs)
def dLc (ts : TSr) (g : TGD) (tt : TB) (te : TX) (vs : List Nat) : TX := fun Ex Γ Q => ts Ex Γ fun xs Γ1 gv => ∃ J : Nat → List D → DEnv → Prop, J 0 [] (wipeD Γ1 vs) ∧
  (∀ i d acc Γ2, xs[i]? = some d → J i acc Γ2 → dLcT g tt te vs d acc Γ2 (J (i + 1))) ∧ ∀ acc Γ2, J xs.length acc Γ2 → Q (.v (.lst .o acc)) (giv gv Γ2)
section
variable {X : Cx} {E : EC} {elt tg iter : Expr} {ifs : List Expr} {scope : Scope} {pos : Pos} {ts : TSr} {g : TGD} {tt : TB} {te : TX}
theorem lc_go (own : List (Str × Nat)) (hk : ∀ i ∈ own.map (·.2), E.kp i = false) {gvs : List Nat} (hgv : ∀ i ∈ gvs, i ∈ own.map (·.2)) {Ex : DX} (σ : L2.St) (H : Hp) (R : VK) (h : teOf E (dLc ts g tt te (own.map (·.2))) Ex σ H R) :
    tLc (tiOf E ts Ex) (tgOf E gvs g) (ttOf E tt DX.no) (teOf E te DX.no) (own.map (·.2)) σ H R := by
  obtain ⟨F, Γ, fps, P, ok, q, go⟩ := h
  generalize hvs : own.map (·.2) = vs at *
  refine ⟨F, Γ, fps, _, ok, q, fun J F1 H1 Γ1 fps1 T xs gv A1 tT src hg ⟨Jv, j0, js, jd⟩ Da hD => ?_⟩
  have tD : ∀ {F2 H2 : Hp} {acc : List D}, Own E.K F2 H2 (.lst .o acc) (.ref Da) (fun b => b = Da) → ∃ ws, H2 Da = some (.lst ws) ∧ F2 Da = none ∧ RepL E.K F2 acc ws := fun {F2 H2 acc} o => by
    obtain ⟨a, ws, e, _, h1, h2, h3⟩ := o
    cases e
    exact ⟨ws, h2, h1, h3⟩
  have okw : EOk E F1 H1 (wipe σ vs) (wipeD Γ1 vs) fps1 := A1.ok.wipe hk
  -- what was there at the loop's beginning
  refine ⟨fun i m H2 => m = xs.length - i ∧ i ≤ xs.length ∧ ∃ F2 Γ2 fps2 acc, At E F1 H1 fps1 (wipe σ vs) F2 H2 Γ2 fps2 (fun b => b = Da) ∧ Own E.K F2 H2 (.lst .o acc) (.ref Da) (fun b => b = Da) ∧ Jv i acc Γ2, ⟨xs.length, by simp, Nat.zero_le _, F1, wipeD Γ1 vs, fps1, [], ?_, ?_, j0⟩, ?_⟩
  · exact (At.start okw).fin (Evo.new hD) (sub_new A1.ok.sub hD)
  · exact ⟨Da, [], rfl, rfl, none_sub A1.ok.sub hD, upd_same, rfl⟩
  rintro i m H2 ⟨rfl, hi, F2, Γ2, fps2, acc, B, ow, j⟩
  have kT : Kp F1 H1 F2 H2 T := B.evo.kp tT A1.dj
  obtain ⟨s1, s2⟩ := src F2 H2 i B.ok.sub kT
  by_cases hlt : i < xs.length
  · obtain ⟨sg, sy⟩ := s1 xs[i] (List.getElem?_eq_getElem hlt)
    refine .inr ⟨sg, fun H3 => ∃ F3 Γ3 fps3 acc, At E F1 H1 fps1 (wipe σ vs) F3 H3 Γ3 fps3 (fun b => b = Da) ∧ Own E.K F3 H3 (.lst .o acc) (.ref Da) (fun b => b = Da) ∧ Jv (i + 1) acc Γ3, fun H' n => ⟨_, by omega, rfl, hlt, n⟩, fun x H3 y => ?_⟩
    obtain ⟨F3, rx, ev, sb⟩ := sy x H3 y
    have hl : HoldL E.K F2 H2 (wipe σ vs) [.v (.lst .o acc)] [.ref Da] (fun b => b = Da) := HoldL.one (a := .v (.lst .o acc)) ow
    obtain ⟨B3, k3, _⟩ := B.step hl.trk ((At.start B.ok).fin ev sb)
    have B3 := B3.mono (f := fun b => b = Da) fun x w => .inl w
    have ow3 := Own.keep _ _ _ ow k3
    have jt := js i xs[i] acc Γ2 (List.getElem?_eq_getElem hlt) j
    refine ⟨F3, Γ2, fps2, xs[i], _, B3.ok, rx, jt, fun σ4 H4 ⟨F4, Γ4, fps4, C4, n4, l4, q4⟩ => ?_⟩
    have w4 : wipe σ4 vs = wipe σ vs := by
      refine List.ext_getElem? fun j => ?_
      by_cases hj : j ∈ vs
      · rw [wipe_in hj, wipe_in hj, l4, wipe_length]
      · rw [wipe_out hj, n4 j fun z => hj (hgv j z)]
    refine ⟨w4, ?_⟩
    have okb := okw.blank C4.ok
    have hl3 : HoldL E.K F3 H3 σ4 [.v (.lst .o acc)] [.ref Da] (fun b => b = Da) := HoldL.one (a := .v (.lst .o acc)) ow3
    obtain ⟨B4, k4, _⟩ := B3.step hl3.trk C4
    have B4 := B4.mono (f := fun b => b = Da) fun x w => .inl w
    have hl4 := hl3.keep k4
    refine nextB (t := tt) B4 hl4 q4 fun b H5 F5 Γ5 fps5 B5 hl5 q5 => ?_
    have ow5 : Own E.K F5 H5 (.lst .o acc) (.ref Da) (fun b => b = Da) := by
      obtain ⟨v, r, f1, f2, e1, e2, _, h1, h2⟩ := hl5
      cases e1
      rw [h2.2] at e2
      have : (fun b => f1 b ∨ Nil b) = f1 := by funext y; exact propext ⟨fun q => q.elim id fun z => z.elim, .inl⟩
      rw [this] at e2
      rw [e2]
      exact h1
    cases b with
    | false =>
      simp only [Bool.false_eq_true, if_false] at q5 ⊢
      have o6 := B5.ok.wipe hk
      rw [w4] at o6
      exact ⟨F5, _, fps5, acc, B5.slots o6 fun _ w => w, ow5, q5⟩
    | true =>
      simp only [if_true] at q5 ⊢
      refine next (t := te) B5 hl5 q5 fun y H6 F6 Γ6 fps6 a f B6 hl6 h6 dj6 q6 => ?_
      have B6' : At E F1 H1 fps1 σ4 F6 H6 Γ6 fps6 (fun x => f x ∨ x = Da) := B6.mono fun x w => w.symm
      obtain ⟨F7, Γ7, fps7, d', B7, r7, hl7, s7, lt7, j7⟩ := B6'.dem okb h6 hl6 (fun x w z => dj6 x z w) q6
      have ow7 : Own E.K F7 H6 (.lst .o acc) (.ref Da) (fun b => b = Da) := by
        obtain ⟨v, r, f1, f2, e1, e2, _, h1, h2⟩ := hl7
        cases e1
        rw [h2.2] at e2
        have : (fun b => f1 b ∨ Nil b) = f1 := by funext y; exact propext ⟨fun q => q.elim id fun z => z.elim, .inl⟩
        rw [this] at e2
        rw [e2]
        exact h1
      obtain ⟨ws, hw, hf, hr⟩ := tD ow7
      have evl : Evo F7 H6 (fun b => b = Da) F7 (upd H6 Da (.lst (ws ++ [y]))) (fun b => b = Da) :=
        ⟨fun _ _ z => z, fun a o z n => by rw [upd_ne n]; exact z, fun a z => .inl z, fun a o z => .inl z⟩
      have sbl : Sub F7 (upd H6 Da (.lst (ws ++ [y]))) := fun a o z => by
        rw [upd_ne fun e => by rw [e, hf] at z; cases z]
        exact B7.ok.sub a o z
      have B8 := B7.chgT evl sbl (B7.mine okb)
      have o8 := B8.ok.wipe hk
      rw [w4] at o8
      refine ⟨ws, hw, by rw [hr.length]; exact lt7, F7, _, fps7, acc ++ [d'], B8.slots o8 fun _ w => w, ⟨Da, _, rfl, rfl, hf, upd_same, hr.append ⟨y, [], rfl, r7, rfl⟩⟩, j7⟩
  · have e : i = xs.length := by omega
    subst e
    refine .inl ⟨s2 (Nat.le_refl _), go _ _ ?_⟩
    have B' : At E F1 H1 fps1 σ F2 H2 Γ2 fps2 (fun b => b = Da) := B.slots B.ok.unwipe fun _ w => w
    obtain ⟨C, kp, dj⟩ := A1.step tT B'
    obtain ⟨fps3, C'⟩ := At.give (gv := gv) ⟨Γ, ok⟩ C dj (hg.keep kp)
    exact ⟨F2, _, fps3, .v (.lst .o acc), _, C', ow, jd _ _ j⟩
theorem kp_all {kp : Nat → Bool} {l : List Nat} (h : l.all (fun i => !kp i) = true) : ∀ i ∈ l, kp i = false := fun i m => by
  have z := List.all_eq_true.mp h i m
  simpa using z
theorem px_lc (own : List (Str × Nat)) (hi : PIx X E tg iter ts) {gvs : List Nat}
    (hg : ∀ (s : Shared) (H : Hp) (C : Addr) (cl : List (Str × Addr)) (fp : List Addr), PGx (X.blk s H scope (compEnvC scope cl C X.env) fp) E tg gvs g) (ht : ∀ (s : Shared) (H : Hp) (C : Addr) (cl : List (Str × Addr)) (fp : List Addr), PBs (X.blk s H scope (compEnvC scope cl C X.env) fp) E ifs tt)
    (he : ∀ (s : Shared) (H : Hp) (C : Addr) (cl : List (Str × Addr)) (fp : List Addr), PX (X.blk s H scope (compEnvC scope cl C X.env) fp) E elt te) (hc : X.calm = true)
    (ok : BlkOk X.N X.env.scope scope own := by exact blkOk_by (by kernel_rfl)) (hN : X.N.Nodup := by decide +kernel)
    (hk : (own.map (·.2)).all (fun i => !E.kp i) = true := by rfl) (hgv : ∀ i ∈ gvs, i ∈ own.map (·.2) := by decide) (hs : ∀ x, foldedSetIterable iter X.env x = pure x := by intro _; rfl) :
    PX X E (.ListComp elt [⟨tg, iter, ifs, 0⟩] scope pos) (dLc ts g tt te (own.map (·.2))) := ⟨fun Ex tk =>
  pe_imp (pe_lc hc hN (hi.of Ex tk) ok (fun s H C cl fp => (hg s H C cl fp).of) (fun s H C cl fp => (ht s H C cl fp).of _ Tk.no) (fun s H C cl fp => (he s H C cl fp).of _ Tk.no) hs) fun σ H R h => lc_go own (kp_all hk) hgv σ H R h⟩
end
end DL

/-! DJ: statements, by data. -/
namespace DL
open PySem PySem.Spec PyProof.Rows L2

structure DE where
  nx : DEnv → Prop
  rt : D → DEnv → Prop
  bk : DEnv → Prop := fun _ => False
  ct : DEnv → Prop := fun _ => False
abbrev TSX := DX → DE → DEnv → Prop
def ResS (E : EC) (P : DEnv → Prop) (σ : L2.St) (H : Hp) : Prop := ∃ F Γ fps, EOk E F H σ Γ fps ∧ P Γ
def ResR (E : EC) (P : D → DEnv → Prop) (v : V) (H : Hp) : Prop := ∃ F σ Γ fps d T, EOk E F H σ Γ fps ∧ Own E.K F H d v T ∧ (∀ x, T x → ¬ U fps x) ∧ E.mine T ∧ P d Γ
structure EndsOk (E : EC) (De : DE) (Dv : Ends) : Prop where
  nx : ∀ σ H, ResS E De.nx σ H → Dv.nx σ H
  bk : ∀ σ H, ResS E De.bk σ H → Dv.bk σ H
  ct : ∀ σ H, ResS E De.ct σ H → Dv.ct σ H
  rt : ∀ v H, ResR E De.rt v H → Dv.rt v H
def tsOf (E : EC) (t : TSX) (Ex : DX) : TS := fun Dv σ H => ∃ F Γ fps De, EOk E F H σ Γ fps ∧ t Ex De Γ ∧ EndsOk E De Dv
structure PS' (X : Cx) (E : EC) (st : Stmt) (t : TSX) : Prop where
  of : ∀ Ex, Tk X E Ex → PS X st (tsOf E t Ex)
structure PSs' (X : Cx) (E : EC) (st : List Stmt) (t : TSX) : Prop where
  of : ∀ Ex, Tk X E Ex → PSs X st (tsOf E t Ex)
theorem ps_imp {X : Cx} {st : Stmt} {t t' : TS} (h : PS X st t) (i : ∀ σ H D, σ.length = X.N.length → t' D σ H → t D σ H) : PS X st t' := ⟨fun p s σ H D I q => h.run p s σ H D I (i _ _ _ I.len q)⟩
theorem pss_imp {X : Cx} {st : List Stmt} {t t' : TS} (h : PSs X st t) (i : ∀ σ H D, σ.length = X.N.length → t' D σ H → t D σ H) : PSs X st t' := ⟨fun p s σ H D I q => h.run p s σ H D I (i _ _ _ I.len q)⟩
def dNext : TSX := fun _ De Γ => De.nx Γ
def dSeq (t u : TSX) : TSX := fun Ex De Γ => t Ex { De with nx := fun Γ1 => u Ex De Γ1 } Γ
def dBreak : TSX := fun _ De Γ => De.bk Γ
def dCont : TSX := fun _ De Γ => De.ct Γ
def dDrop (te : TX) : TSX := fun Ex De Γ => te Ex Γ fun _ Γ1 => De.nx Γ1
def dRet (te : TX) : TSX := fun Ex De Γ => te Ex Γ fun a Γ1 => demM a Γ1 De.rt
def dRetN : TSX := fun _ De Γ => De.rt .non Γ
def dIf (tc : TB) (t u : TSX) : TSX := fun Ex De Γ => tc Ex Γ fun b Γ1 => if b = true then t Ex De Γ1 else u Ex De Γ1
def dSet (i : Nat) (te : TX) : TSX := fun Ex De Γ => te Ex Γ fun a Γ1 => demO a Γ1 fun d Γ2 => De.nx (Γ2.set i (some d))
def dAsg (te : TX) (g : TGD) : TSX := fun Ex De Γ => te Ex Γ fun a Γ1 => dem a Γ1 fun d Γ2 => g d Γ2 De.nx
def dPar (i j : Nat) (ta : TXs) : TSX := fun Ex De Γ => ta Ex Γ fun as Γ1 => demL as Γ1 fun ds Γ2 => match ds with
  | [d, e] => De.nx ((Γ2.set i (some d)).set j (some e))
  | _ => False
def dAug (i : Nat) (te : TX) (f : D → D → (D → Prop) → Prop) : TSX := fun Ex De Γ => te Ex Γ fun a Γ1 => un (Γ1[i]?).join fun d => un (a.res Γ1) fun e => f d e fun z => De.nx (Γ1.set i (some z))
section
variable {E : EC} {F0 H0 F H F' H' F1 H1 : Hp} {fps0 fps fps1 : Fps} {σ σ' : L2.St} {Γ Γ1 : DEnv} {T T1 f g : ASet} {a : AD} {as : List AD} {v : V} {vs : List V} {d : D} {De : DE} {Dv : Ends}
theorem At.demM (A : At E F0 H0 fps0 σ F H Γ fps T) (ok0 : EOk E F0 H0 σ Γ1 fps0) (h : Hold E.K F H σ a v T) {k : D → DEnv → Prop} (q : demM a Γ k) : ResR E k v H := by
  cases a with
  | v d => exact ⟨F, σ, Γ, fps, d, T, A.ok, h, A.dj, A.mine ok0, q⟩
  | s i =>
    obtain ⟨d, e, q⟩ := un_of q
    obtain ⟨v', hv, ow⟩ := A.ok.slot i d (join_some e)
    rw [h.2] at hv
    cases hv
    by_cases z : d.fz = true
    · rw [if_pos z] at q
      exact ⟨F, σ, Γ, fps, d, Nil, A.ok, own_nil ((own_fz z).mp ow).2 z, fun _ z => z.elim, fun _ z => z.elim, q⟩
    · rw [if_neg z] at q
      refine ⟨F, σ, _, _, d, fps i, A.ok.drop i, ow, fun x w y => ?_, fun x w => A.ok.evo.fresh x ⟨i, w⟩, q⟩
      rcases U_put y with y | ⟨j, n, y⟩
      · exact y
      · exact A.ok.dis j i x n y w
theorem At.demO (A : At E F0 H0 fps0 σ F H Γ fps T) (ok0 : EOk E F0 H0 σ Γ1 fps0) (h : Hold E.K F H σ a v T) {k : D → DEnv → Prop} (q : demO a Γ k) :
    ∃ F' Γ' fps' d T', At E F0 H0 fps0 σ F' H Γ' fps' T' ∧ Own E.K F' H d v T' ∧ k d Γ' := by
  cases a with
  | v d => exact ⟨F, Γ, fps, d, T, A, h, q⟩
  | s i =>
    have e : T = fun x => T x ∨ Nil x := by funext x; exact propext ⟨.inl, fun q => q.elim id fun z => z.elim⟩
    have h' : Hold E.K F H σ (.s i) v T := h
    rw [e] at A
    obtain ⟨F', Γ', fps', d, B, r, _, _, q⟩ := At.dem (as := []) (vs := []) A ok0 h' HoldL.nil (fun _ _ z => z) (show DL.dem (.s i) Γ k from q)
    exact ⟨F', Γ', fps', d, Nil, B, own_nil r (rep_fz r), q⟩
theorem At.next1 (A : At E F0 H0 fps0 σ F H Γ fps T) {P : DEnv → Prop} (q : P Γ) : ResS E P σ H := ⟨F, Γ, fps, A.ok, q⟩
end
section
variable {X : Cx} {E : EC} {st : Stmt} {sts : List Stmt} {e : Expr} {t u : TSX} {te : TX} {tc : TB} {pos : Pos}
theorem pss'_nil : PSs' X E [] dNext := ⟨fun Ex tk => pss_imp pss_nil fun σ H D _ ⟨F, Γ, fps, De, ok, q, en⟩ => en.nx _ _ ⟨F, Γ, fps, ok, q⟩⟩
theorem pss'_cons (h1 : PS' X E st t) (h2 : PSs' X E sts u) : PSs' X E (st :: sts) (dSeq t u) := ⟨fun Ex tk => pss_imp (pss_cons (h1.of Ex tk) (h2.of Ex tk)) fun σ H D _ ⟨F, Γ, fps, De, ok, q, en⟩ =>
  ⟨F, Γ, fps, _, ok, q, fun σ H ⟨F, Γ, fps, ok, q⟩ => ⟨F, Γ, fps, De, ok, q, en⟩, en.bk, en.ct, en.rt⟩⟩
theorem pss'_one (h1 : PS' X E st t) : PSs' X E [st] t := ⟨fun Ex tk => pss_one (h1.of Ex tk)⟩
theorem ps'_pass : PS' X E (.Pass pos) dNext := ⟨fun Ex tk => ps_imp ps_pass fun σ H D _ ⟨F, Γ, fps, De, ok, q, en⟩ => en.nx _ _ ⟨F, Γ, fps, ok, q⟩⟩
theorem ps'_break : PS' X E (.Break pos) dBreak := ⟨fun Ex tk => ps_imp ps_break fun σ H D _ ⟨F, Γ, fps, De, ok, q, en⟩ => en.bk _ _ ⟨F, Γ, fps, ok, q⟩⟩
theorem ps'_cont : PS' X E (.Continue pos) dCont := ⟨fun Ex tk => ps_imp ps_continue fun σ H D _ ⟨F, Γ, fps, De, ok, q, en⟩ => en.ct _ _ ⟨F, Γ, fps, ok, q⟩⟩
theorem ps'_doc {x : Str} {j : Nat} {pos' : Pos} : PS' X E (.Expr (.Constant (.str x) j pos) pos') dNext := ⟨fun Ex tk => ps_imp ps_doc fun σ H D _ ⟨F, Γ, fps, De, ok, q, en⟩ => en.nx _ _ ⟨F, Γ, fps, ok, q⟩⟩
theorem ps'_expr (he : PX X E e te) (hs : swapsWith e none pos.line X.env = pure false := by rfl) : PS' X E (.Expr e pos) (dDrop te) := ⟨fun Ex tk => ps_imp (ps_expr (he.of Ex tk) hs) fun σ H D _ ⟨F, Γ, fps, De, ok, q, en⟩ =>
  first (t := te) ok q fun v H1 F1 Γ1 fps1 a T A1 h1 q => en.nx _ _ (A1.next1 q)⟩
theorem ps'_ret (he : PX X E e te) : PS' X E (.Return (some e) pos) (dRet te) := ⟨fun Ex tk => ps_imp (ps_ret (he.of Ex tk)) fun σ H D _ ⟨F, Γ, fps, De, ok, q, en⟩ =>
  first (t := te) ok q fun v H1 F1 Γ1 fps1 a T A1 h1 q => en.rt _ _ (A1.demM ok h1 q)⟩
theorem ps'_retN : PS' X E (.Return none pos) dRetN := ⟨fun Ex tk => ps_imp ps_retN fun σ H D _ ⟨F, Γ, fps, De, ok, q, en⟩ =>
  en.rt _ _ ⟨F, σ, Γ, fps, .non, Nil, ok, ⟨rfl, rfl⟩, fun _ z => z.elim, fun _ z => z.elim, q⟩⟩
theorem ps'_if {p : List Stmt} {r : List Stmt} (hc : PB X E e tc) (ha : PSs' X E p t) (hb : PSs' X E r u) : PS' X E (.If e p r pos) (dIf tc t u) := ⟨fun Ex tk => ps_imp (ps_if (hc.of Ex tk) (ha.of Ex tk) (hb.of Ex tk)) fun σ H D _ ⟨F, Γ, fps, De, ok, q, en⟩ =>
  firstB (t := tc) ok q fun b H1 F1 Γ1 fps1 A1 q => by
    cases b with
    | true => exact ⟨F1, Γ1, fps1, De, A1.ok, q, en⟩
    | false => exact ⟨F1, Γ1, fps1, De, A1.ok, q, en⟩⟩
theorem lt_of {i : Nat} {x : Str} {σ : L2.St} {Γ : DEnv} {F H : Hp} {fps : Fps} (ok : EOk E F H σ Γ fps) (hi : X.N[i]? = some x) (hl : σ.length = X.N.length) : i < Γ.length := by
  rw [ok.len, hl]
  exact (List.getElem?_eq_some_iff.mp hi).1
theorem ps'_set {x : Str} {p : Pos} (i : Nat) (he : PX X E e te) (hk : E.kp i = false := by rfl) (hi : X.N[i]? = some x := by rfl) (hx : Loc X.env.scope x := by first | exact Or.inl rfl | exact Or.inr rfl) (hN : X.N.Nodup := by decide +kernel)
    (hs : swapsWith e (some (.Name x p)) pos.line X.env = pure false := by rfl) (hf : X.fn x = true ∨ X.env.scope.names.lookup x = some .local := by first | exact .inl rfl | exact .inr rfl) : PS' X E (.Assign [.Name x p] e pos) (dSet i te) := ⟨fun Ex tk =>
  ps_imp (ps_set hN hi hx (he.of Ex tk) hs hf) fun σ H D hl ⟨F, Γ, fps, De, ok, q, en⟩ => first (t := te) ok q fun v H1 F1 Γ1 fps1 a T A1 h1 q => by
    obtain ⟨F2, Γ2, fps2, d, T2, A2, ow, q⟩ := A1.demO ok h1 q
    exact en.nx _ _ ⟨F2, _, _, A2.ok.store (lt_of A2.ok hi hl) ow A2.dj (A2.mine ok) hk, q⟩⟩
theorem ps'_asg {tg : Expr} {g : TGD} {gvs : List Nat} (he : PX X E e te) (hg : PGx X E tg gvs g) (hs : swapsWithSole [tg] e pos.line X.env = pure false := by rfl) (hw : swappedStores [tg] e X.env = pure none := by rfl)
    (h1 : (assignEach [tg] X.env).map (·.2) = [assign tg X.env] := by rfl) : PS' X E (.Assign [tg] e pos) (dAsg te g) := ⟨fun Ex tk =>
  ps_imp (ps_asg (he.of Ex tk) hg.of hs hw h1) fun σ H D hl ⟨F, Γ, fps, De, ok, q, en⟩ => first (t := te) ok q fun v H1 F1 Γ1 fps1 a T A1 h1 q => by
    have e0 : T = fun x => T x ∨ Nil x := by funext x; exact propext ⟨.inl, fun q => q.elim id fun z => z.elim⟩
    rw [e0] at A1
    obtain ⟨F2, Γ2, fps2, d, A2, r, _, _, q⟩ := At.dem (as := []) (vs := []) A1 ok h1 HoldL.nil (fun _ _ z => z) q
    exact ⟨F2, Γ2, fps2, d, _, A2.ok, r, q, fun σ' H' ⟨F', Γ', fps', B, _, _, q'⟩ => en.nx _ _ ⟨F', Γ', fps', B.ok, q'⟩⟩⟩
theorem ps'_par {i j : Nat} {x y : Str} {a b : Expr} {ta : TXs} {px py pt : Pos} {kt k2 : Nat} {pt2 : Pos} (ha : PXs X E [a, b] ta) (hc : X.calm = true) (hki : E.kp i = false := by rfl) (hkj : E.kp j = false := by rfl)
    (hi : X.N[i]? = some x := by rfl) (hj : X.N[j]? = some y := by rfl) (hij : i ≠ j := by decide) (hN : X.N.Nodup := by decide +kernel)
    (hx : X.env.scope.names.lookup x = some .local := by rfl) (hy : X.env.scope.names.lookup y = some .local := by rfl)
    (hw : swappedStores [.Tuple [.Name x px, .Name y py] kt pt] (.Tuple [a, b] k2 pt2) X.env = pure (some [x, y]) := by rfl)
    (hs : swapsWithSole [.Tuple [.Name x px, .Name y py] kt pt] (.Tuple [a, b] k2 pt2) pos.line X.env = pure false := by rfl) :
    PS' X E (.Assign [.Tuple [.Name x px, .Name y py] kt pt] (.Tuple [a, b] k2 pt2) pos) (dPar i j ta) := ⟨fun Ex tk =>
  ps_imp (ps_par hc hN hi hj hij hx hy (ha.of Ex tk) hw hs) fun σ H D hl ⟨F, Γ, fps, De, ok, q, en⟩ => firstL (t := ta) ok q fun v H1 F1 Γ1 fps1 as T A1 h1 q => by
    obtain ⟨F2, Γ2, fps2, ds, A2, r, _, q⟩ := At.demL ok A1 h1 q
    match ds, q with
    | [d, e], q =>
      obtain ⟨v1, r', rfl, g1, g2⟩ := r
      obtain ⟨v2, r', rfl, g3, g4⟩ := g2
      rw [show r' = [] from g4]
      have o1 := A2.ok.store (lt_of A2.ok hi hl) (own_nil g1 (rep_fz g1)) (fun _ z => z.elim) (fun _ z => z.elim) hki
      have o2 := o1.store (by rw [List.length_set]; exact lt_of A2.ok hj hl) (own_nil g3 (rep_fz g3)) (fun _ z => z.elim) (fun _ z => z.elim) hkj
      exact ⟨v1, v2, rfl, en.nx _ _ ⟨F2, _, _, o2, q⟩⟩⟩
end

/-! ### loops -/
/-- within a loop: how it began is the loop's beginning; the name that is walked keeps its value -/
def EC.re (E : EC) (F0 H0 : Hp) (fp0 : ASet) (L : List Nat) (kv : Nat → Option V) : EC := { K := E.K, F0 := F0, H0 := H0, fp0 := fp0, kp := fun i => L.contains i || E.kp i, kv := kv }
def dFor (L : List Nat) (ts : TSr) (g : TGD) (tb : TSX) : TSX := fun Ex De Γ => ts Ex Γ fun xs Γ1 gv => gv.map (·.1) = L ∧ ∃ J : Nat → DEnv → Prop, J 0 Γ1 ∧
  (∀ i d Γ2, xs[i]? = some d → J i Γ2 → g d Γ2 fun Γ3 => tb (fun C l Γ => Ex C l (giv gv Γ)) { nx := J (i + 1), ct := J (i + 1), bk := fun Γ => De.nx (giv gv Γ), rt := fun d Γ => De.rt d (giv gv Γ) } Γ3) ∧
  ∀ Γ2, J xs.length Γ2 → De.nx (giv gv Γ2)
section
variable {E : EC} {F H F1 H1 F2 H2 : Hp} {fps fps1 fps2 : Fps} {σ σ2 : L2.St} {Γ Γ1 Γ2 : DEnv} {T : ASet} {gv : List (Nat × D)} {L : List Nat}
theorem EOk.rebase (L : List Nat) (ok : EOk E F1 H1 σ Γ1 fps1) : ∃ kv, EOk (E.re F1 H1 (U fps1) L kv) F1 H1 σ Γ1 fps1 ∧ (∀ i v, E.kv i = some v → kv i = some v) ∧ ∀ i v, i ∈ L → σ[i]? = some (some v) → kv i = some v := by
  refine ⟨fun i => if L.contains i = true then (σ[i]?).join else E.kv i, ⟨ok.sub, ok.slot, ok.dis, ok.trk, Evo.refl, fun i v q => ?_, ok.len⟩, fun i v q => ?_, fun i v m h => ?_⟩
  · have q' : (if L.contains i = true then (σ[i]?).join else E.kv i) = some v := q
    show (L.contains i || E.kp i) = true ∧ _
    by_cases z : L.contains i = true
    · rw [if_pos z] at q'
      rw [z]
      refine ⟨rfl, ?_⟩
      cases e : σ[i]? with
      | none => rw [e] at q'; cases q'
      | some o => rw [e] at q'; rw [show o = some v from q']
    · rw [if_neg z] at q'
      have k := ok.kept i v q'
      rw [k.1, Bool.or_true]
      exact ⟨rfl, k.2⟩
  · show (if L.contains i = true then (σ[i]?).join else E.kv i) = some v
    by_cases z : L.contains i = true
    · rw [if_pos z, (ok.kept i v q).2]; rfl
    · rw [if_neg z]; exact q
  · show (if L.contains i = true then (σ[i]?).join else E.kv i) = some v
    rw [if_pos (by simpa using m), h]
    rfl
theorem giv_ok {E' : EC} {S : ASet} (hK : E'.K = E.K) : ∀ {gv : List (Nat × D)} {fps2 : Fps} {Γ2 : DEnv} {T : ASet}, EOk E' F2 H2 σ2 Γ2 fps2 → Gv E F1 H1 σ gv T → (∀ i v d, (i, d) ∈ gv → σ[i]? = some (some v) → σ2[i]? = some (some v)) → Kp F1 H1 F2 H2 T → (∀ x, T x → ¬ U fps2 x) → E'.mine T →
    ∃ fps', EOk E' F2 H2 σ2 (giv gv Γ2) fps' ∧ ∀ x, U fps' x → U fps2 x ∨ T x
  | [], fps2, Γ2, T, ok, _, _, _, _, _ => ⟨fps2, ok, fun _ w => .inl w⟩
  | (i, d) :: r, fps2, Γ2, T, ok, g, sl, k, far, mi => by
    obtain ⟨f, g', v, rfl, dj, hv, ow, g⟩ := g
    have h2 := sl i v d List.mem_cons_self hv
    have ok2 := ok.give (by rw [ok.len]; exact (List.getElem?_eq_some_iff.mp h2).1) h2 (by rw [hK]; exact Own.keep _ _ _ ow k.l) (fun x w => far x (.inl w)) (fun x w => mi x (.inl w))
    obtain ⟨fps', ok3, u⟩ := giv_ok (S := S) (gv := r) hK ok2 g (fun i v d m => sl i v d (List.mem_cons_of_mem _ m)) k.r (fun x w z => (U_put z).elim (fun q => dj x q w) fun ⟨j, _, q⟩ => far x (.inr w) ⟨j, q⟩) (fun x w => mi x (.inr w))
    refine ⟨fps', ok3, fun x w => ?_⟩
    rcases u x w with q | q
    · rcases U_put q with q | ⟨j, _, q⟩
      · exact .inr (.inl q)
      · exact .inl ⟨j, q⟩
    · exact .inr (.inr q)
/-- behind the loop: back at what was ahead of it -/
theorem EOk.unbase {kv : Nat → Option V} (ok1 : EOk E F1 H1 σ Γ1 fps1) (g : Gv E F1 H1 σ gv T) (e : gv.map (·.1) = L) (tT : ∀ x, T x → F1 x = none ∧ ∃ o, H1 x = some o) (dT : ∀ x, T x → ¬ U fps1 x) (mT : E.mine T)
    (k1 : ∀ i v, E.kv i = some v → kv i = some v) (k2 : ∀ i v, i ∈ L → σ[i]? = some (some v) → kv i = some v) (ok2 : EOk (E.re F1 H1 (U fps1) L kv) F2 H2 σ2 Γ2 fps2) :
    ∃ fps', EOk E F2 H2 σ2 (giv gv Γ2) fps' ∧ ∀ x, U fps' x → U fps2 x ∨ T x := by
  have far : ∀ x, T x → ¬ U fps2 x := fun x q w => by
    rcases ok2.evo.fresh x w with z | z
    · exact dT x q z
    · obtain ⟨_, o, t⟩ := tT x q
      rw [show H1 x = none from z] at t; cases t
  have ok3 : EOk E F2 H2 σ2 Γ2 fps2 := ⟨ok2.sub, ok2.slot, ok2.dis, ok2.trk, ok1.evo.trans ok2.evo, fun i v q => ⟨(ok1.kept i v q).1, (ok2.kept i v (k1 i v q)).2⟩, ok2.len⟩
  exact giv_ok (S := T) rfl ok3 g (fun i v d m h => (ok2.kept i v (k2 i v (by rw [← e]; exact List.mem_map_of_mem (f := (·.1)) m) h)).2) (ok2.evo.kp tT dT) far mT
end
section
variable {X : Cx} {E : EC} {tg iter : Expr} {body : List Stmt} {ts : TSr} {g : TGD} {tb : TSX} {pos : Pos} {gvs : List Nat}
theorem ps'_for (L : List Nat) (hp : PassesOwn (model X.prog X.w) X.A X.env X.xe) (hi : PIx X E tg iter ts) (hg : ∀ F0 H0 fp0 kv, PGx X (E.re F0 H0 fp0 L kv) tg gvs g) (hb : ∀ F0 H0 fp0 kv, PSs' X (E.re F0 H0 fp0 L kv) body tb) (hc : X.calm = true)
    (hs : ∀ x, foldedSetIterable iter X.env x = pure x := by intro _; rfl) : PS' X E (.For tg iter body [] pos) (dFor L ts g tb) := ⟨fun Ex tk => by
  have hg' : PG X tg (fun v σ H Q => ∃ F0 H0 fp0 kv, tgOf (E.re F0 H0 fp0 L kv) gvs g v σ H Q) := ⟨fun p s σ H v u Q I r ⟨F0, H0, fp0, kv, q⟩ => (hg F0 H0 fp0 kv).of.run p s σ H v u Q I r q⟩
  have hb' : PSs X body (fun D σ H => ∃ F0 H0 fp0 kv Ex', Tk X (E.re F0 H0 fp0 L kv) Ex' ∧ tsOf (E.re F0 H0 fp0 L kv) tb Ex' D σ H) := ⟨fun p s σ H D I ⟨F0, H0, fp0, kv, Ex', tk', q⟩ => ((hb F0 H0 fp0 kv).of Ex' tk').run p s σ H D I q⟩
  refine ps_imp (ps_for hp hc (hi.of Ex tk) hg' hb' hs) fun σ H Dv hl ⟨F, Γ, fps, De, ok, q, en⟩ => ?_
  refine ⟨F, Γ, fps, _, ok, q, fun J F1 H1 Γ1 fps1 T xs gv A1 tT src gw ⟨eL, Jv, j0, js, jd⟩ => ?_⟩
  obtain ⟨kv, okr, k1, k2⟩ := A1.ok.rebase L
  have mT : E.mine T := A1.mine ok
  have un_ : ∀ {F2 H2 : Hp} {σ2 : L2.St} {Γ2 : DEnv} {fps2 : Fps}, EOk (E.re F1 H1 (U fps1) L kv) F2 H2 σ2 Γ2 fps2 → ∃ fps', EOk E F2 H2 σ2 (giv gv Γ2) fps' ∧ ∀ x, U fps' x → U fps2 x ∨ T x := fun o => A1.ok.unbase gw eL tT A1.dj mT k1 k2 o
  have tk' : Tk X (E.re F1 H1 (U fps1) L kv) (fun C l Γ => Ex C l (giv gv Γ)) := Takes.imp tk fun cls d σ H ⟨F3, Γ3, fps3, C, l, e, o3, py, q3⟩ => by
    obtain ⟨fps', o4, _⟩ := un_ o3
    exact ⟨F3, _, fps', C, l, e, o4, py, q3⟩
  refine ⟨fun i m σ2 H2 => m = xs.length - i ∧ i ≤ xs.length ∧ ∃ F2 Γ2 fps2, EOk (E.re F1 H1 (U fps1) L kv) F2 H2 σ2 Γ2 fps2 ∧ Jv i Γ2, ⟨xs.length, by simp, Nat.zero_le _, F1, Γ1, fps1, okr, j0⟩, ?_⟩
  rintro i m σ2 H2 ⟨rfl, hi, F2, Γ2, fps2, ok2, j⟩
  have kT : Kp F1 H1 F2 H2 T := ok2.evo.kp tT A1.dj
  obtain ⟨s1, s2⟩ := src F2 H2 i ok2.sub kT
  by_cases hlt : i < xs.length
  · obtain ⟨sg, sy⟩ := s1 xs[i] (List.getElem?_eq_getElem hlt)
    refine .inr ⟨sg, fun σ3 H3 => ∃ F3 Γ3 fps3, EOk (E.re F1 H1 (U fps1) L kv) F3 H3 σ3 Γ3 fps3 ∧ Jv (i + 1) Γ3, fun σ' H' n => ⟨_, by omega, rfl, hlt, n⟩, fun x H3 y => ?_⟩
    obtain ⟨F3, rx, ev, sb⟩ := sy x H3 y
    have ok3 := ok2.grow ev sb (fun _ z => z.elim) (fun _ z => z.elim)
    refine ⟨F1, H1, U fps1, kv, F3, Γ2, fps2, xs[i], _, ok3, rx, js i xs[i] Γ2 (List.getElem?_eq_getElem hlt) j, fun σ4 H4 ⟨F4, Γ4, fps4, C4, _, _, q4⟩ => ?_⟩
    refine ⟨F1, H1, U fps1, kv, _, tk', F4, Γ4, fps4, _, C4.ok, q4, fun σ5 H5 ⟨F5, Γ5, fps5, o5, q5⟩ => ⟨F5, Γ5, fps5, o5, q5⟩, fun σ5 H5 ⟨F5, Γ5, fps5, o5, q5⟩ => ?_, fun σ5 H5 ⟨F5, Γ5, fps5, o5, q5⟩ => ⟨F5, Γ5, fps5, o5, q5⟩, fun v5 H5 ⟨F5, σ5, Γ5, fps5, d5, T5, o5, ow5, dj5, m5, q5⟩ => ?_⟩
    · obtain ⟨fps', o6, _⟩ := un_ o5
      exact en.nx _ _ ⟨F5, _, fps', o6, q5⟩
    · obtain ⟨fps', o6, u6⟩ := un_ o5
      have tf : ∀ x, T5 x → ¬ T x := fun x w z => by
        rcases m5 x w with y | y
        · exact A1.dj x z y
        · obtain ⟨_, o, t⟩ := tT x z
          rw [show H1 x = none from y] at t; cases t
      refine en.rt _ _ ⟨F5, σ5, _, fps', d5, T5, o6, ow5, fun x w z => (u6 x z).elim (dj5 x w) (tf x w), fun x w => ?_, q5⟩
      rcases m5 x w with y | y
      · exact A1.ok.evo.fresh x y
      · exact A1.ok.unmine y
  · have e : i = xs.length := by omega
    subst e
    obtain ⟨fps', o6, _⟩ := un_ ok2
    exact .inl ⟨s2 (Nat.le_refl _), en.nx _ _ ⟨F2, _, fps', o6, jd _ j⟩⟩⟩
def dWhile (tc : TB) (tb : TSX) : TSX := fun Ex De Γ => ∃ J : Nat → DEnv → Prop, (∃ m, J m Γ) ∧ ∀ m Γ2, J m Γ2 → tc Ex Γ2 fun b Γ3 => if b = true then tb Ex { De with nx := fun Γ4 => ∃ m', m' < m ∧ J m' Γ4, ct := fun Γ4 => ∃ m', m' < m ∧ J m' Γ4, bk := De.nx } Γ3 else De.nx Γ3
theorem ps'_while {c : Expr} {tc : TB} (hp : PassesOwn (model X.prog X.w) X.A X.env X.xe) (hc : PB X E c tc) (hb : PSs' X E body tb) : PS' X E (.While c body [] pos) (dWhile tc tb) := ⟨fun Ex tk =>
  ps_imp (ps_while hp (hc.of Ex tk) (hb.of Ex tk)) fun σ H Dv hl ⟨F, Γ, fps, De, ok, ⟨J, ⟨m0, j0⟩, js⟩, en⟩ => by
    refine ⟨fun m σ2 H2 => ∃ F2 Γ2 fps2, EOk E F2 H2 σ2 Γ2 fps2 ∧ J m Γ2, ⟨m0, F, Γ, fps, ok, j0⟩, fun m σ2 H2 ⟨F2, Γ2, fps2, ok2, j⟩ => ?_⟩
    refine firstB (t := tc) ok2 (js m Γ2 j) fun b H3 F3 Γ3 fps3 A3 q => ?_
    cases b with
    | false => exact en.nx _ _ ⟨F3, Γ3, fps3, A3.ok, q⟩
    | true =>
      simp only [if_true] at q ⊢
      exact ⟨fun σ4 H4 => ∃ m', m' < m ∧ ∃ F4 Γ4 fps4, EOk E F4 H4 σ4 Γ4 fps4 ∧ J m' Γ4, fun σ4 H4 ⟨m', a, b⟩ => ⟨m', a, b⟩, F3, Γ3, fps3, _, A3.ok, q,
        fun σ4 H4 ⟨F4, Γ4, fps4, o4, m', a, b⟩ => ⟨m', a, F4, Γ4, fps4, o4, b⟩, fun σ4 H4 r => en.nx _ _ r, fun σ4 H4 ⟨F4, Γ4, fps4, o4, m', a, b⟩ => ⟨m', a, F4, Γ4, fps4, o4, b⟩, en.rt⟩⟩
end
end DL

/-! DK: exceptions, by data. -/
namespace DL
open PySem PySem.Spec PyProof.Rows L2

/-! ### what is raised -/
def dRaise0 (C : Addr) : TSX := fun Ex _ Γ => Ex C [] Γ
def dRaiseI (C : Addr) (f : Str) (ta : TXs) : TSX := fun Ex _ Γ => ta Ex Γ fun as Γ1 => demL as Γ1 fun ds Γ2 => match ds with
  | [d] => Ex C [(f, d)] Γ2
  | _ => False
/-- an own __init__ with one field -/
def spI (K : PySem.W.Frag) (C : Addr) (f : Str) : Sp := fun vs H Q _ => ∃ (a : Addr) (v : V), vs = [.ref a, v] ∧ H a = some (exo a C none) ∧ ∀ dx, H dx = none → dx ≠ a → Q .non (upd (upd H dx (exd dx [(f, v)])) a (exo a C (some dx)))
structure ExI (P : Program) (w : World) (K : PySem.W.Frag) (mg : Str → Option Value) (base : Heap) (C : Addr) (f : Str) : Prop where
  T : OexC K C
  ex : ∃ (fI : Addr) (fd : FuncData) (ps : List Str), PySem.W.findIn K (.ref C) "__init__" = some (some (.ref fI)) ∧ PySem.W.typeIn K (.ref fI) = some (.type "function") ∧ FnOk P w K mg base (L2.CX P w) 1 fI fd ps (spI K C f) ∧ Binds K fd ps []
/-- an own class without __init__ -/
structure Ex0 (K : PySem.W.Frag) (C : Addr) : Prop where
  ex : ∃ (B newId initId : String) (bmB : List Value), ExcBaseFacts B newId initId bmB ∧ PySem.W.excIn K C bmB newId = true
  kC : PySem.W.keepIn K (.ref C) = true
  sb : PySem.W.subIn K (.ref C) (.type "BaseException") = some true
  ty : PySem.W.typeIn K (.ref C) = some (.type "type")
section
variable {X : Cx} {E : EC} {C : Addr} {f x : Str} {e : Expr} {ta : TXs} {p p2 pos pos2 : Pos}
theorem ps'_raise0 {m : Str} {j : Nat} (D : Ex0 X.K C) (hm : X.mg x = some (.ref C)) (hc : X.calm = true) (hg : Gl X x := by rfl) (hdb : (x == ("__debug__" : Str)) = false := by decide) :
    PS' X E (.Raise (some (.Call (.Name x p) [.Constant (.str m) j p2] [] pos)) none pos2) (dRaise0 C) := ⟨fun Ex tk => by
  obtain ⟨B, n, i, bm, F, q⟩ := D.ex
  refine ps_imp (ps_raise hc tk (pmk_own F q hm D.kC (raises_own D.sb D.ty) hg hdb)) fun σ H Dv _ ⟨F, Γ, fps, De, ok, q, en⟩ => ?_
  exact ⟨F, Γ, fps, C, [], rfl, ok, rfl, q⟩⟩
theorem ps'_raiseI (D : ExI X.prog X.w X.K X.mg X.base C f) (hm : X.mg x = some (.ref C)) (hr : Room 2 X.A) (ha : PXs X E [e] ta) (hc : X.calm = true) (hK : E.K = X.K := by rfl) (hg : Gl X x := by rfl) (hdb : (x == ("__debug__" : Str)) = false := by decide)
    (he : starEach (e :: []) X.env = (false, eval e X.env) :: starEach [] X.env := by rfl) (hpl : (backTo pos (starEach [] X.env)).any (·.1) = false := by rfl) :
    PS' X E (.Raise (some (.Call (.Name x p) [e] [] pos)) none pos2) (dRaiseI C f ta) := ⟨fun Ex tk => by
  obtain ⟨fI, fd, ps, iC, tI, F1, hb⟩ := D.ex
  refine ps_imp (ps_raise hc tk (pmk_oex (dvs := []) D.T iC tI F1 hr hb .nil (fun _ _ _ _ _ _ _ h => by
    obtain ⟨_, _, _, _, _, _, _, _, _, _, _, _, z⟩ := h
    exact z.elim) hg hm (ha.of Ex tk) hdb he hpl)) fun σ H Dv _ ⟨F, Γ, fps, De, ok, q, en⟩ => ?_
  refine firstL (t := ta) ok q fun vs H1 F1 Γ1 fps1 as T A1 h1 q => ?_
  obtain ⟨F2, Γ2, fps2, ds, A2, r, _, q⟩ := At.demL ok A1 h1 q
  match ds, q with
  | [d], q =>
    obtain ⟨v, r', rfl, g1, g2⟩ := r
    rw [show r' = [] from g2]
    refine ⟨(by decide : 1 ≤ 1000), fun a ha => ⟨a, v, rfl, upd_same, fun dx hd hn => ⟨rfl, dx, [(f, v)], upd_same, ?_, ?_, ?_⟩⟩⟩
    · rw [upd_ne hn, upd_same]
    · rw [upd_ne hn] at hd
      exact hd
    · rw [upd_ne hn] at hd
      have e1 : upd (del (upd (upd (upd H1 a (exo a C none)) dx (exd dx [(f, v)])) a (exo a C (some dx))) a) dx (.xd [(f, v)]) = upd H1 dx (.xd [(f, v)]) := by
        funext b
        by_cases h2 : b = dx
        · rw [h2, upd_same, upd_same]
        · rw [upd_ne h2, upd_ne h2]
          by_cases h3 : b = a
          · rw [h3, del_same, ha]
          · rw [del_ne h3, upd_ne h3, upd_ne h2, upd_ne h3]
      rw [e1]
      have ev := Evo.newF (o := .xd [(f, v)]) A2.ok.sub hd
      refine ⟨_, Γ2, fps2, C, [(f, d)], rfl, A2.ok.grow ev (sub_newF A2.ok.sub) (fun _ z => z.elim) (fun _ z => z.elim), ⟨_, upd_same, v, [], rfl, ?_, rfl⟩, q⟩
      rw [repFp_eq]
      exact Rep.mono ev.ext _ _ g1⟩
end

/-! ### a caught exception that a name keeps -/
section
variable {X : Cx} {pins : List (Addr × Obj)} {σ τ : L2.St} {H : Hp} {s s4 : Shared}
theorem track_more (I : Inv X pins σ H s) (J : Inv X pins τ H s4) (hx : X.ex = []) {a : Addr} {φ : Heap → Prop} (n0 : s.heap.get? a = none) (n1 : H a = none) (new : ObjOk X.prog X.w (upd H a (.ext φ)) s4.heap a (.ext φ)) : Inv X pins τ (upd H a (.ext φ)) s4 := by
  have old : ∀ b o, s.heap.get? b = some o → b ≠ a := fun b o q z => by rw [z, n0] at q; cases q
  have was : ∀ b u, H b = some u → upd H a (.ext φ) b = some u := fun b u q => (upd_ne (ne_of_none q n1)).trans q
  have base0 : X.s_0.heap.get? a = none := by
    cases z : X.s_0.heap.get? a with
    | none => rfl
    | some o =>
      obtain ⟨o', q⟩ := I.base.there a o z (by rw [hx]; exact List.not_mem_nil)
      rw [n0] at q; cases q
  refine ⟨J.ok, J.os, J.bare, ⟨J.base.keep, J.base.slot, fun b o q m => ?_, J.base.there, fun b xs q => was _ _ (J.base.tups b xs q), fun b o xs q => was _ _ (J.base.frzs b o xs q), fun b ps q => ?_⟩, J.loc, J.cell, ?_, fun x c q => ?_, fun p hp => ?_, fun b u q => ?_, J.len⟩
  · rw [upd_ne (fun z => by rw [z, base0] at q; cases q)]
    exact J.base.free b o q m
  · obtain ⟨more, z⟩ := J.base.tbls b ps q
    exact ⟨more, was _ _ z⟩
  · obtain ⟨m, ⟨o, es, ep, z, _⟩, _⟩ := I.loc
    rw [upd_ne (old _ _ z)]
    exact J.free
  · obtain ⟨v, o, z, _⟩ := I.cell x c q
    rw [upd_ne (old _ _ z)]
    exact J.freeC x c q
  · have z := J.pin p hp
    refine ⟨z.1, ?_, z.2.2⟩
    rw [upd_ne (old _ _ (I.pin p hp).1)]
    exact z.2.1
  · by_cases hb : b = a
    · subst hb
      rw [upd_same] at q
      cases q
      exact new
    · rw [upd_ne hb] at q
      exact (J.hok b u q).stay (fun _ _ _ z => z) (fun c z => was _ _ z) fun c xs z => was _ _ z
end
/-- what the clause 'except x as n: y = n' wishes -/
def wKeep (K : PySem.W.Frag) (len : Nat) (c : Value) (i j : Nat) (Wout : WX) (D : Ends) : WX := fun cls d σ H => ∃ b, PySem.W.exmOne K cls c = some b ∧
  (b = true → σ.length = len → ∃ C, cls = .ref C ∧ ∀ a, H a = none → D.nx ((σ.set j (some (.ref a))).set i none) (upd H a (excAt a C d))) ∧ (b = false → Wout cls d σ H)
section
variable {X : Cx} {x y n : Str} {c : Value} {i j : Nat} {body : List Stmt} {np py pn pa pos pos' : Pos} {tb : WX → TS} {Wout : WX}
theorem exc_tracked {P : Program} {w : World} {H : Hp} {h : Heap} {a C : Addr} {d : Option Addr} {oe : Obj} (e : h.get? a = some oe) (z : Zc (.ref C) d oe) (hd : ∃ vs, oe.data = .fields vs) : ObjOk P w H h a (excAt a C d) := by
  obtain ⟨vs, hd⟩ := hd
  exact ⟨⟨oe, vs, e, z.1, z.2, hd⟩, ⟨oe, e⟩, fun h1 h2 ⟨o1, v1, q1, q2⟩ k => ⟨o1, v1, k _ q1, q2⟩⟩
theorem ps_tryKeep (hs : X.stack = X.env :: X.outer) (hf : X.env.frame = some X.env.locals) (hex : X.ex = []) (hN : X.N.Nodup) (hi : X.N[i]? = some n) (hj : X.N[j]? = some y) (hln : X.env.kindOf n = some .local) (hly : X.env.kindOf y = some .local) (hc : Names X x c) (tk : Takes X Wout)
    (hb : ∀ (W : WX) (pn : List (Addr × Obj)) (xe : Value → Shared → Prop), Takes (X.tr pn xe) W → PassesOwn (model X.prog X.w) X.A X.env xe → PSs (X.tr pn xe) body (tb W))
    (hdb : (n == ("__debug__" : Str)) = false := by decide) (hcd : (n == ("__classdict__" : Str)) = false := by decide) :
    PS X (.Try body [.ExceptHandler (some (.Name x np)) (some n) [.Assign [.Name y py] (.Name n pn) pa] pos'] [] [] pos) (fun D σ H => tb (wKeep X.K X.N.length c i j Wout D) D σ H) := ⟨fun pins s σ H D I h => by
  have ok := I.ok
  have frames : X.A.frames = some (X.env :: X.outer) := ok.frames.trans (congrArg some hs)
  let hd1 : ExceptHandler := .ExceptHandler (some (.Name x np)) (some n) [.Assign [.Name y py] (.Name n pn) pa] pos'
  let air : Value → Shared → Prop := fun e s₁ => wpAny (model X.prog X.w) X.A (noteFrame e X.env) (fun _ s₂ => wpAny (model X.prog X.w) X.A (setFlight e none) (fun _ s₃ => wpAny (model X.prog X.w) X.A (handleBy e X.env [hd1]) (SP X pins D) X.xe s₃) X.xe s₂) X.xe s₁
  have catch_ : Takes (X.tr (X.pn ++ pins) air) (wKeep X.K X.N.length c i j Wout D) := fun u s' ⟨a, B, sI, pins', σ', H', cls, d, eu, J', nb, up, sky, na, os, ag, b, hb1, hyes, hno⟩ => by
    subst eu
    have J : Inv X pins σ' H' sI := J'.ofTry ok
    have sky' : Sky B (X.env :: X.outer) a (Zc cls d) X.env.locals s'.heap := hs ▸ sky
    show wpAny (model X.prog X.w) X.A (noteFrame (.ref a) X.env) _ _ _
    refine Sky.land Zc.steady frames hf sky' fun h3 fl3 up3 => ?_
    have J3 : Inv X pins σ' H' { s' with heap := h3 } := J.landed nb fl3.1 (up.trans up3) os ag
    obtain ⟨oe3, vs3, he3, hz3, hd3⟩ := fl3.there
    have nfr : a ∉ frs (X.env :: X.outer) := fun hm => by
      obtain ⟨_, o', e', hnf⟩ := fl3.2.2.1.mem hm
      have q := he3.symm.trans e'
      cases q
      exact hnf _ hd3
    have nL : a ≠ X.env.locals := fun z => nfr (List.mem_filterMap.mpr ⟨X.env, List.mem_cons_self, hf.trans (congrArg some z.symm)⟩)
    have nF : a ∉ X.fs := fun hm => by
      obtain ⟨e, he, q⟩ := List.mem_filterMap.mp hm
      exact nfr (List.mem_filterMap.mpr ⟨e, List.mem_cons_of_mem _ he, q⟩)
    have S3 := J3.suite he3 hd3 na nL nF
    refine wpAny_handleBy_cons (codeAny_handlers_test ?_) (by intro q; cases q)
    have looks : PySem.W.Looks (model X.prog X.w) h3 (typeOf (.ref a)) cls := fun A Q E s k q => wpAny_typeOf_ref (k _ _ he3) (hz3.1.symm ▸ q)
    have match_ := PySem.W.exm_one (M := model X.prog X.w) (J3.kIn) looks hb1
    have named : ∀ {Q : Value → Shared → Prop} {E : Value → Shared → Prop}, Q c { s' with heap := h3 } → wpAny (model X.prog X.w) (X.A.mark (some (.ref a))) (eval (.Name x np) X.env) Q E { s' with heap := h3 } := fun {Q E} q => by
      rcases hc with ⟨hg, hdbg, hm | ⟨hm, hv, hnn⟩⟩
      · exact ld_glob (X := X.suite a ((a, oe3) :: (X.pn ++ pins))) S3 hg hm q hdbg
      · exact ld_blt (X := X.suite a ((a, oe3) :: (X.pn ++ pins))) S3 hg hm hv q hnn hdbg
    refine named (match_.here ?_)
    cases b with
    | false =>
      show wpAny _ X.A (handleBy (.ref a) X.env []) _ _ _
      refine wpAny_handleBy_nil ?_
      obtain ⟨_, _, _, oe, vs, T, oT, _, he, hz, hd, h1, hr⟩ := id fl3
      unfold PySem.passOn
      refine wpAny_bind (wpAny_field he hd h1 ?_)
      have notNone : ¬ ((Value.ref T == Value.none) = true) := by simp
      rw [if_neg notNone]
      have over : wpAny (model X.prog X.w) X.A (setFlight (.ref a) X.env.frame) (fun _ s4 => wpAny (model X.prog X.w) X.A (throw (.ref a) : Sem Flow) (SP X pins D) X.xe s4) X.xe { s' with heap := h3 } := hf ▸
        HandSPX.setFlight_upZ fl3 fun h4 hh4 up4 => wpAny_throw (tk _ _ ⟨a, B, sI, pins, σ', H', cls, d, rfl, J, nb, (up.trans up3).trans up4, .inr (.inr (hs ▸ hh4)), na, os, ag, hno rfl⟩)
      first | exact wpAny_bind (wpAny_pure (wpAny_bind over)) | exact wpAny_bind over
    | true =>
      obtain ⟨C, rfl, nx⟩ := hyes rfl J.len
      refine codeAny_handlers_suite_as (HandSPX.lands_againZ fl3 fun h4 fl4 up4 => ?_)
      have J4 : Inv X pins σ' H' { s' with heap := h4 } := J.landed nb fl4.1 ((up.trans up3).trans up4) os ag
      obtain ⟨oe4, vs4, he4, hz4, hd4⟩ := fl4.there
      have S4 := J4.suite he4 hd4 na nL nF
      refine store_ok (X := X.suite a ((a, oe4) :: (X.pn ++ pins))) (v := .ref a) S4 hN hi (.inl hln) rfl (fun s5 S5 => ?_) (.inr hln)
      have one : PSs (X.suite a ((a, oe4) :: (X.pn ++ pins))) [.Assign [.Name y py] (.Name n pn) pa] (tAsg (tVar i) (gName j)) := pss_one (ps_set hN hj (.inl hly) (pe_var hi (.inl hln) hdb hcd) rfl (.inr hly))
      refine wpAny_mono (one.run [] s5 _ H' { nx := fun τ H6 => τ = (σ'.set i (some (.ref a))).set j (some (.ref a)) ∧ H6 = H', rt := fun _ _ => False } S5 ⟨.ref a, List.getElem?_set_self (by rw [J.len]; exact (List.getElem?_eq_some_iff.mp hi).1), rfl, rfl⟩) (fun f s6 hsp => ?_) (fun _ _ z => False.elim z)
      cases f with
      | next =>
        obtain ⟨σ6, H6, S6, rfl, rfl⟩ := hsp
        have J6 : Inv X pins _ _ s6 := S6.unsuite ok
        have at6 := (S6.pin (a, oe4) (List.mem_append_left _ List.mem_cons_self)).1
        have lack : sI.heap.get? a = none := by
          cases z : sI.heap.get? a with
          | none => rfl
          | some o =>
            have zb := nb a o z (by rw [show (X.tr (X.pn ++ pins) air).stack = X.env :: X.outer from hs]; exact nfr)
            have za : B.get? a = none := by
              rcases sky' with q | q | q
              · exact q.2.1
              · exact q.2.1
              · exact q.2.1
            rw [za] at zb; cases zb
        have K6 := track_more J J6 hex lack na (exc_tracked at6 hz4 ⟨_, hd4⟩)
        refine gone_ok K6 hN hi hln fun s7 J7 => ⟨_, _, J7, ?_⟩
        have sw : ((σ'.set i (some (V.ref a))).set j (some (V.ref a))).set i none = (σ'.set j (some (V.ref a))).set i none := by
          refine List.ext_getElem? fun k => ?_
          simp only [List.getElem?_set, List.length_set]
          split <;> split <;> first | rfl | (split <;> rfl) | skip
          all_goals simp_all
        rw [sw]
        exact nx a na
      | brk => obtain ⟨_, _, _, z⟩ := hsp; exact z.elim
      | cont => obtain ⟨_, _, _, z⟩ := hsp; exact z.elim
      | ret u => obtain ⟨_, _, _, _, _, z⟩ := hsp; exact z.elim
  refine wpAny_Try_except (wpAny_mono ((hb _ (X.pn ++ pins) air catch_ PassesOwn.looking).run [] s σ H D (I.toTry _) h) (fun f s1 hsp => ?_) (fun e s1 he => he))
  cases f with
  | next => obtain ⟨σ', H', J', q⟩ := hsp; exact wpAny_execs_nil ⟨σ', H', J'.ofTry ok, q⟩
  | brk => obtain ⟨σ', H', J', q⟩ := hsp; exact ⟨σ', H', J'.ofTry ok, q⟩
  | cont => obtain ⟨σ', H', J', q⟩ := hsp; exact ⟨σ', H', J'.ofTry ok, q⟩
  | ret u => obtain ⟨v, σ', H', J', r, q⟩ := hsp; exact ⟨v, σ', H', J'.ofTry ok, r, q⟩⟩
/-- try: .. except x as n: y = n -/
def dTryKeep (K : PySem.W.Frag) (C0 : Addr) (i j : Nat) (tb : TSX) : TSX := fun Ex De Γ => tb (fun C l Γ1 => ∃ b, PySem.W.exmOne K (.ref C) (.ref C0) = some b ∧ (b = true → De.nx ((Γ1.set j (some (.exn C l))).set i none)) ∧ (b = false → Ex C l Γ1)) De Γ
theorem ps'_tryKeep {E : EC} {C0 : Addr} {tb : TSX} (i j : Nat) (hm : X.mg x = some (.ref C0)) (hs : X.stack = X.env :: X.outer) (hex : X.ex = []) (hf : X.env.frame = some X.env.locals)
    (hb : ∀ (pn : List (Addr × Obj)) (xe : Value → Shared → Prop), PassesOwn (model X.prog X.w) X.A X.env xe → PSs' (X.tr pn xe) E body tb) (hK : E.K = X.K := by rfl) (hki : E.kp i = false := by rfl) (hkj : E.kp j = false := by rfl)
    (hi : X.N[i]? = some n := by rfl) (hj : X.N[j]? = some y := by rfl) (hN : X.N.Nodup := by decide +kernel) (hln : X.env.kindOf n = some .local := by rfl) (hly : X.env.kindOf y = some .local := by rfl) (hg : Gl X x := by rfl) (hd : (x == ("__debug__" : Str)) = false := by decide)
    (hdb : (n == ("__debug__" : Str)) = false := by decide) (hcd : (n == ("__classdict__" : Str)) = false := by decide) :
    PS' X E (.Try body [.ExceptHandler (some (.Name x np)) (some n) [.Assign [.Name y py] (.Name n pn) pa] pos'] [] [] pos) (dTryKeep X.K C0 i j tb) := ⟨fun Ex tk => by
  let Exi : DX → (DEnv → Prop) → DX := fun Ex nx C l Γ1 => ∃ b, PySem.W.exmOne X.K (.ref C) (.ref C0) = some b ∧ (b = true → nx ((Γ1.set j (some (.exn C l))).set i none)) ∧ (b = false → Ex C l Γ1)
  refine ps_imp (ps_tryKeep (i := i) (j := j) (c := .ref C0) (tb := fun W D σ H => ∃ nx, (∀ cls d σ H, wOf E (Exi Ex nx) cls d σ H → W cls d σ H) ∧ tsOf E tb (Exi Ex nx) D σ H) hs hf hex hN hi hj hln hly ⟨hg, hd, .inl hm⟩ tk (fun W pn xe tkW hp => ?_) hdb hcd) fun σ H Dv hl ⟨F, Γ, fps, De, ok, q, en⟩ => ?_
  · refine ⟨fun pins s σ H D I ⟨nx, hW, q⟩ => ?_⟩
    exact ((hb pn xe hp).of (Exi Ex nx) (Takes.imp tkW hW)).run pins s σ H D I q
  · refine ⟨De.nx, fun cls dd σ1 H1 ⟨F1, Γ1, fps1, C, l, ec, ok1, py, b, hb1, hyes, hno⟩ => ?_, F, Γ, fps, De, ok, q, en⟩
    subst ec
    refine ⟨b, hb1, fun e hl1 => ⟨C, rfl, fun a ha => ?_⟩, fun e => ⟨F1, Γ1, fps1, C, l, rfl, ok1, py, hno e⟩⟩
    have ev := Evo.newF (o := excAt a C dd) ok1.sub ha
    have ok2 := ok1.grow ev (sub_newF ok1.sub) (fun _ z => z.elim) (fun _ z => z.elim)
    have rp : Rep E.K (upd F1 a (excAt a C dd)) (.exn C l) (.ref a) := by
      refine ⟨a, dd, rfl, upd_same, ?_⟩
      cases dd with
      | none => exact py
      | some dd =>
        obtain ⟨fs, f1, f2⟩ := py
        exact ⟨fs, ev.ext _ _ f1, RepF.mono ev.ext _ _ f2⟩
    have ok3 := ok2.store (i := j) (d := .exn C l) (by
      rw [ok2.len, hl1]
      exact (List.getElem?_eq_some_iff.mp hj).1) (own_nil rp rfl) (fun _ z => z.elim) (fun _ z => z.elim) hkj
    have ok4 := ok3.wipe (vs := [i]) fun k m => by
      rw [List.mem_singleton.mp m]; exact hki
    exact en.nx _ _ ⟨_, _, _, ok4, hyes e⟩⟩
end
end DL

/-! DM: a def by its body; fields of caught exceptions. -/
namespace DL
open PySem PySem.Spec PyProof.Rows L2

/-! ### a caught exception's field -/
def ExF (K : PySem.W.Frag) (C : Addr) (f : Str) : Prop := XfC K C ∧ PySem.W.findIn K (.ref C) f = some none
def dFldX (K : PySem.W.Frag) (te : TX) (f : Str) : TX := fun Ex Γ Q => te Ex Γ fun a Γ1 => un (a.res Γ1) fun d => match d with
  | .exn C l => ExF K C f ∧ un (l.lookup f) fun v => Q (.v v) Γ1
  | _ => False
theorem RepF.look {K : PySem.W.Frag} {F : Hp} {f : Str} {d : D} : ∀ {l : List (Str × D)} {fs : List (Str × V)}, RepF K F l fs → l.lookup f = some d → ∃ v, fs.lookup f = some v ∧ Rep K F d v
  | [], fs, h, e => by cases e
  | (g, d') :: l, fs, h, e => by
    obtain ⟨v, r, rfl, h1, h2⟩ := h
    rw [List.lookup_cons] at e
    show ∃ v', List.lookup f ((g, v) :: r) = some v' ∧ _
    rw [List.lookup_cons]
    cases q : f == g with
    | true =>
      rw [q] at e
      cases e
      rw [repFp_eq] at h1
      exact ⟨v, rfl, h1⟩
    | false =>
      rw [q] at e
      exact RepF.look h2 e
theorem px_fldx {X : Cx} {E : EC} {e : Expr} {te : TX} {f : Str} {pos : Pos} (he : PX X E e te) (hK : E.K = X.K := by rfl) (hb : attributeBase e f X.env (eval e X.env) = eval e X.env := by rfl) : PX X E (.Attribute e f pos) (dFldX X.K te f) := ⟨fun Ex tk => by
  refine ⟨fun pins s σ H Q I ⟨F, Γ, fps, P, ok, q, go⟩ => ?_⟩
  refine attr_of hb (thn ((he.of Ex tk).run pins s σ H (fun v H1 => ∃ (a C dd : Addr) (fs : List (Str × V)) (v' : V), v = .ref a ∧ ExF X.K C f ∧ H1 a = some (excAt a C (some dd)) ∧ H1 dd = some (.xd fs) ∧ fs.lookup f = some v' ∧ Q v' H1) I (first (t := te) ok q fun v H1 F1 Γ1 fps1 a T A1 h1 q => ?_)) fun u s1 ⟨v, H1, I1, r1, a, C, dd, fs, v', ev, ⟨T, hno⟩, ea, ed, l, q⟩ => ?_)
  · obtain ⟨d, e1, q⟩ := un_of q
    cases d with
    | exn C l =>
      obtain ⟨⟨T, hno⟩, q⟩ := q
      obtain ⟨w, e2, q⟩ := un_of q
      obtain ⟨a', dd, rfl, f1, f2⟩ := pk_fz (h1.peek A1.ok e1) rfl
      cases dd with
      | none => rw [show l = [] from f2] at e2; cases e2
      | some dd =>
        obtain ⟨fs, f2, f3⟩ := f2
        obtain ⟨v', e3, r3⟩ := RepF.look f3 e2
        exact ⟨a', C, dd, fs, v', rfl, ⟨T, hno⟩, A1.ok.sub _ _ f1, A1.ok.sub _ _ f2, e3, go _ _ (A1.val (own_nil r3 (rep_fz r3)) q)⟩
    | _ => exact q.elim
  · subst ev
    cases (show u = Value.ref a from r1)
    obtain ⟨⟨oe, vs, e1, e2, e3, e4⟩, _⟩ := I1.hok a _ ea
    obtain ⟨mA, hns, hr⟩ := I1.hok dd _ ed
    obtain ⟨od, ho, hl⟩ := lookIn_ns hns
    obtain ⟨u, hu, ru⟩ := RelO.some_of (v := v') (o := mA f) (l ▸ hr f)
    have J : PySem.W.InstAt s1.heap a oe C (some od) := ⟨e1, e2, by unfold PySem.W.notCls; rw [e4] <;> rfl, by rw [e3]; exact ho⟩
    exact HandSPX.exc_get I1.kIn J T.ga T.gg T.exC (PySem.W.findObj_own T.hdC hno rfl (by rw [hl, hu])) (handed_of ru) ⟨v', H1, I1.tok _, ru, q⟩⟩

/-! ### a def -/
/-- what the parameters that keep their names' values hold -/
def outsF (kp : Nat → Bool) (Γ : DEnv) : Nat → Nat → List (Option D)
  | _, 0 => []
  | i, n + 1 => (if kp i = true then (Γ[i]?).join else none) :: outsF kp Γ (i + 1) n
def startD (N : List Str) (ds : List D) : DEnv := ds.map some ++ List.replicate (N.length - ds.length) none
theorem outL_of {E : EC} {F H : Hp} {σ : L2.St} {Γ : DEnv} {fps : Fps} (ok : EOk E F H σ Γ fps) : ∀ {vs : List V} (i : Nat), (∀ j v, vs[j]? = some v → E.kp (i + j) = true → σ[i + j]? = some (some v)) →
    ∃ g, OutL E.K F H (outsF E.kp Γ i vs.length) vs g ∧ ∀ x, g x → ∃ j, i ≤ j ∧ fps j x
  | [], i, h => ⟨Nil, ⟨rfl, rfl⟩, fun _ z => z.elim⟩
  | v :: vs, i, h => by
    obtain ⟨g, o, u⟩ := outL_of ok (vs := vs) (i + 1) fun j w e k => by
      have z : i + 1 + j = i + (j + 1) := by omega
      rw [z] at k ⊢
      exact h (j + 1) w e k
    have none_ : OutL E.K F H (none :: outsF E.kp Γ (i + 1) vs.length) (v :: vs) g := ⟨v, vs, Nil, g, rfl, by funext x; exact propext ⟨.inr, fun q => q.elim (fun z => z.elim) id⟩, fun _ z => z.elim, rfl, o⟩
    have far : ∀ x, g x → ∃ j, i ≤ j ∧ fps j x := fun x q => let ⟨j, a, b⟩ := u x q; ⟨j, by omega, b⟩
    show ∃ g, OutL E.K F H ((if E.kp i = true then (Γ[i]?).join else none) :: outsF E.kp Γ (i + 1) vs.length) (v :: vs) g ∧ _
    by_cases k : E.kp i = true
    · rw [if_pos k]
      cases e : (Γ[i]?).join with
      | none => exact ⟨g, none_, far⟩
      | some d =>
        obtain ⟨w, hw, ow⟩ := ok.slot i d (join_some e)
        have z := h 0 v rfl k
        rw [Nat.add_zero, hw] at z
        cases z
        refine ⟨fun x => fps i x ∨ g x, ⟨_, vs, fps i, g, rfl, rfl, fun x a b => ?_, ow, o⟩, fun x q => q.elim (fun a => ⟨i, Nat.le_refl _, a⟩) (far x)⟩
        obtain ⟨j, hj, b⟩ := u x b
        exact ok.dis i j x (by omega) a b
    · rw [if_neg k]
      exact ⟨g, none_, far⟩
theorem start_fps {K : PySem.W.Frag} {F H : Hp} : ∀ {ds : List D} {vs : List V} {T : ASet}, OwnL K F H ds vs T → ∃ fps : Fps, vs.length = ds.length ∧ (∀ i d, ds[i]? = some d → ∃ v, vs[i]? = some v ∧ Own K F H d v (fps i)) ∧ (∀ i j a, i ≠ j → fps i a → fps j a → False) ∧ ∀ i a, fps i a → T a
  | [], vs, T, h => ⟨fun _ => Nil, by rw [h.1]; rfl, fun i d e => by simp at e, fun _ _ _ _ z => z.elim, fun _ _ z => z.elim⟩
  | d :: ds, vs, T, h => by
    obtain ⟨v, r, f, g, rfl, rfl, dj, h1, h2⟩ := h
    obtain ⟨fps, l, a, b, c⟩ := start_fps h2
    refine ⟨fun i => match i with | 0 => f | j + 1 => fps j, by simp [l], fun i d' e => ?_, fun i j x n p q => ?_, fun i x p => ?_⟩
    · cases i with
      | zero => cases e; exact ⟨v, rfl, h1⟩
      | succ i => exact a i d' e
    · cases i with
      | zero =>
        cases j with
        | zero => exact n rfl
        | succ j => exact dj x p (c j x q)
      | succ i =>
        cases j with
        | zero => exact dj x q (c i x p)
        | succ j => exact b i j x (fun z => n (by rw [z])) p q
    · cases i with
      | zero => exact .inl p
      | succ i => exact .inr (c i x p)
theorem start_get {N : List Str} {vs : List V} {i : Nat} {v : V} (h : vs[i]? = some v) : (L2.start N vs)[i]? = some (some v) := by
  unfold L2.start
  have l := (List.getElem?_eq_some_iff.mp h).1
  rw [List.getElem?_append_left (by rw [List.length_map]; exact l), List.getElem?_map, h]
  rfl
theorem startD_get {N : List Str} {ds : List D} {i : Nat} {d : D} (h : (startD N ds)[i]? = some (some d)) : ds[i]? = some d := by
  unfold startD at h
  by_cases l : i < ds.length
  · rw [List.getElem?_append_left (by rw [List.length_map]; exact l), List.getElem?_map] at h
    cases e : ds[i]? with
    | none => rw [e] at h; cases h
    | some d' => rw [e] at h; cases h; rfl
  · rw [List.getElem?_append_right (by rw [List.length_map]; omega)] at h
    have z := (List.mem_replicate.mp (List.mem_of_getElem? h)).2
    cases z
/-- how the def's data begin -/
abbrev EC.at (K : PySem.W.Frag) (kp : Nat → Bool) (F0 H0 : Hp) (fp0 : ASet) (kv : Nat → Option V) : EC := { K := K, F0 := F0, H0 := H0, fp0 := fp0, kp := kp, kv := kv }
abbrev cxD (P : Program) (w : World) (K : PySem.W.Frag) (mg : Str → Option Value) (base : Heap) (N : List Str) (qual : Str) (st : Stmt) (f : Addr) (cdv : Value) (A : Around) (outer : List Env) (s : Shared) (H : Hp) (E : XK) : Cx :=
  cxOf (L2.CX P w) P w K mg base N qual (defScope st) f cdv A outer s H E
section
variable {P : Program} {w : World} {K : PySem.W.Frag} {mg : Str → Option Value} {base : Heap}
section
variable {N ps : List Str} {kp : Nat → Bool} {sp : SpD} {t : TSX} (law : ∀ ds Q Ex, sp ds Q Ex → ds.length = ps.length ∧ t (fun C l Γ => Ex C l (outsF kp Γ 0 ps.length)) { nx := fun Γ => Q .non (outsF kp Γ 0 ps.length), rt := fun d Γ => Q d (outsF kp Γ 0 ps.length) } (startD N ds))
include law
theorem dn_len : ∀ vs H Q E, spOf K sp vs H Q E → vs.length = ps.length := fun vs H Q E ⟨F, ds, T, Qd, Ed, _, ow, q, _⟩ => by
  obtain ⟨_, l, _⟩ := start_fps ow
  rw [l, (law ds Qd Ed q).1]
theorem dn_core {qual : Str} {st : Stmt} {f : Addr} {cdv : Value} {A : Around} {outer : List Env} {s : Shared} {H : Hp} {E : XK} {vs : List V} {Q : VK} (h : spOf K sp vs H Q E) :
    ∃ F0 T kv Ed, Tk (cxD P w K mg base N qual st f cdv A outer s H E) (EC.at K kp F0 H T kv) Ed ∧ tsOf (EC.at K kp F0 H T kv) t Ed { nx := fun _ H' => Q .non H', rt := Q } (L2.start N vs) H := by
  obtain ⟨F0, ds, T, Qd, Ed, sub, ow, q, kQ, kE⟩ := h
  obtain ⟨fps, l, sl, dis, inT⟩ := start_fps ow
  obtain ⟨dl, q⟩ := law ds Qd Ed q
  have trk := OwnL.trk _ _ _ ow
  let kv : Nat → Option V := fun i => if kp i = true then vs[i]? else none
  have kvk : ∀ i v, kv i = some v → kp i = true ∧ vs[i]? = some v := fun i v e => by
    have e' : (if kp i = true then vs[i]? else none) = some v := e
    by_cases z : kp i = true
    · rw [if_pos z] at e'; exact ⟨z, e'⟩
    · rw [if_neg z] at e'; cases e'
  have ok0 : EOk (EC.at K kp F0 H T kv) F0 H (L2.start N vs) (startD N ds) fps := by
    refine ⟨sub, fun i d e => ?_, dis, fun i a e => trk a (inT i a e), Evo.refl.less fun x ⟨i, e⟩ => inT i x e, fun i v e => ⟨(kvk i v e).1, start_get (kvk i v e).2⟩, ?_⟩
    · obtain ⟨v, h1, h2⟩ := sl i d (startD_get e)
      exact ⟨v, start_get h1, h2⟩
    · unfold startD L2.start
      rw [List.length_append, List.length_append, List.length_map, List.length_map, List.length_replicate, List.length_replicate, l]
  have slots : ∀ {F' H' : Hp} {σ' : L2.St} {Γ' : DEnv} {fps' : Fps}, EOk (EC.at K kp F0 H T kv) F' H' σ' Γ' fps' → ∃ g, OutL K F' H' (outsF kp Γ' 0 ps.length) vs g ∧ ∀ x, g x → U fps' x := fun {F' H' σ' Γ' fps'} ok => by
    obtain ⟨g, o, u⟩ := outL_of ok (vs := vs) 0 fun j v e k => by
      rw [Nat.zero_add] at k ⊢
      have kk : kv j = some v := by
        show (if kp j = true then vs[j]? else none) = some v
        rw [if_pos k, e]
      exact (ok.kept j v kk).2
    rw [l, dl] at o
    exact ⟨g, o, fun x z => let ⟨j, _, y⟩ := u x z; ⟨j, y⟩⟩
  have tk : Tk (cxD P w K mg base N qual st f cdv A outer s H E) (EC.at K kp F0 H T kv) (fun C l Γ => Ed C l (outsF kp Γ 0 ps.length)) := Takes.imp (takes_of rfl rfl rfl rfl) fun cls dd σ' H' ⟨F', Γ', fps', C, l, ec, ok, py, q⟩ => by
    subst ec
    obtain ⟨g, o, u⟩ := slots ok
    exact kE F' H' C dd l _ g o py (ok.evo.less u) ok.sub q
  refine ⟨F0, T, kv, _, tk, F0, startD N ds, fps, _, ok0, q, fun σ' H' ⟨F', Γ', fps', ok, q⟩ => ?_, fun _ _ ⟨_, _, _, _, z⟩ => z.elim, fun _ _ ⟨_, _, _, _, z⟩ => z.elim, fun v H' ⟨F', σ', Γ', fps', d, T', ok, ow', dj, mi, q⟩ => ?_⟩
  · obtain ⟨g, o, u⟩ := slots ok
    refine kQ F' H' .non .non _ Nil g o ⟨rfl, rfl⟩ (fun _ z => z.elim) (ok.evo.less fun x z => z.elim (fun z => z.elim) (u x)) ok.sub q
  · obtain ⟨g, o, u⟩ := slots ok
    refine kQ F' H' d v _ T' g o ow' (fun x a b => dj x a (u x b)) ⟨ok.evo.ext, ok.evo.frame, fun x z => ?_, ok.evo.froz⟩ ok.sub q
    rcases z with z | z
    · exact mi x z
    · exact ok.evo.fresh x (u x z)
end
theorem dn_of {x qual : Str} {st : Stmt} {f : Addr} {fd : FuncData} {N ps : List Str} {k : Nat} {sp : SpD} {t : TSX} (kp : Nat → Bool) (F : Fun K x qual st f fd) (S : FnScope N ps (defScope st)) (hb : Binds K fd ps [])
    (law : ∀ ds Q Ex, sp ds Q Ex → ds.length = ps.length ∧ t (fun C l Γ => Ex C l (outsF kp Γ 0 ps.length)) { nx := fun Γ => Q .non (outsF kp Γ 0 ps.length), rt := fun d Γ => Q d (outsF kp Γ 0 ps.length) } (startD N ds))
    (body : ∀ (cdv : Value) (A : Around) (outer : List Env) (s : Shared) (H : Hp) (E : XK) (F0 H0 : Hp) (fp0 : ASet) (kv : Nat → Option V), Room k (A.deeper (envOfC qual (defScope st) s.heap.objs.size f cdv)) →
      PSs' (cxD P w K mg base N qual st f cdv A outer s H E) (EC.at K kp F0 H0 fp0 kv) (defBody st) t) : Dn P w K mg base f (k + 1) sp := by
  refine ⟨fd, ps, F.okX S (dn_len law) fun cdv A outer s H vs Q E hr h => ?_, F.kp, hb⟩
  obtain ⟨F0, T, kv, Ed, tk, q⟩ := dn_core (st := st) (qual := qual) (f := f) (cdv := cdv) (A := A) (outer := outer) (s := s) (E := E) (P := P) (w := w) (mg := mg) (base := base) law h
  exact ⟨_, (body cdv A outer s H E F0 H T kv hr).of _ tk, q⟩
end
end DL

/-! DN: module constants, empty dicts, name = [.. for ..], replace. -/
namespace DL
open PySem PySem.Spec PyProof.Rows L2

section
variable {X : Cx} {E : EC} {x : Str} {pos : Pos}
theorem px_globS {z : Str} (hm : ∃ t, X.mg x = some (.str z t)) (hg : Gl X x := by rfl) (hd : (x == ("__debug__" : Str)) = false := by decide) : PX X E (.Name x pos) (dC (.str z)) := by
  obtain ⟨t, hm⟩ := hm
  exact px_const (pe_glob (v := .str z) hg hm ⟨t, rfl⟩ hd) rfl fun _ => rfl
theorem px_globI {z : Int} (hm : ∃ t, X.mg x = some (.int z t)) (hg : Gl X x := by rfl) (hd : (x == ("__debug__" : Str)) = false := by decide) : PX X E (.Name x pos) (dC (.int z)) := by
  obtain ⟨t, hm⟩ := hm
  exact px_const (pe_glob (v := .int z) hg hm ⟨t, rfl⟩ hd) rfl fun _ => rfl
def dDict0 : TX := fun _ Γ Q => Q (.v (.dK true [])) Γ
theorem px_dict0 : PX X E (.Dict [] [] pos) dDict0 := ⟨fun Ex tk => pe_imp pe_dnewK fun σ H Q ⟨F, Γ, fps, P, ok, q, k⟩ => fun p hp =>
  k _ _ ((At.start ok).done (d := .dK true []) ⟨p, [], rfl, rfl, none_sub ok.sub hp, upd_same, rfl⟩ (Evo.new hp) (sub_new ok.sub hp) q)⟩
end
section
variable {X : Cx} {E : EC} {elt tg iter : Expr} {ifs : List Expr} {scope : Scope} {pos py spos : Pos} {ts : TSr} {g : TGD} {tt : TB} {te : TX} {y : Str}
theorem ps'_setLc (i : Nat) (own : List (Str × Nat)) (hi : PIx X E tg iter ts) {gvs : List Nat}
    (hg : ∀ (s : Shared) (H : Hp) (C : Addr) (cl : List (Str × Addr)) (fp : List Addr), PGx (X.blk s H scope (compEnvC scope cl C X.env) fp) E tg gvs g) (ht : ∀ (s : Shared) (H : Hp) (C : Addr) (cl : List (Str × Addr)) (fp : List Addr), PBs (X.blk s H scope (compEnvC scope cl C X.env) fp) E ifs tt)
    (he : ∀ (s : Shared) (H : Hp) (C : Addr) (cl : List (Str × Addr)) (fp : List Addr), PX (X.blk s H scope (compEnvC scope cl C X.env) fp) E elt te) (hc : X.calm = true) (hki : E.kp i = false := by rfl) (hy : X.N[i]? = some y := by rfl) (hyl : X.env.scope.names.lookup y = some .local := by rfl)
    (hsw : swapsWith (.ListComp elt [⟨tg, iter, ifs, 0⟩] scope pos) (some (.Name y py)) spos.line X.env = pure true := by rfl) (ok : BlkOk X.N X.env.scope scope own := by exact blkOk_by (by kernel_rfl)) (hN : X.N.Nodup := by decide +kernel)
    (hk : (own.map (·.2)).all (fun i => !E.kp i) = true := by rfl) (hgv : ∀ i ∈ gvs, i ∈ own.map (·.2) := by decide) (hs : ∀ x, foldedSetIterable iter X.env x = pure x := by intro _; rfl) :
    PS' X E (.Assign [.Name y py] (.ListComp elt [⟨tg, iter, ifs, 0⟩] scope pos) spos) (dSet i (dLc ts g tt te (own.map (·.2)))) := ⟨fun Ex tk => by
  refine ps_imp (ps_setLc hc hN hy hyl hsw (hi.of Ex tk) ok (fun s H C cl fp => (hg s H C cl fp).of) (fun s H C cl fp => (ht s H C cl fp).of _ Tk.no) (fun s H C cl fp => (he s H C cl fp).of _ Tk.no) hs) fun σ H D hl ⟨F, Γ, fps, De, ok, q, en⟩ => ?_
  refine lc_go own (kp_all hk) hgv σ H (fun v H1 => D.nx (σ.set i (some v)) H1) (first (t := dLc ts g tt te (own.map (·.2))) ok (show dLc ts g tt te (own.map (·.2)) Ex Γ (fun a Γ1 => demO a Γ1 fun d Γ2 => De.nx (Γ2.set i (some d))) from q) fun v H1 F1 Γ1 fps1 a T A1 h1 q => ?_)
  obtain ⟨F2, Γ2, fps2, d, T2, A2, ow, q⟩ := A1.demO ok h1 q
  exact en.nx _ _ ⟨F2, _, _, A2.ok.store (lt_of A2.ok hy hl) ow A2.dj (A2.mine ok) hki, q⟩⟩
end

/-! ### where a token is out -/
structure PXT (X : Cx) (E : EC) (e : Expr) (t : TX) : Prop where
  of : ∀ Ex, Tk X E Ex → PET X e (teOf E t Ex)
structure PS'T (X : Cx) (E : EC) (st : Stmt) (t : TSX) : Prop where
  of : ∀ Ex, Tk X E Ex → PST X st (tsOf E t Ex)
structure PSs'T (X : Cx) (E : EC) (st : List Stmt) (t : TSX) : Prop where
  of : ∀ Ex, Tk X E Ex → PSsT X st (tsOf E t Ex)
def replD (y z : Str) : D → (D → Prop) → Prop := fun d k => match d with
  | .str x => x.length + (x.length + 1) * z.length ≤ 16777216 ∧ k (.str (Txt.replace x y z))
  | _ => False
section
variable {X : Cx} {E : EC} {o e : Expr} {es : List Expr} {te to : TX} {tas : TXs} {y z x : Str} {j k : Nat} {c0 c1 apos cpos pos : Pos} {st : Stmt} {sts : List Stmt} {t u : TSX} {name : Str} {T id : String} {f : D → List D → (D → Prop) → Prop}
theorem pxt_repl (ho : PX X E o to) (hyz : (y == z) = false := by decide)
    (hst : starEach [.Constant (.str y) j c0, .Constant (.str z) k c1] X.env = [(false, eval (.Constant (.str y) j c0) X.env), (false, eval (.Constant (.str z) k c1) X.env)] := by rfl)
    (hbase : attributeBase o "replace" X.env (eval o X.env) = eval o X.env := by rfl) (hline : (apos.endLine == pos.line) = true := by rfl) :
    PXT X E (.Call (.Attribute o "replace" apos) [.Constant (.str y) j c0, .Constant (.str z) k c1] [] pos) (dUn (replD y z) to) := ⟨fun Ex tk pins s σ H Q h1 I ⟨F, Γ, fps, P, ok, q, go⟩ =>
  CwR.pet_replC (ho.of Ex tk) hyz hst hbase hline pins s σ H Q h1 I (first (t := to) ok q fun v H1 F1 Γ1 fps1 a T A1 h1 q => by
    obtain ⟨d, e1, q⟩ := un_of q
    have pk := h1.peek A1.ok e1
    cases d with
    | str w => exact ⟨w, pk_fz pk rfl, q.1, go _ _ (A1.val (d := .str _) ⟨rfl, rfl⟩ q.2)⟩
    | _ => exact q.elim)⟩
theorem pxt_m (pa : PlainAttrs T) (slot : Slot T name id) (hty : typeOf (.builtin id) = pure (.type "method_descriptor")) (hm : MetD X E id f) (ho : PXT X E o to) (ha : PXs X E (e :: es) tas) (hK : E.K = X.K := by rfl)
    (hbase : attributeBase o name X.env (eval o X.env) = eval o X.env := by rfl)
    (hfew : ((backTo cpos (starEach (e :: es) X.env)).all (fun x => !x.1) && (backToKw cpos (keywordEach [] X.env)).all (fun x => x.1.isSome) && decide ((e :: es).length + ([] : List Keyword).length + (if ([] : List Keyword).isEmpty then 0 else 1) < 30)) = true := by rfl)
    (hline : (apos.endLine == cpos.line) = true := by rfl) (hs : starEach (e :: es) X.env = (false, eval e X.env) :: starEach es X.env := by rfl) (hplain : (backTo cpos (starEach es X.env)).any (·.1) = false := by rfl) :
    PXT X E (.Call (.Attribute o name apos) (e :: es) [] cpos) (dM T f to tas) := ⟨fun Ex tk pins s σ H Q h0 I ⟨F, Γ, fps, P, ok, q, go⟩ => by
  obtain ⟨r, hr, hf⟩ := hm.ex
  refine wpAny_Call_method_late hbase hfew hline rfl (thn ((ho.of Ex tk) pins s σ H (fun x H1 => tyV X.K T x H1 ∧ taOf E tas Ex σ H1 fun xs H2 => r x xs H2 Q) h0 I (first (t := to) ok q fun x H1 F1 Γ1 fps1 A f1 A1 h1 q => ?_)) fun v s1 ⟨x, H1, I1, r1, ty, q1⟩ => ?_)
  · obtain ⟨x0, e0, ty, q⟩ := un_of q
    refine ⟨by rw [← hK]; exact isTy_v A1.ok.sub (h1.peek A1.ok e0) ty, nextL (t := tas) A1 (HoldL.one h1) q fun vs H2 F2 Γ2 fps2 bs f2 A2 h1 h2 dj q => ?_⟩
    obtain ⟨d, e1, q⟩ := un_of q
    obtain ⟨ds, e2, q⟩ := un_of q
    obtain ⟨_, _, _, _, hv, hT, _, h1, hn⟩ := h1
    cases hv
    exact hf F2 H2 d x ds vs _ _ A2.ok.sub (h1.peek A2.ok e1) (h2.peek A2.ok e2) q fun z F' H' g v o ev s q => go v H' (A2.done o ev s q)
  · obtain ⟨g1, g2⟩ := tyV_is I1 r1 ty
    refine ⟨T, id, pa, slot, hty, g1, g2, ?_⟩
    have hA := (ha.of Ex tk).run cpos pins s1 σ H1 _ I1 q1
    rw [hs] at hA ⊢
    have plain : ((false, eval e X.env) :: backTo cpos (starEach es X.env)).any (·.1) = false := by show (false || _) = false; rw [hplain]; rfl
    exact Calls.callWith_builtin plain (Calls.evalArgs_plain (thn hA fun us s2 ⟨vs, H2, I2, r2, q2⟩ => hr pins s2 σ H2 x vs v us Q I2 r1 r2 q2))⟩
theorem PS'.tok (h : PS' X E st t) : PS'T X E st t := ⟨fun Ex tk => PST.of (h.of Ex tk)⟩
theorem PSs'.tok (h : PSs' X E sts t) : PSs'T X E sts t := ⟨fun Ex tk => PSsT.of (h.of Ex tk)⟩
theorem psst'_cons (h1 : PS'T X E st t) (h2 : PSs'T X E sts u) : PSs'T X E (st :: sts) (dSeq t u) := ⟨fun Ex tk pins s σ H D h0 I ⟨F, Γ, fps, De, ok, q, en⟩ =>
  psst_cons (h1.of Ex tk) (h2.of Ex tk) pins s σ H D h0 I ⟨F, Γ, fps, _, ok, q, fun σ H ⟨F, Γ, fps, ok, q⟩ => ⟨F, Γ, fps, De, ok, q, en⟩, en.bk, en.ct, en.rt⟩⟩
theorem pst'_ret (he : PXT X E e te) : PS'T X E (.Return (some e) pos) (dRet te) := ⟨fun Ex tk pins s σ H D h0 I ⟨F, Γ, fps, De, ok, q, en⟩ =>
  CwR.pst_ret (he.of Ex tk) pins s σ H D h0 I (first (t := te) ok q fun v H1 F1 Γ1 fps1 a T A1 h1 q => en.rt _ _ (A1.demM ok h1 q))⟩
theorem pst'_set {p : Pos} (i : Nat) (he : PXT X E e te) (hk : E.kp i = false := by rfl) (hi : X.N[i]? = some x := by rfl) (hx : Loc X.env.scope x := by first | exact Or.inl rfl | exact Or.inr rfl) (hN : X.N.Nodup := by decide +kernel)
    (hs : swapsWith e (some (.Name x p)) pos.line X.env = pure false := by rfl) (hf : X.fn x = true ∨ X.env.scope.names.lookup x = some .local := by first | exact .inl rfl | exact .inr rfl) : PS'T X E (.Assign [.Name x p] e pos) (dSet i te) := ⟨fun Ex tk pins s σ H D h0 I ⟨F, Γ, fps, De, ok, q, en⟩ => by
  have hl := I.len
  refine wpAny_Assign_Name (thn ((he.of Ex tk) pins s σ H (fun y H1 => D.nx (σ.set i (some y)) H1) h0 I (first (t := te) ok q fun v H1 F1 Γ1 fps1 a T A1 h1 q => ?_)) fun v s1 ⟨y, H1, I1, r1, q1⟩ => store_ok I1 hN hi hx r1 (fun s2 I2 => ⟨_, H1, I2, q1⟩) hf) hs
  obtain ⟨F2, Γ2, fps2, d, T2, A2, ow, q⟩ := A1.demO ok h1 q
  exact en.nx _ _ ⟨F2, _, _, A2.ok.store (lt_of A2.ok hi hl) ow A2.dj (A2.mine ok) hk, q⟩⟩
end
section
variable {P : Program} {w : World} {K : PySem.W.Frag} {mg : Str → Option Value} {base : Heap}
/-- as dn_of, a token out when the body begins -/
theorem dn_ofT {x qual : Str} {st : Stmt} {f : Addr} {fd : FuncData} {N ps : List Str} {k : Nat} {sp : SpD} {t : TSX} (kp : Nat → Bool) (F : Fun K x qual st f fd) (S : FnScope N ps (defScope st)) (hb : Binds K fd ps []) (hnc : ∀ y ∈ (defScope st).names, y.2 ≠ .cell) (hps : 1 ≤ ps.length)
    (law : ∀ ds Q Ex, sp ds Q Ex → ds.length = ps.length ∧ t (fun C l Γ => Ex C l (outsF kp Γ 0 ps.length)) { nx := fun Γ => Q .non (outsF kp Γ 0 ps.length), rt := fun d Γ => Q d (outsF kp Γ 0 ps.length) } (startD N ds))
    (body : ∀ (cdv : Value) (A : Around) (outer : List Env) (s : Shared) (H : Hp) (E : XK) (F0 H0 : Hp) (fp0 : ASet) (kv : Nat → Option V), Room k (A.deeper (envOfC qual (defScope st) s.heap.objs.size f cdv)) →
      PSs'T (cxD P w K mg base N qual st f cdv A outer s H E) (EC.at K kp F0 H0 fp0 kv) (defBody st) t) : Dn P w K mg base f (k + 1) sp := by
  obtain ⟨oc, od, kV, doc, pm, an, cdv, ct, osl, rfl, lk, hcd⟩ := F.ex
  refine ⟨_, ps, fn_ofT lk hcd S hnc hps (dn_len law) fun A outer s H vs Q E hr h => ?_, F.kp, hb⟩
  obtain ⟨F0, T, kv, Ed, tk, q⟩ := dn_core (st := st) (qual := qual) (f := f) (cdv := cdv) (A := A) (outer := outer) (s := s) (E := E) (P := P) (w := w) (mg := mg) (base := base) law h
  exact ⟨_, (body cdv A outer s H E F0 H T kv hr).of _ tk, q⟩
end
end DL

/-! DP: how a reading is gone through. -/
namespace DL
open PySem PySem.Spec PyProof.Rows L2

def lendTo (as : List AD) (Γ : DEnv) (k : List D → DEnv → Prop) : Prop := ∃ ds Γ2, lend as Γ = some (ds, Γ2) ∧ k ds Γ2
theorem lendTo_i {as : List AD} {Γ Γ2 : DEnv} {ds : List D} {k : List D → DEnv → Prop} (e : lend as Γ = some (ds, Γ2)) (h : k ds Γ2) : lendTo as Γ k := ⟨ds, Γ2, e, h⟩
def ownAt (Γ : DEnv) (i : Nat) (k : List D → Prop) : Prop := ∃ l, Γ[i]? = some (some (.lst .o l)) ∧ k l
theorem ownAt_i {Γ : DEnv} {i : Nat} {l : List D} {k : List D → Prop} (e : Γ[i]? = some (some (.lst .o l))) (h : k l) : ownAt Γ i k := ⟨l, e, h⟩
def setAt (a : AD) (Γ : DEnv) (i : Nat) (d : D) (k : DEnv → Prop) : Prop := ∃ m l j, a.res Γ = some (.int m) ∧ Γ[i]? = some (some (.lst .o l)) ∧ ixN l.length m = some j ∧ k (Γ.set i (some (.lst .o (l.set j d))))
theorem setAt_i {a : AD} {Γ : DEnv} {i : Nat} {d : D} {m : Int} {l : List D} {j : Nat} {k : DEnv → Prop} (e1 : a.res Γ = some (.int m)) (e2 : Γ[i]? = some (some (.lst .o l))) (e3 : ixN l.length m = some j) (h : k (Γ.set i (some (.lst .o (l.set j d))))) : setAt a Γ i d k := ⟨m, l, j, e1, e2, e3, h⟩
def two (ds : List D) (k : D → D → Prop) : Prop := ∃ d e, ds = [d, e] ∧ k d e
theorem two_i {d e : D} {k : D → D → Prop} (h : k d e) : two [d, e] k := ⟨d, e, rfl, h⟩
section
variable {Ex : DX} {n b c n' : DEnv → Prop} {r : D → DEnv → Prop} {Γ Γ1 : DEnv} {t u tb : TSX} {te ta to tl : TX} {tas : TXs} {tc td : TB} {g : TGD} {gs : TGDs} {Q : AD → DEnv → Prop} {QB : Bool → DEnv → Prop} {QL : List AD → DEnv → Prop} {i j : Nat} {d e : D} {a : AD} {as : List AD} {ds : List D} {P : Prop}
theorem seq_i (h : t Ex ⟨fun Γ1 => u Ex ⟨n, r, b, c⟩ Γ1, r, b, c⟩ Γ) : dSeq t u Ex ⟨n, r, b, c⟩ Γ := h
theorem next_i (h : n Γ) : dNext Ex ⟨n, r, b, c⟩ Γ := h
theorem brk_i (h : b Γ) : dBreak Ex ⟨n, r, b, c⟩ Γ := h
theorem cont_i (h : c Γ) : dCont Ex ⟨n, r, b, c⟩ Γ := h
theorem drop_i (h : te Ex Γ fun _ Γ1 => n Γ1) : dDrop te Ex ⟨n, r, b, c⟩ Γ := h
theorem ret_i (h : te Ex Γ fun a Γ1 => demM a Γ1 r) : dRet te Ex ⟨n, r, b, c⟩ Γ := h
theorem retN_i (h : r .non Γ) : dRetN Ex ⟨n, r, b, c⟩ Γ := h
theorem if_i (h : tc Ex Γ fun x Γ1 => if x = true then t Ex ⟨n, r, b, c⟩ Γ1 else u Ex ⟨n, r, b, c⟩ Γ1) : dIf tc t u Ex ⟨n, r, b, c⟩ Γ := h
theorem set_i (h : te Ex Γ fun a Γ1 => demO a Γ1 fun d Γ2 => n (Γ2.set i (some d))) : dSet i te Ex ⟨n, r, b, c⟩ Γ := h
theorem asg_i (h : te Ex Γ fun a Γ1 => dem a Γ1 fun d Γ2 => g d Γ2 n) : dAsg te g Ex ⟨n, r, b, c⟩ Γ := h
theorem par_i (h0 : tas Ex Γ fun as Γ1 => demL as Γ1 fun ds Γ2 => two ds fun d e => n ((Γ2.set i (some d)).set j (some e))) : dPar i j tas Ex ⟨n, r, b, c⟩ Γ := by
  have h : tas Ex Γ fun as Γ1 => demL as Γ1 fun ds Γ2 => ∃ d e, ds = [d, e] ∧ n ((Γ2.set i (some d)).set j (some e)) := h0
  show tas Ex Γ fun as Γ1 => demL as Γ1 fun ds Γ2 => match ds with | [d, e] => n ((Γ2.set i (some d)).set j (some e)) | _ => False
  have e : (fun (as : List AD) (Γ1 : DEnv) => demL as Γ1 fun ds Γ2 => ∃ d e, ds = [d, e] ∧ n ((Γ2.set i (some d)).set j (some e))) = fun as Γ1 => demL as Γ1 fun ds Γ2 => match ds with | [d, e] => n ((Γ2.set i (some d)).set j (some e)) | _ => False := by
    funext as Γ1
    congr 1
    funext ds Γ2
    refine propext ⟨fun ⟨d, e, h, q⟩ => by subst h; exact q, fun q => ?_⟩
    match ds, q with
    | [d, e], q => exact ⟨d, e, rfl, q⟩
  rw [e] at h
  exact h
/-- a value, a name -/
theorem c_i (h : Q (.v d) Γ) : dC d Ex Γ Q := h
theorem n_i (e : Γ[i]? = some (some d)) (h : Q (.s i) Γ) : dN i Ex Γ Q := by
  show un (Γ[i]?).join _
  rw [e]
  exact h
theorem bin_i {f : F2} (h : ta Ex Γ fun a Γ1 => tl Ex Γ1 fun b Γ2 => un (a.res Γ2) fun x => un (b.res Γ2) fun y => f x y fun z => Q (.v z) Γ2) : dBin f ta tl Ex Γ Q := h
theorem dun_i {f : D → (D → Prop) → Prop} (h : ta Ex Γ fun a Γ1 => un (a.res Γ1) fun x => f x fun z => Q (.v z) Γ1) : dUn f ta Ex Γ Q := h
theorem nil_i (h : QL [] Γ) : dNil Ex Γ QL := h
theorem cons_i (h : ta Ex Γ fun a Γ1 => tas Ex Γ1 fun as Γ2 => QL (a :: as) Γ2) : dCons ta tas Ex Γ QL := h
theorem tup_i (h : tas Ex Γ fun as Γ1 => demL as Γ1 fun ds Γ2 => ds.length ≤ 16777216 ∧ Q (.v (.tup ds)) Γ2) : dTup tas Ex Γ Q := h
theorem lst_i (h : tas Ex Γ fun as Γ1 => demL as Γ1 fun ds Γ2 => ds.length ≤ 16777216 ∧ Q (.v (.lst .o ds)) Γ2) : dLst tas Ex Γ Q := h
def blOf (x : D) (k : Bool → Prop) : Prop := match x with | .bl b => k b | _ => False
theorem blOf_i {b : Bool} {k : Bool → Prop} (h : k b) : blOf (.bl b) k := h
theorem bl_i (h : ta Ex Γ fun a Γ1 => un (a.res Γ1) fun x => blOf x fun b => QB b Γ1) : dBl ta Ex Γ QB := h
theorem dtru_i (h : ta Ex Γ fun a Γ1 => un (a.res Γ1) fun x => tru x fun b => QB b Γ1) : dTru ta Ex Γ QB := h
theorem and_i (h : tc Ex Γ fun x Γ1 => if x = true then td Ex Γ1 QB else QB false Γ1) : dAnd tc td Ex Γ QB := h
theorem or_i (h : tc Ex Γ fun x Γ1 => if x = true then QB true Γ1 else td Ex Γ1 QB) : dOr tc td Ex Γ QB := h
theorem not_i (h : tc Ex Γ fun x Γ1 => QB (!x) Γ1) : dNot tc Ex Γ QB := h
theorem andV_i (h : ta Ex Γ fun a Γ1 => un (a.res Γ1) fun x => blOf x fun c => if c = true then tl Ex Γ1 Q else Q (.v (.bl false)) Γ1) : dAndV ta tl Ex Γ Q := h
theorem orV_i (h : ta Ex Γ fun a Γ1 => un (a.res Γ1) fun x => blOf x fun c => if c = true then Q (.v (.bl true)) Γ1 else tl Ex Γ1 Q) : dOrV ta tl Ex Γ Q := h
theorem notV_i (h : ta Ex Γ fun a Γ1 => un (a.res Γ1) fun x => blOf x fun c => Q (.v (.bl !c)) Γ1) : dNotV ta Ex Γ Q := h
theorem chain_i {f g : F2} {tm : TX} (h : ta Ex Γ fun a Γ1 => tm Ex Γ1 fun b Γ2 => un (a.res Γ2) fun x => un (b.res Γ2) fun y => f x y fun z => blOf z fun c => if c = true then tl Ex Γ2 fun e Γ3 => un (b.res Γ3) fun y' => un (e.res Γ3) fun u => g y' u fun z => Q (.v z) Γ3 else Q (.v (.bl false)) Γ2) : dChain f g ta tm tl Ex Γ Q := h
theorem b_i {g : FL} (h : tas Ex Γ fun as Γ1 => un (resL as Γ1) fun ds => g ds fun z => Q (.v z) Γ1) : dB g tas Ex Γ Q := h
theorem m_i {T : String} {f : D → List D → (D → Prop) → Prop} (h : to Ex Γ fun a Γ1 => un (a.res Γ1) fun x0 => isTy T x0 ∧ tas Ex Γ1 fun as Γ2 => un (a.res Γ2) fun x => un (resL as Γ2) fun ds => f x ds fun z => Q (.v z) Γ2) : dM T f to tas Ex Γ Q := h
theorem isTy_s {s : Str} (h : P) : isTy "str" (.str s) ∧ P := ⟨rfl, h⟩
theorem isTy_l {o : Ow} {l : List D} (h : P) : isTy "list" (.lst o l) ∧ P := ⟨rfl, h⟩
theorem mut_i {f : FM} {l0 : List D} {o0 : Ow} (e : Γ[i]? = some (some (.lst o0 l0))) (h0 : tas Ex Γ fun as Γ1 => demL as Γ1 fun ds Γ2 => ownAt Γ2 i fun l => f l ds fun z l' => Q (.v z) (Γ2.set i (some (.lst .o l')))) : dMut f i tas Ex Γ Q := by
  have h : tas Ex Γ fun as Γ1 => demL as Γ1 fun ds Γ2 => ∃ l, Γ2[i]? = some (some (.lst .o l)) ∧ f l ds fun z l' => Q (.v z) (Γ2.set i (some (.lst .o l'))) := h0
  show un (Γ[i]?).join _
  rw [e]
  refine ⟨True.intro, ?_⟩
  have e2 : (fun (as : List AD) (Γ1 : DEnv) => demL as Γ1 fun ds Γ2 => ∃ l, Γ2[i]? = some (some (.lst .o l)) ∧ f l ds fun z l' => Q (.v z) (Γ2.set i (some (.lst .o l')))) = fun as Γ1 => demL as Γ1 fun ds Γ2 => un (Γ2[i]?).join fun d => match d with
      | .lst .o l => f l ds fun z l' => Q (.v z) (Γ2.set i (some (.lst .o l')))
      | _ => False := by
    funext as Γ1
    congr 1
    funext ds Γ2
    refine propext ⟨fun ⟨l, h, q⟩ => by rw [h]; exact q, fun q => ?_⟩
    obtain ⟨d, h, q⟩ := un_of q
    match d, q with
    | .lst .o l, q => exact ⟨l, join_some h, q⟩
  rw [e2] at h
  exact h
theorem sl_i {tp tq : TP} (h : ta Ex Γ fun a Γ1 => tp Ex Γ1 fun lo Γ2 => tq Ex Γ2 fun hi Γ3 => un (a.res Γ3) fun x => slD x lo hi fun z => Q (.v z) Γ3) : dSl ta tp tq Ex Γ Q := h
def inOf (x : D) (k : Option Int → Prop) : Prop := match x with | .int i => k (some i) | _ => False
theorem inOf_i {i : Int} {k : Option Int → Prop} (h : k (some i)) : inOf (.int i) k := h
theorem pn_i {QP : Option Int → DEnv → Prop} (h : QP none Γ) : dPn Ex Γ QP := h
theorem ps_i {QP : Option Int → DEnv → Prop} (h : ta Ex Γ fun a Γ1 => un (a.res Γ1) fun x => inOf x fun i => QP i Γ1) : dPs ta Ex Γ QP := h
theorem call_i {sp : SpD} (h0 : tas Ex Γ fun as Γ1 => lendTo as Γ1 fun ds Γ2 => sp ds (fun r outs => Q (.v r) (back as ds outs Γ2)) (fun C l outs => Ex C l (back as ds outs Γ2))) : dCall sp tas Ex Γ Q := by
  have h : tas Ex Γ fun as Γ1 => ∃ ds Γ2, lend as Γ1 = some (ds, Γ2) ∧ sp ds (fun r outs => Q (.v r) (back as ds outs Γ2)) (fun C l outs => Ex C l (back as ds outs Γ2)) := h0
  show tas Ex Γ fun as Γ1 => match lend as Γ1 with | some (ds, Γ2) => _ | none => False
  have e : (fun (as : List AD) (Γ1 : DEnv) => ∃ ds Γ2, lend as Γ1 = some (ds, Γ2) ∧ sp ds (fun r outs => Q (.v r) (back as ds outs Γ2)) (fun C l outs => Ex C l (back as ds outs Γ2))) = fun as Γ1 => match lend as Γ1 with
      | some (ds, Γ2) => sp ds (fun r outs => Q (.v r) (back as ds outs Γ2)) (fun C l outs => Ex C l (back as ds outs Γ2))
      | none => False := by
    funext as Γ1
    refine propext ⟨fun ⟨ds, Γ2, h, q⟩ => by rw [h]; exact q, fun q => ?_⟩
    cases h : lend as Γ1 with
    | none => rw [h] at q; exact q.elim
    | some p => rw [h] at q; exact ⟨p.1, p.2, rfl, q⟩
  rw [e] at h
  exact h
theorem call0_i {sp : SpD} (h : sp [] (fun r _ => Q (.v r) Γ) (fun _ _ _ => False)) : dCall0 sp Ex Γ Q := h
theorem callL_i {sp : SpD} {f : Addr} (e : Γ[i]? = some (some (.ob f))) (h : dCall sp tas Ex Γ Q) : dCallL i f sp tas Ex Γ Q := ⟨by rw [e]; rfl, h⟩
theorem un_i {α : Type} {o : Option α} {x : α} {k : α → Prop} (e : o = some x) (h : k x) : un o k := by rw [e]; exact h
theorem dict0_i (h : Q (.v (.dK true [])) Γ) : dDict0 Ex Γ Q := h
theorem yes_i (h : QB true Γ) : dYes Ex Γ QB := h
/-! stores -/
theorem demO_v {k : D → DEnv → Prop} (h : k d Γ) : demO (.v d) Γ k := h
theorem demO_f {k : D → DEnv → Prop} (e : Γ[i]? = some (some d)) (z : d.fz = true) (h : k d Γ) : demO (.s i) Γ k := by
  show un (Γ[i]?).join _
  rw [e]
  show if d.fz = true then _ else _
  rw [if_pos z]
  exact h
theorem demO_o {k : D → DEnv → Prop} (e : Γ[i]? = some (some d)) (z : d.fz = false) (cc : d.can = true) (h : k d.frz (Γ.set i (some d.frz))) : demO (.s i) Γ k := by
  show un (Γ[i]?).join _
  rw [e]
  show if d.fz = true then _ else _
  rw [if_neg (by rw [z]; exact Bool.false_ne_true)]
  exact ⟨cc, h⟩
theorem demM_v {k : D → DEnv → Prop} (h : k d Γ) : demM (.v d) Γ k := h
theorem demM_f {k : D → DEnv → Prop} (e : Γ[i]? = some (some d)) (z : d.fz = true) (h : k d Γ) : demM (.s i) Γ k := by
  show un (Γ[i]?).join _
  rw [e]
  show if d.fz = true then _ else _
  rw [if_pos z]
  exact h
theorem demM_o {k : D → DEnv → Prop} (e : Γ[i]? = some (some d)) (z : d.fz = false) (h : k d (Γ.set i none)) : demM (.s i) Γ k := by
  show un (Γ[i]?).join _
  rw [e]
  show if d.fz = true then _ else _
  rw [if_neg (by rw [z]; exact Bool.false_ne_true)]
  exact h
theorem dem_vf {k : D → DEnv → Prop} (z : d.fz = true) (h : k d Γ) : dem (.v d) Γ k := by
  show if d.fz = true then _ else _
  rw [if_pos z]
  exact h
theorem dem_vo {k : D → DEnv → Prop} (z : d.fz = false) (cc : d.can = true) (h : k d.frz Γ) : dem (.v d) Γ k := by
  show if d.fz = true then _ else _
  rw [if_neg (by rw [z]; exact Bool.false_ne_true)]
  exact ⟨cc, h⟩
theorem dem_f {k : D → DEnv → Prop} (e : Γ[i]? = some (some d)) (z : d.fz = true) (h : k d Γ) : dem (.s i) Γ k := demO_f e z h
theorem dem_o {k : D → DEnv → Prop} (e : Γ[i]? = some (some d)) (z : d.fz = false) (cc : d.can = true) (h : k d.frz (Γ.set i (some d.frz))) : dem (.s i) Γ k := demO_o e z cc h
theorem demL_n {k : List D → DEnv → Prop} (h : k [] Γ) : demL [] Γ k := h
theorem demL_c {k : List D → DEnv → Prop} (h : dem a Γ fun d Γ1 => demL as Γ1 fun ds Γ2 => k (d :: ds) Γ2) : demL (a :: as) Γ k := h
/-! targets -/
theorem gN_i {k : DEnv → Prop} (h : k (Γ.set i (some d))) : gN i d Γ k := h
theorem gZ_i {k : DEnv → Prop} (h : k Γ) : gZ [] Γ k := h
theorem gC_i {k : DEnv → Prop} (h : g d Γ fun Γ1 => gs ds Γ1 k) : gC g gs (d :: ds) Γ k := h
theorem gT_i {k : DEnv → Prop} {l : List D} {m : Nat} (e : l.length = m) (h : gs l Γ k) : gT m gs (.tup l) Γ k := ⟨e, h⟩
theorem gIx_i {k : DEnv → Prop} {d0 : D} (e : Γ[i]? = some (some d0)) (h0 : ta DX.no Γ fun a Γ1 => setAt a Γ1 i d k) : gIx i ta d Γ k := by
  have h : ta DX.no Γ fun a Γ1 => ∃ m l j, a.res Γ1 = some (.int m) ∧ Γ1[i]? = some (some (.lst .o l)) ∧ ixN l.length m = some j ∧ k (Γ1.set i (some (.lst .o (l.set j d)))) := h0
  show un (Γ[i]?).join _
  rw [e]
  have e2 : (fun (a : AD) (Γ1 : DEnv) => ∃ m l j, a.res Γ1 = some (.int m) ∧ Γ1[i]? = some (some (.lst .o l)) ∧ ixN l.length m = some j ∧ k (Γ1.set i (some (.lst .o (l.set j d))))) = fun a Γ1 => un (a.res Γ1) fun b => un (Γ1[i]?).join fun c => match b, c with
      | .int n, .lst .o l => un (ixN l.length n) fun j => k (Γ1.set i (some (.lst .o (l.set j d))))
      | _, _ => False := by
    funext a Γ1
    refine propext ⟨fun ⟨m, l, j, h1, h2, h3, q⟩ => by rw [h1, h2]; show un (ixN l.length m) _; rw [h3]; exact q, fun q => ?_⟩
    obtain ⟨b, h1, q⟩ := un_of q
    obtain ⟨c, h2, q⟩ := un_of q
    match b, c, q with
    | .int n, .lst .o l, q =>
      obtain ⟨j, h3, q⟩ := un_of q
      exact ⟨n, l, j, h1, join_some h2, h3, q⟩
  show ta DX.no Γ _
  rw [e2] at h
  exact h
end
/-! operators -/
section
variable {k : D → Prop} {i j : Int} {x y : Str} {l m : List D} {o o' : Ow} {d e : D}
theorem add_ii (h : k (.int (i + j))) : addD (.int i) (.int j) k := h
theorem add_ss (z : x.length + y.length ≤ 16777216) (h : k (.str (x ++ y))) : addD (.str x) (.str y) k := ⟨z, h⟩
theorem add_ll (c : o ≠ .k ∧ o' ≠ .k) (z : l.length + m.length ≤ 16777216) (h : k (.lst .o (l ++ m))) : addD (.lst o l) (.lst o' m) k := ⟨c, z, h⟩
theorem add_tt (z : l.length + m.length ≤ 16777216) (h : k (.tup (l ++ m))) : addD (.tup l) (.tup m) k := ⟨z, h⟩
theorem sub_ii (h : k (.int (i - j))) : subD (.int i) (.int j) k := h
theorem mul_ii (z : (-18446744073709551616 < i ∧ i < 18446744073709551616) ∨ (-18446744073709551616 < j ∧ j < 18446744073709551616)) (h : k (.int (i * j))) : mulD (.int i) (.int j) k := ⟨z, h⟩
theorem fdiv_ii (z : 0 < j ∧ j < 1073741824) (h : k (.int (i / j))) : fdivD (.int i) (.int j) k := ⟨z, h⟩
theorem mod_ii (z : 0 < j) (h : k (.int (i % j))) : modD (.int i) (.int j) k := ⟨z, h⟩
theorem pow_ii (z : 0 ≤ j ∧ j ≤ 1000 ∧ i.natAbs < 18446744073709551616) (h : k (.int (i ^ j.toNat))) : powD (.int i) (.int j) k := ⟨z, h⟩
theorem lt_ii (h : k (.bl (decide (i < j)))) : ltD (.int i) (.int j) k := h
theorem le_ii (h : k (.bl (decide (i ≤ j)))) : leD (.int i) (.int j) k := h
theorem gt_ii (h : k (.bl (decide (j < i)))) : gtD (.int i) (.int j) k := h
theorem ge_ii (h : k (.bl (decide (j ≤ i)))) : geD (.int i) (.int j) k := h
theorem eq_i (c : cmpOk d e = true) (h : k (.bl (deq d e))) : eqD d e k := ⟨c, h⟩
theorem ne_i (c : cmpOk d e = true) (h : k (.bl (!deq d e))) : neD d e k := ⟨c, h⟩
theorem eq_ii (h : k (.bl (i == j))) : eqD (.int i) (.int j) k := ⟨rfl, h⟩
theorem ne_ii (h : k (.bl (!(i == j)))) : neD (.int i) (.int j) k := ⟨rfl, h⟩
theorem eq_ss (h : k (.bl (x == y))) : eqD (.str x) (.str y) k := ⟨rfl, h⟩
theorem eq_bb {p q : Bool} (h : k (.bl (p == q))) : eqD (.bl p) (.bl q) k := ⟨rfl, h⟩
theorem ne_bb {p q : Bool} (h : k (.bl (!(p == q)))) : neD (.bl p) (.bl q) k := ⟨rfl, h⟩
theorem f1_i {g : D → (D → Prop) → Prop} (h : g d k) : f1 g [d] k := h
theorem f2_i {g : D → D → (D → Prop) → Prop} (h : g d e k) : f2' g [d, e] k := h
theorem m1_i {g : D → D → (D → Prop) → Prop} (h : g d e k) : m1 g d [e] k := h
theorem m0_i {g : D → (D → Prop) → Prop} (h : g d k) : m0 g d [] k := h
theorem len_s (z : x.length ≤ 16777216) (h : k (.int x.length)) : lenD (.str x) k := ⟨z, h⟩
theorem len_l (h : k (.int l.length)) : lenD (.lst o l) k := h
theorem len_t (h : k (.int l.length)) : lenD (.tup l) k := h
theorem abs_i (h : k (.int (if i < 0 then -i else i))) : absD (.int i) k := h
theorem list_l (h : k (.lst .o l)) : listD (.lst o l) k := h
theorem list_t (h : k (.lst .o l)) : listD (.tup l) k := h
theorem tuple_l (h : k (.tup l)) : tupleD (.lst o l) k := h
theorem tuple_t (h : k (.tup l)) : tupleD (.tup l) k := h
theorem ix_l (e : atI l i = some d) (h : k d) : ixD (.lst o l) (.int i) k := un_i e h
theorem ix_t (e : atI l i = some d) (h : k d) : ixD (.tup l) (.int i) k := un_i e h
theorem ix_s {c : Nat} (z : x.length ≤ 16777216) (e : atI x.cps.toList i = some c) (h : k (.str ⟨#[c]⟩)) : ixD (.str x) (.int i) k := ⟨z, un_i e h⟩
theorem sl_l {lo hi : Option Int} (h : k (.lst .o (cutD l lo hi))) : slD (.lst o l) lo hi k := h
theorem sl_t {lo hi : Option Int} (h : k (.tup (cutD l lo hi))) : slD (.tup l) lo hi k := h
theorem sl_s {lo hi : Option Int} (z : x.length ≤ 16777216) (h : k (.str (cutS x lo hi))) : slD (.str x) lo hi k := ⟨z, h⟩
theorem in_sc {c : Nat} (h : k (.bl (decide (c ∈ y.cps.toList)))) : inD (.str ⟨#[c]⟩) (.str y) k := ⟨c, rfl, h⟩
theorem nin_sc {c : Nat} (h : k (.bl (!decide (c ∈ y.cps.toList)))) : ninD (.str ⟨#[c]⟩) (.str y) k := ⟨c, rfl, h⟩
theorem isn_n (h : k (.bl true)) : isnD .non .non k := h
theorem isn_s (h : k (.bl false)) : isnD (.str x) .non k := h
theorem isn_t (h : k (.bl false)) : isnD (.tup l) .non k := h
theorem isn_l (h : k (.bl false)) : isnD (.lst o l) .non k := by cases o <;> exact h
theorem isn_ii (h : k (.bl false)) : isnD (.int i) .non k := h
theorem notn_n (h : k (.bl false)) : notnD .non .non k := h
theorem split_i (z : (y.length == 0) = false) (z2 : x.length + 2 ≤ 16777216) (h : k (.lst .o ((Txt.split x y).map D.str))) : splitD (.str x) (.str y) k := ⟨z, z2, h⟩
theorem join_l {ys : List Str} (e : strsOf l = some ys) (z : (ys.map (·.length)).sum + ys.length * x.length ≤ 16777216) (h : k (.str (Txt.join x ys))) : joinD (.str x) (.lst o l) k := by
  show un (strsOf l) _
  exact un_i e ⟨z, h⟩
theorem join_t {ys : List Str} (e : strsOf l = some ys) (z : (ys.map (·.length)).sum + ys.length * x.length ≤ 16777216) (h : k (.str (Txt.join x ys))) : joinD (.str x) (.tup l) k := by
  show un (strsOf l) _
  exact un_i e ⟨z, h⟩
theorem all_l {bs : List Bool} (e : blsOf l = some bs) (h : k (.bl (bs.all id))) : allD (.lst o l) k := by
  show un (blsOf l) _
  exact un_i e h
theorem append_i {kk : D → List D → Prop} (z : l.length < 16777216) (h : kk .non (l ++ [d])) : appendM l [d] kk := ⟨z, h⟩
theorem tru_b {p : Bool} {kb : Bool → Prop} (h : kb p) : tru (.bl p) kb := h
theorem dl_tt {A B : Prop} (h : A) : if true = true then A else B := (if_pos rfl).mpr h
theorem dl_ff {A B : Prop} (h : B) : if false = true then A else B := (if_neg Bool.false_ne_true).mpr h
theorem ite_d {p A B : Prop} [Decidable p] (h1 : p → A) (h2 : ¬ p → B) : if decide p = true then A else B := by
  by_cases h : p
  · rw [if_pos (decide_eq_true h)]; exact h1 h
  · rw [if_neg (fun z => h (of_decide_eq_true z))]; exact h2 h
theorem ite_c {p : Bool} {A B : Prop} (h1 : p = true → A) (h2 : p = false → B) : if p = true then A else B := by
  cases p with
  | true => exact dl_tt (h1 rfl)
  | false => exact dl_ff (h2 rfl)
end
end DL
namespace DL
open PySem PySem.Spec PyProof.Rows L2
/-! ### what is walked; comprehensions; loops -/
section
variable {Ex : DX} {n b c : DEnv → Prop} {r : D → DEnv → Prop} {Γ Γ1 : DEnv} {te ta : TX} {tas : TXs} {tb : TSX} {tt : TB} {ts : TSr} {g : TGD} {Q : AD → DEnv → Prop} {k : List D → DEnv → List (Nat × D) → Prop} {i j : Nat} {d e : D} {xs : List D} {vs L : List Nat} {gv : List (Nat × D)}
theorem sL_i (e1 : Γ[i]? = some (some d)) (e2 : itemsOf d = some xs) (h : k xs (Γ.set i none) [(i, d)]) : sL i Ex Γ k := by
  show un (Γ[i]?).join _
  rw [e1]
  show un (itemsOf d) _
  exact un_i e2 h
def walked (a : AD) (Γ : DEnv) (k : List D → DEnv → Prop) : Prop := match a with
  | .v d => un (itemsOf d) fun xs => k xs Γ
  | .s i => un (Γ[i]?).join fun d => un (itemsOf d) fun xs => if d.fz = true then k xs Γ else d.can = true ∧ k xs (Γ.set i (some d.frz))
theorem sV_i (h : te Ex Γ fun a Γ1 => walked a Γ1 fun xs Γ2 => k xs Γ2 []) : sV te Ex Γ k := h
theorem walked_v {k : List D → DEnv → Prop} (e2 : itemsOf d = some xs) (h : k xs Γ) : walked (.v d) Γ k := un_i e2 h
theorem walked_f {k : List D → DEnv → Prop} (e1 : Γ[i]? = some (some d)) (e2 : itemsOf d = some xs) (z : d.fz = true) (h : k xs Γ) : walked (.s i) Γ k := by
  show un (Γ[i]?).join _
  rw [e1]
  show un (itemsOf d) _
  refine un_i e2 ?_
  rw [if_pos z]
  exact h
theorem walked_o {k : List D → DEnv → Prop} (e1 : Γ[i]? = some (some d)) (e2 : itemsOf d = some xs) (z : d.fz = false) (cc : d.can = true) (h : k xs (Γ.set i (some d.frz))) : walked (.s i) Γ k := by
  show un (Γ[i]?).join _
  rw [e1]
  show un (itemsOf d) _
  refine un_i e2 ?_
  rw [if_neg (by rw [z]; exact Bool.false_ne_true)]
  exact ⟨cc, h⟩
def rng1 (ds : List D) (k : List D → Prop) : Prop := match ds with
  | [.int n] => (-1000000 ≤ n ∧ n ≤ 1000000) ∧ k (rangeL 0 n.toNat)
  | _ => False
theorem rng1_i {m : Int} {k : List D → Prop} (z : -1000000 ≤ m ∧ m ≤ 1000000) (h : k (rangeL 0 m.toNat)) : rng1 [.int m] k := ⟨z, h⟩
theorem sR1_i (h : tas Ex Γ fun as Γ1 => un (resL as Γ1) fun ds => rng1 ds fun xs => k xs Γ1 []) : sR1 tas Ex Γ k := by
  have e : (fun (as : List AD) (Γ1 : DEnv) => un (resL as Γ1) fun ds => rng1 ds fun xs => k xs Γ1 []) = fun as Γ1 => un (resL as Γ1) fun ds => match ds with
      | [.int n] => (-1000000 ≤ n ∧ n ≤ 1000000) ∧ k (rangeL 0 n.toNat) Γ1 []
      | _ => False := by
    funext as Γ1
    congr 1
  rw [e] at h
  exact h
theorem sZipL_i {o o' : Ow} {l m : List D} (e1 : Γ[i]? = some (some (.lst o l))) (e2 : (Γ.set i none)[j]? = some (some (.lst o' m))) (h : k ((l.zip m).map fun p => .tup [p.1, p.2]) ((Γ.set i none).set j none) [(i, .lst o l), (j, .lst o' m)]) : sZipL i j Ex Γ k := by
  show un (Γ[i]?).join _
  rw [e1]
  show un ((Γ.set i none)[j]?).join _
  rw [e2]
  exact h
theorem sZipT_i {l m : List D} (e1 : Γ[i]? = some (some (.tup l))) (e2 : (Γ.set i none)[j]? = some (some (.tup m))) (h : k ((l.zip m).map fun p => .tup [p.1, p.2]) ((Γ.set i none).set j none) [(i, .tup l), (j, .tup m)]) : sZipL i j Ex Γ k := by
  show un (Γ[i]?).join _
  rw [e1]
  show un ((Γ.set i none)[j]?).join _
  rw [e2]
  exact h
theorem sEnumL_i {o : Ow} {l : List D} (e1 : Γ[i]? = some (some (.lst o l))) (h : k (l.mapIdx fun i d => .tup [.int (i : Nat), d]) (Γ.set i none) [(i, .lst o l)]) : sEnumL i Ex Γ k := by
  show un (Γ[i]?).join _
  rw [e1]
  exact h
def lcTo (g : TGD) (tt : TB) (te : TX) (vs : List Nat) (Q : AD → DEnv → Prop) (xs : List D) (Γ1 : DEnv) (gv : List (Nat × D)) : Prop := ∃ J : Nat → List D → DEnv → Prop, J 0 [] (wipeD Γ1 vs) ∧
  (∀ i d acc Γ2, xs[i]? = some d → J i acc Γ2 → dLcT g tt te vs d acc Γ2 (J (i + 1))) ∧ ∀ acc Γ2, J xs.length acc Γ2 → Q (.v (.lst .o acc)) (giv gv Γ2)
theorem lc_i (h : ts Ex Γ fun xs Γ1 gv => lcTo g tt te vs Q xs Γ1 gv) : dLc ts g tt te vs Ex Γ Q := h
theorem lcT_i {acc : List D} {kk : List D → DEnv → Prop} (h : g d Γ fun Γ3 => tt DX.no Γ3 fun b Γ4 => if b = true then te DX.no Γ4 fun a Γ5 => dem a Γ5 fun d' Γ6 => acc.length < sizeLine ∧ kk (acc ++ [d']) (wipeD Γ6 vs) else kk acc (wipeD Γ4 vs)) : dLcT g tt te vs d acc Γ kk := h
theorem take_flat (F : D → List D) {i : Nat} {d : D} (h : xs[i]? = some d) : (xs.take (i + 1)).flatMap F = (xs.take i).flatMap F ++ F d := by
  rw [List.take_add_one, h, List.flatMap_append]
  simp
theorem flat_len (F : D → List D) (h1 : ∀ d, (F d).length ≤ 1) : ∀ l : List D, (l.flatMap F).length ≤ l.length
  | [] => Nat.le_refl _
  | d :: l => by
    have := flat_len F h1 l
    have := h1 d
    rw [List.flatMap_cons, List.length_append, List.length_cons]
    omega
/-- a comprehension that changes nothing: each item gives none or one -/
theorem lc_pure (F : D → List D) (h1 : ∀ d, (F d).length ≤ 1) (hz : xs.length ≤ 16777216) (h : ∀ (i : Nat) (d : D) (acc : List D) (kk : List D → DEnv → Prop), xs[i]? = some d → acc.length < sizeLine → kk (acc ++ F d) (wipeD Γ1 vs) → dLcT g tt te vs d acc (wipeD Γ1 vs) kk)
    (q : Q (.v (.lst .o (xs.flatMap F))) (giv gv (wipeD Γ1 vs))) : lcTo g tt te vs Q xs Γ1 gv := by
  refine ⟨fun i acc Γ => acc = (xs.take i).flatMap F ∧ Γ = wipeD Γ1 vs, ⟨by simp, rfl⟩, fun i d acc Γ2 hi ⟨e1, e2⟩ => ?_, fun acc Γ2 ⟨e1, e2⟩ => ?_⟩
  · subst e2
    have li := (List.getElem?_eq_some_iff.mp hi).1
    have la : acc.length < sizeLine := by
      have := flat_len F h1 (xs.take i)
      rw [List.length_take] at this
      rw [e1, sizeLine_eq]
      omega
    exact h i d acc _ hi la ⟨by rw [e1, take_flat F hi], rfl⟩
  · rw [e1, e2, List.take_length]
    exact q
def forTo (L : List Nat) (Ex : DX) (n : DEnv → Prop) (r : D → DEnv → Prop) (g : TGD) (tb : TSX) (xs : List D) (Γ1 : DEnv) (gv : List (Nat × D)) : Prop := gv.map (·.1) = L ∧ ∃ J : Nat → DEnv → Prop, J 0 Γ1 ∧
  (∀ i d Γ2, xs[i]? = some d → J i Γ2 → g d Γ2 fun Γ3 => tb (fun C l Γ => Ex C l (giv gv Γ)) ⟨J (i + 1), fun d Γ => r d (giv gv Γ), fun Γ => n (giv gv Γ), J (i + 1)⟩ Γ3) ∧
  ∀ Γ2, J xs.length Γ2 → n (giv gv Γ2)
theorem for_i (h : ts Ex Γ fun xs Γ1 gv => forTo L Ex n r g tb xs Γ1 gv) : dFor L ts g tb Ex ⟨n, r, b, c⟩ Γ := h
theorem while_i {tc : TB} (J : Nat → DEnv → Prop) (m : Nat) (h0 : J m Γ) (h : ∀ m Γ2, J m Γ2 → tc Ex Γ2 fun x Γ3 => if x = true then tb Ex ⟨fun Γ4 => ∃ m', m' < m ∧ J m' Γ4, r, n, fun Γ4 => ∃ m', m' < m ∧ J m' Γ4⟩ Γ3 else n Γ3) : dWhile tc tb Ex ⟨n, r, b, c⟩ Γ := ⟨J, ⟨m, h0⟩, h⟩
theorem raiseI_i {C : Addr} {f : Str} (h : tas Ex Γ fun as Γ1 => demL as Γ1 fun ds Γ2 => ∃ d, ds = [d] ∧ Ex C [(f, d)] Γ2) : dRaiseI C f tas Ex ⟨n, r, b, c⟩ Γ := by
  have e2 : (fun (as : List AD) (Γ1 : DEnv) => demL as Γ1 fun ds Γ2 => ∃ d, ds = [d] ∧ Ex C [(f, d)] Γ2) = fun as Γ1 => demL as Γ1 fun ds Γ2 => match ds with
      | [d] => Ex C [(f, d)] Γ2
      | _ => False := by
    funext as Γ1
    congr 1
    funext ds Γ2
    refine propext ⟨fun ⟨d, e, q⟩ => by subst e; exact q, fun q => ?_⟩
    match ds, q with
    | [d], q => exact ⟨d, rfl, q⟩
  rw [e2] at h
  exact h
theorem try_i {K : PySem.W.Frag} {C0 : Addr} (h : tb (fun C l Γ1 => ∃ b, PySem.W.exmOne K (.ref C) (.ref C0) = some b ∧ (b = true → n ((Γ1.set j (some (.exn C l))).set i none)) ∧ (b = false → Ex C l Γ1)) ⟨n, r, b, c⟩ Γ) : dTryKeep K C0 i j tb Ex ⟨n, r, b, c⟩ Γ := h
theorem fldx_i {K : PySem.W.Frag} {f : Str} (h : te Ex Γ fun a Γ1 => ∃ C l v, a.res Γ1 = some (.exn C l) ∧ ExF K C f ∧ l.lookup f = some v ∧ Q (.v v) Γ1) : dFldX K te f Ex Γ Q := by
  have e2 : (fun (a : AD) (Γ1 : DEnv) => ∃ C l v, a.res Γ1 = some (.exn C l) ∧ ExF K C f ∧ l.lookup f = some v ∧ Q (.v v) Γ1) = fun a Γ1 => un (a.res Γ1) fun d => match d with
      | .exn C l => ExF K C f ∧ un (l.lookup f) fun v => Q (.v v) Γ1
      | _ => False := by
    funext a Γ1
    refine propext ⟨fun ⟨C, l, v, h1, h2, h3, q⟩ => by rw [h1]; exact ⟨h2, un_i h3 q⟩, fun q => ?_⟩
    obtain ⟨d, h1, q⟩ := un_of q
    match d, q with
    | .exn C l, q =>
      obtain ⟨v, h3, q3⟩ := un_of q.2
      exact ⟨C, l, v, h1, q.1, h3, q3⟩
  rw [e2] at h
  exact h
end
theorem dl_nt {A B : Prop} (h : B) : if (!true) = true then A else B := (if_neg (by simp)).mpr h
theorem dl_nf {A B : Prop} (h : A) : if (!false) = true then A else B := (if_pos rfl).mpr h
theorem ite_nd {p A B : Prop} [Decidable p] (h1 : ¬ p → A) (h2 : p → B) : if (!decide p) = true then A else B := by
  by_cases h : p
  · rw [if_neg (by simp [h])]; exact h2 h
  · rw [if_pos (by simp [h])]; exact h1 h
theorem sz_i {n : Nat} {P : Prop} (z : n ≤ 16777216) (h : P) : n ≤ 16777216 ∧ P := ⟨z, h⟩
theorem eq_nil {o o' : Ow} {l : List D} {k : D → Prop} (z : l.all (shp 39) = true) (h : k (.bl l.isEmpty)) : eqD (.lst o l) (.lst o' []) k := by
  refine ⟨?_, ?_⟩
  · show (scl (.lst o l) (.lst o' []) || (l.all (shp 39) && true)) = true
    rw [z]
    simp
  · have e : deq (.lst o l) (.lst o' []) = l.isEmpty := by cases l <;> rfl
    rw [e]
    exact h
theorem ne_nil {o o' : Ow} {l : List D} {k : D → Prop} (z : l.all (shp 39) = true) (h : k (.bl (!l.isEmpty))) : neD (.lst o l) (.lst o' []) k := eq_nil (k := fun d => match d with | .bl b => k (.bl !b) | _ => False) (o := o) (o' := o') z h |> fun q => ⟨q.1, by
  have e : deq (.lst o l) (.lst o' []) = l.isEmpty := by cases l <;> rfl
  rw [e]
  exact h⟩
theorem in_l {x : D} {o : Ow} {l : List D} {k : D → Prop} (z : (flat x && l.all flat) = true) (h : k (.bl (inL x l))) : inD x (.lst o l) k := by cases x <;> first | exact ⟨z, h⟩ | (exfalso; simp [flat] at z)
theorem nin_l {x : D} {o : Ow} {l : List D} {k : D → Prop} (z : (flat x && l.all flat) = true) (h : k (.bl (!inL x l))) : ninD x (.lst o l) k := in_l (k := fun d => match d with | .bl b => k (.bl !b) | _ => False) z h
theorem flat_bls (bs : List Bool) : (flat (.bl false) && (bs.map D.bl).all flat) = true := by
  show (true && (bs.map D.bl).all flat) = true
  rw [Bool.true_and, List.all_eq_true]
  intro d hd
  obtain ⟨b, _, rfl⟩ := List.mem_map.mp hd
  rfl
theorem inL_bls (bs : List Bool) : inL (.bl false) (bs.map D.bl) = !bs.all id := by
  induction bs with
  | nil => rfl
  | cons b bs ih =>
    have e : inL (.bl false) ((b :: bs).map D.bl) = ((b == false) || inL (.bl false) (bs.map D.bl)) := rfl
    rw [e, ih, List.all_cons]
    cases b <;> simp
theorem repl_s {x y z : Str} {k : D → Prop} (hz : x.length + (x.length + 1) * z.length ≤ 16777216) (h : k (.str (Txt.replace x y z))) : replD y z (.str x) k := ⟨hz, h⟩
theorem pop_at {l : List D} {i : Int} {x : D} {k : D → List D → Prop} (z : 0 ≤ i ∧ i < 16777216) (e : l[i.toNat]? = some x) (h : k x (l.eraseIdx i.toNat)) : popM l [.int i] k := ⟨z, un_i e h⟩
theorem insert_at {l : List D} {i : Int} {x : D} {k : D → List D → Prop} (z : 0 ≤ i ∧ i < 16777216) (z2 : l.length < 16777216) (h : k .non (l.take i.toNat ++ [x] ++ l.drop i.toNat)) : insertM l [.int i, x] k := ⟨z, z2, h⟩
theorem ixN_ok {n : Nat} {i : Int} (h : 0 ≤ i) (h2 : i < n) : ixN n i = some i.toNat := by
  unfold ixN
  rw [if_pos h, if_pos h2]
theorem dl_yes {p : Bool} {A B : Prop} (e : p = true) (h : A) : if p = true then A else B := by rw [if_pos e]; exact h
theorem dl_not {p : Bool} {A B : Prop} (e : p = false) (h : B) : if p = true then A else B := by rw [if_neg (by rw [e]; exact Bool.false_ne_true)]; exact h
/-- the names as they are, written out -/
theorem stmt_i {t : TSX} {Ex : DX} {De : DE} {Γ : DEnv} (Γ' : DEnv) (e : Γ = Γ') (h : t Ex De Γ') : t Ex De Γ := by rw [e]; exact h
section
variable {as : List AD} {ds : List D} {o : Option D} {os : List (Option D)} {Γ : DEnv} {i : Nat} {d : D} {l : List D} {gv : List (Nat × D)} {vs : List Nat}
theorem nr_b0 : back [] ds os Γ = Γ := rfl
theorem nr_bv {x : D} : back (.v x :: as) (d :: ds) (o :: os) Γ = back as ds os Γ := rfl
theorem nr_bo : back (.s i :: as) (.lst .o l :: ds) (o :: os) Γ = back as ds os (Γ.set i o) := rfl
theorem nr_bf : back (.s i :: as) (.lst .f l :: ds) (o :: os) Γ = back as ds os Γ := rfl
theorem nr_bk : back (.s i :: as) (.lst .k l :: ds) (o :: os) Γ = back as ds os Γ := rfl
theorem nr_bt : back (.s i :: as) (.tup l :: ds) (o :: os) Γ = back as ds os Γ := rfl
theorem nr_bs {x : Str} : back (.s i :: as) (.str x :: ds) (o :: os) Γ = back as ds os Γ := rfl
theorem nr_bi {x : Int} : back (.s i :: as) (.int x :: ds) (o :: os) Γ = back as ds os Γ := rfl
theorem nr_bb {x : Bool} : back (.s i :: as) (.bl x :: ds) (o :: os) Γ = back as ds os Γ := rfl
theorem nr_bc {x : Addr} : back (.s i :: as) (.ob x :: ds) (o :: os) Γ = back as ds os Γ := rfl
theorem nr_bn : back (.s i :: as) (.non :: ds) (o :: os) Γ = back as ds os Γ := rfl
theorem nr_g0 : giv [] Γ = Γ := rfl
theorem nr_g1 : giv ((i, d) :: gv) Γ = giv gv (Γ.set i (some d)) := rfl
theorem nr_w0 : wipeD Γ [] = Γ := rfl
theorem nr_w1 : wipeD Γ (i :: vs) = (wipeD Γ vs).set i none := rfl
theorem nr_fz : (D.lst .o l).frz = .lst .f l := rfl
end
end DL

namespace K81
open PySem PySem.Spec PyProof.Rows L2 DL
def top (i : Nat) : Stmt := PySem.Challenge.pw_doublerings_k81_steps_read.main.body.getD i (.Pass ⟨0, 0, 0, 0⟩)
structure Ad where
 (SwapError NoBook NoPage NoName NoHouse NotWanted Taken TooMany Clash NoRow Unfit NoText is_word need read_steps _law_draw _law_pick _law_words _law_like _law_refused _law_is_word _law_read _law_bent law : Addr)
structure Tx (P : Program) (w : World) (K : PySem.W.Frag) (mg : Str → Option Value) (base : Heap) (a : Ad) : Prop where
 m_SwapError : mg "SwapError" = some (.ref a.SwapError)
 m_NoBook : mg "NoBook" = some (.ref a.NoBook)
 m_NoPage : mg "NoPage" = some (.ref a.NoPage)
 m_NoName : mg "NoName" = some (.ref a.NoName)
 m_NoHouse : mg "NoHouse" = some (.ref a.NoHouse)
 m_NotWanted : mg "NotWanted" = some (.ref a.NotWanted)
 m_Taken : mg "Taken" = some (.ref a.Taken)
 m_TooMany : mg "TooMany" = some (.ref a.TooMany)
 m_Clash : mg "Clash" = some (.ref a.Clash)
 m_NoRow : mg "NoRow" = some (.ref a.NoRow)
 m_Unfit : mg "Unfit" = some (.ref a.Unfit)
 m_NoText : mg "NoText" = some (.ref a.NoText)
 m_is_word : mg "is_word" = some (.ref a.is_word)
 m_need : mg "need" = some (.ref a.need)
 m_read_steps : mg "read_steps" = some (.ref a.read_steps)
 m__law_draw : mg "_law_draw" = some (.ref a._law_draw)
 m__law_pick : mg "_law_pick" = some (.ref a._law_pick)
 m__law_words : mg "_law_words" = some (.ref a._law_words)
 m__law_like : mg "_law_like" = some (.ref a._law_like)
 m__law_refused : mg "_law_refused" = some (.ref a._law_refused)
 m__law_is_word : mg "_law_is_word" = some (.ref a._law_is_word)
 m__law_read : mg "_law_read" = some (.ref a._law_read)
 m__law_bent : mg "_law_bent" = some (.ref a._law_bent)
 m_LETTERS : ∃ t, mg "LETTERS" = some (.str "abcdefghijklmnopqrstuvwxyz" t)
 m_LONGEST_WORD : ∃ t, mg "LONGEST_WORD" = some (.int 8 t)
 n_ValueError : mg "ValueError" = none
 n_abs : mg "abs" = none
 n_all : mg "all" = none
 n_bool : mg "bool" = none
 n_int : mg "int" = none
 n_isinstance : mg "isinstance" = none
 n_len : mg "len" = none
 n_list : mg "list" = none
 n_range : mg "range" = none
 n_str : mg "str" = none
 n_tuple : mg "tuple" = none
 n_zip : mg "zip" = none
 x_NoText : ExI P w K mg base a.NoText "line"
theorem bt_ValueError : bootBuiltins "ValueError" = some (.type "ValueError") := by decide +kernel
theorem bt_abs : bootBuiltins "abs" = some (.builtin "abs") := by decide +kernel
theorem bt_all : bootBuiltins "all" = some (.builtin "all") := by decide +kernel
theorem bt_bool : bootBuiltins "bool" = some (.type "bool") := by decide +kernel
theorem bt_int : bootBuiltins "int" = some (.type "int") := by decide +kernel
theorem bt_isinstance : bootBuiltins "isinstance" = some (.builtin "isinstance") := by decide +kernel
theorem bt_len : bootBuiltins "len" = some (.builtin "len") := by decide +kernel
theorem bt_list : bootBuiltins "list" = some (.type "list") := by decide +kernel
theorem bt_str : bootBuiltins "str" = some (.type "str") := by decide +kernel
theorem bt_tuple : bootBuiltins "tuple" = some (.type "tuple") := by decide +kernel
abbrev s_is_word : Stmt := top 16
theorem sc_is_word : FnScope ["thing", "sign"] ["thing"] (defScope s_is_word) := ⟨rfl, rfl, rfl, by decide +kernel, rfl, by decide +kernel, by decide +kernel⟩
def kp_is_word : Nat → Bool := fun i => i == 0
def t_is_word (K : PySem.W.Frag) (a : Ad) : TSX :=
 (dSeq (dIf (dOr (dNot (dTru (dB (f2' (isiD K)) (dCons (dN 0) (dCons (dC (.ty "str")) dNil))))) (dNot (dBl (dChain leD leD (dC (.int 1)) (dB (f1 lenD) (dCons (dN 0) dNil)) (dC (.int 8))))))
 (dRet (dC (.bl false)))
 dNext)
 (dRet (dB (f1 allD) (dCons (dLc (sL 0) (gN 1) dYes (dBin inD (dN 1) (dC (.str "abcdefghijklmnopqrstuvwxyz"))) [1]) dNil))))
theorem bd_is_word {P : Program} {w : World} {K : PySem.W.Frag} {mg : Str → Option Value} {base : Heap} {a : Ad} {f : Addr} {kk : Nat} (T : Tx P w K mg base a) (cdv : Value) (A : Around) (outer : List Env) (s : Shared) (H : Hp) (E : XK) (F0 H0 : Hp) (fp0 : ASet) (kv : Nat → Option V) (hr : Room 0 (A.deeper (envOfC "is_word" (defScope s_is_word) s.heap.objs.size f cdv))) :
  PSs' (cxD P w K mg base ["thing", "sign"] "is_word" s_is_word f cdv A outer s H E) (EC.at K kp_is_word F0 H0 fp0 kv) (defBody s_is_word) (t_is_word K a) :=
 (pss'_cons (ps'_if (PW'.pb (pw_o (pb_not (pb_tru (px_callB (cd_isi) (pxs_cons (px_n 0) (pxs_cons (px_bltn T.n_str bt_str) pxs_nil)) T.n_isinstance bt_isinstance))) (pw_o1 (pb_not (pb_chain od_le od_le px_int (px_callB (cd_len) (pxs_cons (px_n 0) pxs_nil) T.n_len bt_len) (px_globI T.m_LONGEST_WORD))))))
 (pss'_one (ps'_ret px_bl))
 pss'_nil)
 (pss'_one (ps'_ret (px_callB (cd_all) (pxs_cons (px_lc [("sign", 1)] (pi_l 0) (fun _ _ _ _ _ => (pgx_name 1 (hN := sc_is_word.nd))) (fun _ _ _ _ _ => pbs_nil) (fun _ _ _ _ _ => (px_cmp (od_in) (px_n 1) (px_globS T.m_LETTERS) (by rfl))) rfl (hN := sc_is_word.nd)) pxs_nil) T.n_all bt_all))))
abbrev s_need : Stmt := top 18
theorem sc_need : FnScope ["truth"] ["truth"] (defScope s_need) := ⟨rfl, rfl, rfl, by decide +kernel, rfl, by decide +kernel, by decide +kernel⟩
def kp_need : Nat → Bool := fun i => i == 0
def t_need (K : PySem.W.Frag) (a : Ad) : TSX :=
 (dIf (dNot (dTru (dN 0)))
 (dRaiseI a.NoText "line" (dCons (dC (.int 0)) dNil))
 dNext)
theorem bd_need {P : Program} {w : World} {K : PySem.W.Frag} {mg : Str → Option Value} {base : Heap} {a : Ad} {f : Addr} {kk : Nat} (T : Tx P w K mg base a) (cdv : Value) (A : Around) (outer : List Env) (s : Shared) (H : Hp) (E : XK) (F0 H0 : Hp) (fp0 : ASet) (kv : Nat → Option V) (hr : Room 2 (A.deeper (envOfC "need" (defScope s_need) s.heap.objs.size f cdv))) :
  PSs' (cxD P w K mg base ["truth"] "need" s_need f cdv A outer s H E) (EC.at K kp_need F0 H0 fp0 kv) (defBody s_need) (t_need K a) :=
 (pss'_one (ps'_if (pb_not (pb_tru (px_n 0)))
 (pss'_one (ps'_raiseI T.x_NoText T.m_NoText (hr.mono (by decide)) (pxs_cons px_int pxs_nil) rfl))
 pss'_nil))
abbrev s_read_steps : Stmt := top 19
theorem sc_read_steps : FnScope ["text", "found", "part", "step", "word"] ["text"] (defScope s_read_steps) := ⟨rfl, rfl, rfl, by decide +kernel, rfl, by decide +kernel, by decide +kernel⟩
def kp_read_steps : Nat → Bool := fun i => i == 0
def t_read_steps (K : PySem.W.Frag) (a : Ad) (sp_is_word : SpD) (sp_need : SpD) : TSX :=
 (dSeq (dDrop (dCall sp_need (dCons (dB (f2' (isiD K)) (dCons (dN 0) (dCons (dC (.ty "str")) dNil))) dNil)))
 (dSeq (dSet 1 (dLst dNil))
 (dSeq (dFor [] (sV (dM "str" (m1 splitD) (dN 0) (dCons (dC (.str ",")) dNil))) (gN 2) (dSeq (dSet 3 (dB (f1 tupleD) (dCons (dM "str" (m1 splitD) (dN 2) (dCons (dC (.str " ")) dNil)) dNil)))
 (dSeq (dDrop (dCall sp_need (dCons (dAndV (dBin eqD (dB (f1 lenD) (dCons (dN 3) dNil)) (dC (.int 3))) (dB (f1 allD) (dCons (dLc (sL 3) (gN 4) dYes (dCall sp_is_word (dCons (dN 4) dNil)) [4]) dNil))) dNil)))
 (dDrop (dMut appendM 1 (dCons (dN 3) dNil))))))
 (dRet (dN 1)))))
theorem bd_read_steps {P : Program} {w : World} {K : PySem.W.Frag} {mg : Str → Option Value} {base : Heap} {a : Ad} {f : Addr} {kk : Nat} (T : Tx P w K mg base a) {sp_is_word : SpD} (D_is_word : Dn P w K mg base a.is_word 1 sp_is_word) {sp_need : SpD} (D_need : Dn P w K mg base a.need 3 sp_need) (cdv : Value) (A : Around) (outer : List Env) (s : Shared) (H : Hp) (E : XK) (F0 H0 : Hp) (fp0 : ASet) (kv : Nat → Option V) (hr : Room 3 (A.deeper (envOfC "read_steps" (defScope s_read_steps) s.heap.objs.size f cdv))) :
  PSs' (cxD P w K mg base ["text", "found", "part", "step", "word"] "read_steps" s_read_steps f cdv A outer s H E) (EC.at K kp_read_steps F0 H0 fp0 kv) (defBody s_read_steps) (t_read_steps K a sp_is_word sp_need) :=
 (pss'_cons (ps'_expr (px_call D_need T.m_need (hr.mono (by decide)) (pxs_cons (px_callB (cd_isi) (pxs_cons (px_n 0) (pxs_cons (px_bltn T.n_str bt_str) pxs_nil)) T.n_isinstance bt_isinstance) pxs_nil)))
 (pss'_cons (ps'_set 1 (px_lst pxs_nil) (hN := sc_read_steps.nd))
 (pss'_cons (ps'_for [] (passes_of rfl) (pi_v (px_m PySem.F.plainAttrs_str PySem.F.slot_str_split PySem.F.type_str_split md_split (px_n 0) (pxs_cons px_str pxs_nil))) (fun _ _ _ _ => (pgx_name 2 (hN := sc_read_steps.nd))) (fun _ _ _ _ => (pss'_cons (ps'_set 3 (px_callT (cd_tuple) (pxs_cons (px_m PySem.F.plainAttrs_str PySem.F.slot_str_split PySem.F.type_str_split md_split (px_n 2) (pxs_cons px_str pxs_nil)) pxs_nil) T.n_tuple bt_tuple) (hN := sc_read_steps.nd))
 (pss'_cons (ps'_expr (px_call D_need T.m_need (hr.mono (by decide)) (pxs_cons (px_and (px_cmp (od_eq hr.units) (px_callB (cd_len) (pxs_cons (px_n 3) pxs_nil) T.n_len bt_len) px_int (by rfl)) (px_one (px_callB (cd_all) (pxs_cons (px_lc [("word", 4)] (pi_l 3) (fun _ _ _ _ _ => (pgx_name 4 (hN := sc_read_steps.nd))) (fun _ _ _ _ _ => pbs_nil) (fun _ _ _ _ _ => (px_call D_is_word T.m_is_word (hr.mono (by decide)) (pxs_cons (px_n 4) pxs_nil))) rfl (hN := sc_read_steps.nd)) pxs_nil) T.n_all bt_all))) pxs_nil)))
 (pss'_one (ps'_expr (px_mut 1 PySem.F.slot_list_append PySem.F.type_list_append (mu_append) (pxs_cons (px_n 3) pxs_nil))))))) rfl)
 (pss'_one (ps'_ret (px_n 1))))))
abbrev s__law_draw : Stmt := top 21
theorem sc__law_draw : FnScope ["_law_pen", "_law_many", "_law_drawn", "_law_at", "_law_cell", "_law_number"] ["_law_pen", "_law_many"] (defScope s__law_draw) := ⟨rfl, rfl, rfl, by decide +kernel, rfl, by decide +kernel, by decide +kernel⟩
def kp__law_draw : Nat → Bool := fun i => i == 0 || i == 1
def t__law_draw (K : PySem.W.Frag) (a : Ad) : TSX :=
 (dSeq (dIf (dBl (dBin gtD (dBin ixD (dN 0) (dC (.int 2))) (dC (.int 0))))
 (dSeq (dSet 2 (dBin modD (dBin ixD (dN 0) (dC (.int 2))) (dN 1)))
 (dSeq (dAsg (dBin fdivD (dBin ixD (dN 0) (dC (.int 2))) (dN 1)) (gIx 0 (dC (.int 2))))
 (dRet (dN 2))))
 dNext)
 (dSeq (dSet 3 (dBin ixD (dN 0) (dC (.int 1))))
 (dSeq (dAsg (dBin addD (dN 3) (dC (.int 1))) (gIx 0 (dC (.int 1))))
 (dSeq (dSet 4 (dC (.int 0)))
 (dSeq (dIf (dBl (dBin gtD (dB (f1 lenD) (dCons (dBin ixD (dN 0) (dC (.int 0))) dNil)) (dC (.int 0))))
 (dSet 4 (dBin ixD (dBin ixD (dN 0) (dC (.int 0))) (dBin modD (dN 3) (dB (f1 lenD) (dCons (dBin ixD (dN 0) (dC (.int 0))) dNil)))))
 dNext)
 (dSeq (dIf (dAnd (dBl (dBin ltD (dN 3) (dB (f1 lenD) (dCons (dBin ixD (dN 0) (dC (.int 0))) dNil)))) (dBl (dBin geD (dB (f1 absD) (dCons (dN 4) dNil)) (dBin powD (dC (.int 10)) (dC (.int 18))))))
 (dSeq (dAsg (dBin fdivD (dB (f1 absD) (dCons (dN 4) dNil)) (dN 1)) (gIx 0 (dC (.int 2))))
 (dRet (dBin modD (dB (f1 absD) (dCons (dN 4) dNil)) (dN 1))))
 dNext)
 (dSeq (dSet 5 (dBin modD (dBin addD (dBin addD (dBin modD (dN 4) (dC (.int 2147483629))) (dBin mulD (dC (.int 48611)) (dN 3))) (dC (.int 19))) (dC (.int 2147483587))))
 (dSeq (dSet 5 (dBin modD (dBin addD (dBin addD (dBin mulD (dN 5) (dN 5)) (dBin mulD (dC (.int 71327)) (dN 3))) (dC (.int 11))) (dC (.int 2147483563))))
 (dSeq (dSet 5 (dBin modD (dBin addD (dBin addD (dBin mulD (dN 5) (dN 5)) (dBin mulD (dC (.int 43)) (dN 5))) (dN 3)) (dC (.int 2147483549))))
 (dRet (dBin modD (dBin fdivD (dN 5) (dC (.int 32))) (dN 1))))))))))))
theorem bd__law_draw {P : Program} {w : World} {K : PySem.W.Frag} {mg : Str → Option Value} {base : Heap} {a : Ad} {f : Addr} {kk : Nat} (T : Tx P w K mg base a) (cdv : Value) (A : Around) (outer : List Env) (s : Shared) (H : Hp) (E : XK) (F0 H0 : Hp) (fp0 : ASet) (kv : Nat → Option V) (hr : Room 0 (A.deeper (envOfC "_law_draw" (defScope s__law_draw) s.heap.objs.size f cdv))) :
  PSs' (cxD P w K mg base ["_law_pen", "_law_many", "_law_drawn", "_law_at", "_law_cell", "_law_number"] "_law_draw" s__law_draw f cdv A outer s H E) (EC.at K kp__law_draw F0 H0 fp0 kv) (defBody s__law_draw) (t__law_draw K a) :=
 (pss'_cons (ps'_if (pb_cmp od_gt (px_ix (px_n 0) px_int) px_int (by rfl))
 (pss'_cons (ps'_set 2 (px_bin od_mod (px_ix (px_n 0) px_int) (px_n 1)) (hN := sc__law_draw.nd))
 (pss'_cons (ps'_asg (px_bin od_fdiv (px_ix (px_n 0) px_int) (px_n 1)) (pgx_ix 0 px_int))
 (pss'_one (ps'_ret (px_n 2)))))
 pss'_nil)
 (pss'_cons (ps'_set 3 (px_ix (px_n 0) px_int) (hN := sc__law_draw.nd))
 (pss'_cons (ps'_asg (px_bin (od_add) (px_n 3) px_int) (pgx_ix 0 px_int))
 (pss'_cons (ps'_set 4 px_int (hN := sc__law_draw.nd))
 (pss'_cons (ps'_if (pb_cmp od_gt (px_callB (cd_len) (pxs_cons (px_ix (px_n 0) px_int) pxs_nil) T.n_len bt_len) px_int (by rfl))
 (pss'_one (ps'_set 4 (px_ix (px_ix (px_n 0) px_int) (px_bin od_mod (px_n 3) (px_callB (cd_len) (pxs_cons (px_ix (px_n 0) px_int) pxs_nil) T.n_len bt_len))) (hN := sc__law_draw.nd)))
 pss'_nil)
 (pss'_cons (ps'_if (PW'.pb (pw_a (pb_cmp od_lt (px_n 3) (px_callB (cd_len) (pxs_cons (px_ix (px_n 0) px_int) pxs_nil) T.n_len bt_len) (by rfl)) (pw_a1 (pb_cmp od_ge (px_callB (cd_abs) (pxs_cons (px_n 4) pxs_nil) T.n_abs bt_abs) (px_bin od_pow px_int px_int) (by rfl)))))
 (pss'_cons (ps'_asg (px_bin od_fdiv (px_callB (cd_abs) (pxs_cons (px_n 4) pxs_nil) T.n_abs bt_abs) (px_n 1)) (pgx_ix 0 px_int))
 (pss'_one (ps'_ret (px_bin od_mod (px_callB (cd_abs) (pxs_cons (px_n 4) pxs_nil) T.n_abs bt_abs) (px_n 1)))))
 pss'_nil)
 (pss'_cons (ps'_set 5 (px_bin od_mod (px_bin (od_add) (px_bin (od_add) (px_bin od_mod (px_n 4) px_int) (px_bin od_mul px_int (px_n 3))) px_int) px_int) (hN := sc__law_draw.nd))
 (pss'_cons (ps'_set 5 (px_bin od_mod (px_bin (od_add) (px_bin (od_add) (px_bin od_mul (px_n 5) (px_n 5)) (px_bin od_mul px_int (px_n 3))) px_int) px_int) (hN := sc__law_draw.nd))
 (pss'_cons (ps'_set 5 (px_bin od_mod (px_bin (od_add) (px_bin (od_add) (px_bin od_mul (px_n 5) (px_n 5)) (px_bin od_mul px_int (px_n 5))) (px_n 3)) px_int) (hN := sc__law_draw.nd))
 (pss'_one (ps'_ret (px_bin od_mod (px_bin od_fdiv (px_n 5) px_int) (px_n 1)))))))))))))
abbrev s__law_pick : Stmt := top 22
theorem sc__law_pick : FnScope ["_law_pen", "_law_some"] ["_law_pen", "_law_some"] (defScope s__law_pick) := ⟨rfl, rfl, rfl, by decide +kernel, rfl, by decide +kernel, by decide +kernel⟩
def kp__law_pick : Nat → Bool := fun i => i == 0 || i == 1
def t__law_pick (K : PySem.W.Frag) (a : Ad) (sp__law_draw : SpD) : TSX :=
 (dRet (dBin ixD (dN 1) (dCall sp__law_draw (dCons (dN 0) (dCons (dB (f1 lenD) (dCons (dN 1) dNil)) dNil)))))
theorem bd__law_pick {P : Program} {w : World} {K : PySem.W.Frag} {mg : Str → Option Value} {base : Heap} {a : Ad} {f : Addr} {kk : Nat} (T : Tx P w K mg base a) {sp__law_draw : SpD} (D__law_draw : Dn P w K mg base a._law_draw 1 sp__law_draw) (cdv : Value) (A : Around) (outer : List Env) (s : Shared) (H : Hp) (E : XK) (F0 H0 : Hp) (fp0 : ASet) (kv : Nat → Option V) (hr : Room 1 (A.deeper (envOfC "_law_pick" (defScope s__law_pick) s.heap.objs.size f cdv))) :
  PSs' (cxD P w K mg base ["_law_pen", "_law_some"] "_law_pick" s__law_pick f cdv A outer s H E) (EC.at K kp__law_pick F0 H0 fp0 kv) (defBody s__law_pick) (t__law_pick K a sp__law_draw) :=
 (pss'_one (ps'_ret (px_ix (px_n 1) (px_call D__law_draw T.m__law_draw (hr.mono (by decide)) (pxs_cons (px_n 0) (pxs_cons (px_callB (cd_len) (pxs_cons (px_n 1) pxs_nil) T.n_len bt_len) pxs_nil))))))
abbrev s__law_words : Stmt := top 23
theorem sc__law_words : FnScope ["_law_pen", "_law_many", "_law_letters", "_law_base", "_law_spot", "_law_first", "_law_leap", "_law_found", "_law_k", "_law_tail"] ["_law_pen", "_law_many"] (defScope s__law_words) := ⟨rfl, rfl, rfl, by decide +kernel, rfl, by decide +kernel, by decide +kernel⟩
def kp__law_words : Nat → Bool := fun i => i == 0 || i == 1
def t__law_words (K : PySem.W.Frag) (a : Ad) (sp__law_draw : SpD) (sp__law_pick : SpD) : TSX :=
 (dSeq (dSet 2 (dC (.str "abcdefghijklmnopqrstuvwxyz")))
 (dSeq (dSet 3 (dM "str" (m1 joinD) (dC (.str "")) (dCons (dLc (sR1 (dCons (dCall sp__law_draw (dCons (dN 0) (dCons (dC (.int 8)) dNil))) dNil)) (gN 8) dYes (dCall sp__law_pick (dCons (dN 0) (dCons (dN 2) dNil))) [8]) dNil)))
 (dSeq (dSet 4 (dCall sp__law_draw (dCons (dN 0) (dCons (dBin addD (dB (f1 lenD) (dCons (dN 3) dNil)) (dC (.int 1))) dNil))))
 (dSeq (dSet 5 (dCall sp__law_draw (dCons (dN 0) (dCons (dC (.int 26)) dNil))))
 (dSeq (dSet 6 (dCall sp__law_pick (dCons (dN 0) (dCons (dLst (dCons (dC (.int 1)) (dCons (dC (.int 3)) (dCons (dC (.int 5)) (dCons (dC (.int 7)) (dCons (dC (.int 9)) (dCons (dC (.int 11)) dNil))))))) dNil))))
 (dSeq (dSet 7 (dLst dNil))
 (dSeq (dFor [] (sR1 (dCons (dN 1) dNil)) (gN 8) (dSeq (dSet 9 (dSl (dSl (dN 3) (dPs (dN 4)) dPn) dPn (dPs (dCall sp__law_draw (dCons (dN 0) (dCons (dBin addD (dBin subD (dB (f1 lenD) (dCons (dN 3) dNil)) (dN 4)) (dC (.int 1))) dNil))))))
 (dDrop (dMut appendM 7 (dCons (dBin addD (dBin addD (dSl (dN 3) dPn (dPs (dN 4))) (dBin ixD (dN 2) (dBin modD (dBin addD (dN 5) (dBin mulD (dN 6) (dN 8))) (dC (.int 26))))) (dN 9)) dNil)))))
 (dRet (dN 7)))))))))
theorem bd__law_words {P : Program} {w : World} {K : PySem.W.Frag} {mg : Str → Option Value} {base : Heap} {a : Ad} {f : Addr} {kk : Nat} (T : Tx P w K mg base a) {sp__law_draw : SpD} (D__law_draw : Dn P w K mg base a._law_draw 1 sp__law_draw) {sp__law_pick : SpD} (D__law_pick : Dn P w K mg base a._law_pick 2 sp__law_pick) (cdv : Value) (A : Around) (outer : List Env) (s : Shared) (H : Hp) (E : XK) (F0 H0 : Hp) (fp0 : ASet) (kv : Nat → Option V) (hr : Room 2 (A.deeper (envOfC "_law_words" (defScope s__law_words) s.heap.objs.size f cdv))) :
  PSs' (cxD P w K mg base ["_law_pen", "_law_many", "_law_letters", "_law_base", "_law_spot", "_law_first", "_law_leap", "_law_found", "_law_k", "_law_tail"] "_law_words" s__law_words f cdv A outer s H E) (EC.at K kp__law_words F0 H0 fp0 kv) (defBody s__law_words) (t__law_words K a sp__law_draw sp__law_pick) :=
 (pss'_cons (ps'_set 2 px_str (hN := sc__law_words.nd))
 (pss'_cons (ps'_set 3 (px_m PySem.F.plainAttrs_str PySem.F.slot_str_join PySem.F.type_str_join (md_join) px_str (pxs_cons (px_lc [("_law_k", 8)] (pi_r1 (pxs_cons (px_call D__law_draw T.m__law_draw (hr.mono (by decide)) (pxs_cons (px_n 0) (pxs_cons px_int pxs_nil))) pxs_nil) T.n_range) (fun _ _ _ _ _ => (pgx_name 8 (hN := sc__law_words.nd))) (fun _ _ _ _ _ => pbs_nil) (fun _ _ _ _ _ => (px_call D__law_pick T.m__law_pick (hr.mono (by decide)) (pxs_cons (px_n 0) (pxs_cons (px_n 2) pxs_nil)))) rfl (hN := sc__law_words.nd)) pxs_nil)) (hN := sc__law_words.nd))
 (pss'_cons (ps'_set 4 (px_call D__law_draw T.m__law_draw (hr.mono (by decide)) (pxs_cons (px_n 0) (pxs_cons (px_bin (od_add) (px_callB (cd_len) (pxs_cons (px_n 3) pxs_nil) T.n_len bt_len) px_int) pxs_nil))) (hN := sc__law_words.nd))
 (pss'_cons (ps'_set 5 (px_call D__law_draw T.m__law_draw (hr.mono (by decide)) (pxs_cons (px_n 0) (pxs_cons px_int pxs_nil))) (hN := sc__law_words.nd))
 (pss'_cons (ps'_set 6 (px_call D__law_pick T.m__law_pick (hr.mono (by decide)) (pxs_cons (px_n 0) (pxs_cons (px_lst (pxs_cons px_int (pxs_cons px_int (pxs_cons px_int (pxs_cons px_int (pxs_cons px_int (pxs_cons px_int pxs_nil))))))) pxs_nil))) (hN := sc__law_words.nd))
 (pss'_cons (ps'_set 7 (px_lst pxs_nil) (hN := sc__law_words.nd))
 (pss'_cons (ps'_for [] (passes_of rfl) (pi_r1 (pxs_cons (px_n 1) pxs_nil) T.n_range) (fun _ _ _ _ => (pgx_name 8 (hN := sc__law_words.nd))) (fun _ _ _ _ => (pss'_cons (ps'_set 9 (px_sl (px_sl (px_n 3) (pp_s (px_n 4)) pp_n) pp_n (pp_s (px_call D__law_draw T.m__law_draw (hr.mono (by decide)) (pxs_cons (px_n 0) (pxs_cons (px_bin (od_add) (px_bin od_sub (px_callB (cd_len) (pxs_cons (px_n 3) pxs_nil) T.n_len bt_len) (px_n 4)) px_int) pxs_nil))))) (hN := sc__law_words.nd))
 (pss'_one (ps'_expr (px_mut 7 PySem.F.slot_list_append PySem.F.type_list_append (mu_append) (pxs_cons (px_bin (od_add) (px_bin (od_add) (px_sl (px_n 3) pp_n (pp_s (px_n 4))) (px_ix (px_n 2) (px_bin od_mod (px_bin (od_add) (px_n 5) (px_bin od_mul (px_n 6) (px_n 8))) px_int))) (px_n 9)) pxs_nil)))))) rfl)
 (pss'_one (ps'_ret (px_n 7))))))))))
abbrev s__law_like : Stmt := top 24
theorem sc__law_like : FnScope ["_law_found", "_law_due", "_law_one", "_law_other"] ["_law_found", "_law_due"] (defScope s__law_like) := ⟨rfl, rfl, rfl, by decide +kernel, rfl, by decide +kernel, by decide +kernel⟩
def kp__law_like : Nat → Bool := fun i => i == 0 || i == 1
def t__law_like (K : PySem.W.Frag) (a : Ad) (sp__law_like : SpD) : TSX :=
 (dSeq (dIf (dTru (dB (f2' (isiD K)) (dCons (dN 1) (dCons (dTup (dCons (dC (.ty "tuple")) (dCons (dC (.ty "list")) dNil))) dNil))))
 (dSeq (dIf (dOr (dBl (dBin neD (dB (f2' (isiD K)) (dCons (dN 0) (dCons (dC (.ty "list")) dNil))) (dB (f2' (isiD K)) (dCons (dN 1) (dCons (dC (.ty "list")) dNil))))) (dNot (dTru (dB (f2' (isiD K)) (dCons (dN 0) (dCons (dTup (dCons (dC (.ty "tuple")) (dCons (dC (.ty "list")) dNil))) dNil))))))
 (dRet (dC (.bl false)))
 dNext)
 (dSeq (dIf (dBl (dBin neD (dB (f1 lenD) (dCons (dN 0) dNil)) (dB (f1 lenD) (dCons (dN 1) dNil))))
 (dRet (dC (.bl false)))
 dNext)
 (dRet (dBin ninD (dC (.bl false)) (dLc (sZipL 0 1) (gT 2 (gC (gN 2) (gC (gN 3) gZ))) dYes (dCall sp__law_like (dCons (dN 2) (dCons (dN 3) dNil))) [2, 3])))))
 dNext)
 (dSeq (dIf (dOr (dBl (dBin isnD (dN 1) (dC .non))) (dBl (dBin isnD (dN 0) (dC .non))))
 (dRet (dAndV (dBin isnD (dN 0) (dC .non)) (dBin isnD (dN 1) (dC .non))))
 dNext)
 (dSeq (dIf (dOr (dTru (dB (f2' (isiD K)) (dCons (dN 1) (dCons (dC (.ty "bool")) dNil)))) (dTru (dB (f2' (isiD K)) (dCons (dN 0) (dCons (dC (.ty "bool")) dNil)))))
 (dRet (dAndV (dB (f2' (isiD K)) (dCons (dN 1) (dCons (dC (.ty "bool")) dNil))) (dAndV (dB (f2' (isiD K)) (dCons (dN 0) (dCons (dC (.ty "bool")) dNil))) (dBin eqD (dN 0) (dN 1)))))
 dNext)
 (dRet (dAndV (dB (f2' (isiD K)) (dCons (dN 0) (dCons (dTup (dCons (dC (.ty "int")) (dCons (dC (.ty "str")) dNil))) dNil))) (dBin eqD (dN 0) (dN 1)))))))
theorem bd__law_like {P : Program} {w : World} {K : PySem.W.Frag} {mg : Str → Option Value} {base : Heap} {a : Ad} {f : Addr} {kk : Nat} (T : Tx P w K mg base a) {sp__law_like : SpD} (D__law_like : Dn P w K mg base a._law_like kk sp__law_like) (cdv : Value) (A : Around) (outer : List Env) (s : Shared) (H : Hp) (E : XK) (F0 H0 : Hp) (fp0 : ASet) (kv : Nat → Option V) (hkk : 0 ≤ kk) (hr : Room kk (A.deeper (envOfC "_law_like" (defScope s__law_like) s.heap.objs.size f cdv))) :
  PSs' (cxD P w K mg base ["_law_found", "_law_due", "_law_one", "_law_other"] "_law_like" s__law_like f cdv A outer s H E) (EC.at K kp__law_like F0 H0 fp0 kv) (defBody s__law_like) (t__law_like K a sp__law_like) :=
 (pss'_cons (ps'_if (pb_tru (px_callB (cd_isi) (pxs_cons (px_n 1) (pxs_cons (px_tup (pxs_cons (px_bltn T.n_tuple bt_tuple) (pxs_cons (px_bltn T.n_list bt_list) pxs_nil))) pxs_nil)) T.n_isinstance bt_isinstance))
 (pss'_cons (ps'_if (PW'.pb (pw_o (pb_cmp (od_ne hr.units) (px_callB (cd_isi) (pxs_cons (px_n 0) (pxs_cons (px_bltn T.n_list bt_list) pxs_nil)) T.n_isinstance bt_isinstance) (px_callB (cd_isi) (pxs_cons (px_n 1) (pxs_cons (px_bltn T.n_list bt_list) pxs_nil)) T.n_isinstance bt_isinstance) (by rfl)) (pw_o1 (pb_not (pb_tru (px_callB (cd_isi) (pxs_cons (px_n 0) (pxs_cons (px_tup (pxs_cons (px_bltn T.n_tuple bt_tuple) (pxs_cons (px_bltn T.n_list bt_list) pxs_nil))) pxs_nil)) T.n_isinstance bt_isinstance))))))
 (pss'_one (ps'_ret px_bl))
 pss'_nil)
 (pss'_cons (ps'_if (pb_cmp (od_ne hr.units) (px_callB (cd_len) (pxs_cons (px_n 0) pxs_nil) T.n_len bt_len) (px_callB (cd_len) (pxs_cons (px_n 1) pxs_nil) T.n_len bt_len) (by rfl))
 (pss'_one (ps'_ret px_bl))
 pss'_nil)
 (pss'_one (ps'_ret (px_cmp (od_nin) px_bl (px_lc [("_law_one", 2), ("_law_other", 3)] (pi_zl 0 1 T.n_zip) (fun _ _ _ _ _ => (pgx_tup (pgxs_cons (pgx_name 2 (hN := sc__law_like.nd)) (pgxs_cons (pgx_name 3 (hN := sc__law_like.nd)) pgxs_nil)) rfl)) (fun _ _ _ _ _ => pbs_nil) (fun _ _ _ _ _ => (px_call D__law_like T.m__law_like hr (pxs_cons (px_n 2) (pxs_cons (px_n 3) pxs_nil)))) rfl (hN := sc__law_like.nd)) (by rfl))))))
 pss'_nil)
 (pss'_cons (ps'_if (PW'.pb (pw_o (pb_cmp od_isn (px_n 1) px_non (by rfl)) (pw_o1 (pb_cmp od_isn (px_n 0) px_non (by rfl)))))
 (pss'_one (ps'_ret (px_and (px_cmp od_isn (px_n 0) px_non (by rfl)) (px_one (px_cmp od_isn (px_n 1) px_non (by rfl))))))
 pss'_nil)
 (pss'_cons (ps'_if (PW'.pb (pw_o (pb_tru (px_callB (cd_isi) (pxs_cons (px_n 1) (pxs_cons (px_bltn T.n_bool bt_bool) pxs_nil)) T.n_isinstance bt_isinstance)) (pw_o1 (pb_tru (px_callB (cd_isi) (pxs_cons (px_n 0) (pxs_cons (px_bltn T.n_bool bt_bool) pxs_nil)) T.n_isinstance bt_isinstance)))))
 (pss'_one (ps'_ret (px_and (px_callB (cd_isi) (pxs_cons (px_n 1) (pxs_cons (px_bltn T.n_bool bt_bool) pxs_nil)) T.n_isinstance bt_isinstance) (px_and (px_callB (cd_isi) (pxs_cons (px_n 0) (pxs_cons (px_bltn T.n_bool bt_bool) pxs_nil)) T.n_isinstance bt_isinstance) (px_one (px_cmp (od_eq hr.units) (px_n 0) (px_n 1) (by rfl)))))))
 pss'_nil)
 (pss'_one (ps'_ret (px_and (px_callB (cd_isi) (pxs_cons (px_n 0) (pxs_cons (px_tup (pxs_cons (px_bltn T.n_int bt_int) (pxs_cons (px_bltn T.n_str bt_str) pxs_nil))) pxs_nil)) T.n_isinstance bt_isinstance) (px_one (px_cmp (od_eq hr.units) (px_n 0) (px_n 1) (by rfl)))))))))
abbrev s__law_refused : Stmt := top 25
theorem sc__law_refused : FnScope ["_law_read_here", "_law_thing", "_law_line", "_law_caught", "error"] ["_law_read_here", "_law_thing", "_law_line"] (defScope s__law_refused) := ⟨rfl, rfl, rfl, by decide +kernel, rfl, by decide +kernel, by decide +kernel⟩
def kp__law_refused : Nat → Bool := fun i => i == 0 || i == 1 || i == 2
def t__law_refused (K : PySem.W.Frag) (a : Ad) (sp_read_steps : SpD) : TSX :=
 (dSeq (dSet 3 (dC .non))
 (dSeq (dTryKeep K a.SwapError 4 3 (dDrop (dCallL 0 a.read_steps sp_read_steps (dCons (dN 1) dNil))))
 (dSeq (dIf (dOr (dNot (dTru (dB (f2' (isiD K)) (dCons (dN 3) (dCons (dC (.ob a.NoText)) dNil))))) (dNot (dTru (dB (f2' (isiD K)) (dCons (dN 3) (dCons (dC (.ty "ValueError")) dNil))))))
 (dRet (dC (.bl false)))
 dNext)
 (dSeq (dIf (dTru (dB (f2' (isiD K)) (dCons (dN 3) (dCons (dTup (dCons (dC (.ob a.NoBook)) (dCons (dC (.ob a.NoPage)) (dCons (dC (.ob a.NoHouse)) (dCons (dC (.ob a.NotWanted)) (dCons (dC (.ob a.Taken)) (dCons (dC (.ob a.TooMany)) (dCons (dC (.ob a.Clash)) (dCons (dC (.ob a.NoRow)) (dCons (dC (.ob a.Unfit)) (dCons (dC (.ob a.NoName)) dNil))))))))))) dNil))))
 (dRet (dC (.bl false)))
 dNext)
 (dRet (dAndV (dNotV (dB (f2' (isiD K)) (dCons (dFldX K (dN 3) "line") (dCons (dC (.ty "bool")) dNil)))) (dBin eqD (dFldX K (dN 3) "line") (dN 2))))))))
theorem bd__law_refused {P : Program} {w : World} {K : PySem.W.Frag} {mg : Str → Option Value} {base : Heap} {a : Ad} {f : Addr} {kk : Nat} (T : Tx P w K mg base a) {sp_read_steps : SpD} (D_read_steps : Dn P w K mg base a.read_steps 4 sp_read_steps) (cdv : Value) (A : Around) (outer : List Env) (s : Shared) (H : Hp) (E : XK) (F0 H0 : Hp) (fp0 : ASet) (kv : Nat → Option V) (hr : Room 4 (A.deeper (envOfC "_law_refused" (defScope s__law_refused) s.heap.objs.size f cdv))) :
  PSs' (cxD P w K mg base ["_law_read_here", "_law_thing", "_law_line", "_law_caught", "error"] "_law_refused" s__law_refused f cdv A outer s H E) (EC.at K kp__law_refused F0 H0 fp0 kv) (defBody s__law_refused) (t__law_refused K a sp_read_steps) :=
 (pss'_cons (ps'_set 3 px_non (hN := sc__law_refused.nd))
 (pss'_cons (ps'_tryKeep 4 3 T.m_SwapError rfl rfl rfl (fun _ _ hp_ => (pss'_one (ps'_expr (px_callL 0 D_read_steps (hr.mono (by decide)) (pxs_cons (px_n 1) pxs_nil))))) (hN := sc__law_refused.nd))
 (pss'_cons (ps'_if (PW'.pb (pw_o (pb_not (pb_tru (px_callB (cd_isi) (pxs_cons (px_n 3) (pxs_cons (px_glob T.m_NoText) pxs_nil)) T.n_isinstance bt_isinstance))) (pw_o1 (pb_not (pb_tru (px_callB (cd_isi) (pxs_cons (px_n 3) (pxs_cons (px_bltn T.n_ValueError bt_ValueError) pxs_nil)) T.n_isinstance bt_isinstance))))))
 (pss'_one (ps'_ret px_bl))
 pss'_nil)
 (pss'_cons (ps'_if (pb_tru (px_callB (cd_isi) (pxs_cons (px_n 3) (pxs_cons (px_tup (pxs_cons (px_glob T.m_NoBook) (pxs_cons (px_glob T.m_NoPage) (pxs_cons (px_glob T.m_NoHouse) (pxs_cons (px_glob T.m_NotWanted) (pxs_cons (px_glob T.m_Taken) (pxs_cons (px_glob T.m_TooMany) (pxs_cons (px_glob T.m_Clash) (pxs_cons (px_glob T.m_NoRow) (pxs_cons (px_glob T.m_Unfit) (pxs_cons (px_glob T.m_NoName) pxs_nil))))))))))) pxs_nil)) T.n_isinstance bt_isinstance))
 (pss'_one (ps'_ret px_bl))
 pss'_nil)
 (pss'_one (ps'_ret (px_and (px_not (px_callB (cd_isi) (pxs_cons (px_fldx (px_n 3)) (pxs_cons (px_bltn T.n_bool bt_bool) pxs_nil)) T.n_isinstance bt_isinstance)) (px_one (px_cmp (od_eq hr.units) (px_fldx (px_n 3)) (px_n 2) (by rfl))))))))))
abbrev s__law_is_word : Stmt := top 26
theorem sc__law_is_word : FnScope ["_law_text", "_law_sign"] ["_law_text"] (defScope s__law_is_word) := ⟨rfl, rfl, rfl, by decide +kernel, rfl, by decide +kernel, by decide +kernel⟩
def kp__law_is_word : Nat → Bool := fun i => i == 0
def t__law_is_word (K : PySem.W.Frag) (a : Ad) : TSX :=
 (dRet (dAndV (dChain leD leD (dC (.int 1)) (dB (f1 lenD) (dCons (dN 0) dNil)) (dC (.int 8))) (dBin eqD (dLc (sL 0) (gN 1) (dBl (dBin ninD (dN 1) (dC (.str "abcdefghijklmnopqrstuvwxyz")))) (dN 1) [1]) (dLst dNil))))
theorem bd__law_is_word {P : Program} {w : World} {K : PySem.W.Frag} {mg : Str → Option Value} {base : Heap} {a : Ad} {f : Addr} {kk : Nat} (T : Tx P w K mg base a) (cdv : Value) (A : Around) (outer : List Env) (s : Shared) (H : Hp) (E : XK) (F0 H0 : Hp) (fp0 : ASet) (kv : Nat → Option V) (hr : Room 0 (A.deeper (envOfC "_law_is_word" (defScope s__law_is_word) s.heap.objs.size f cdv))) :
  PSs' (cxD P w K mg base ["_law_text", "_law_sign"] "_law_is_word" s__law_is_word f cdv A outer s H E) (EC.at K kp__law_is_word F0 H0 fp0 kv) (defBody s__law_is_word) (t__law_is_word K a) :=
 (pss'_one (ps'_ret (px_and (px_chain od_le od_le px_int (px_callB (cd_len) (pxs_cons (px_n 0) pxs_nil) T.n_len bt_len) px_int) (px_one (px_cmp (od_eq hr.units) (px_lc [("_law_sign", 1)] (pi_l 0) (fun _ _ _ _ _ => (pgx_name 1 (hN := sc__law_is_word.nd))) (fun _ _ _ _ _ => (pbs_one (pb_cmp (od_nin) (px_n 1) px_str (by rfl)))) (fun _ _ _ _ _ => (px_n 1)) rfl (hN := sc__law_is_word.nd)) (px_lst pxs_nil) (by rfl))))))
abbrev s__law_read : Stmt := top 27
theorem sc__law_read : FnScope ["_law_text", "_law_found", "_law_part", "_law_words_here", "_law_word"] ["_law_text"] (defScope s__law_read) := ⟨rfl, rfl, rfl, by decide +kernel, rfl, by decide +kernel, by decide +kernel⟩
def kp__law_read : Nat → Bool := fun i => i == 0
def t__law_read (K : PySem.W.Frag) (a : Ad) (sp__law_is_word : SpD) : TSX :=
 (dSeq (dSet 1 (dLst dNil))
 (dSeq (dFor [] (sV (dM "str" (m1 splitD) (dN 0) (dCons (dC (.str ",")) dNil))) (gN 2) (dSeq (dSet 3 (dM "str" (m1 splitD) (dN 2) (dCons (dC (.str " ")) dNil)))
 (dSeq (dIf (dOr (dBl (dBin neD (dB (f1 lenD) (dCons (dN 3) dNil)) (dC (.int 3)))) (dBl (dBin inD (dC (.bl false)) (dLc (sL 3) (gN 4) dYes (dCall sp__law_is_word (dCons (dN 4) dNil)) [4]))))
 (dRet (dLst dNil))
 dNext)
 (dDrop (dMut appendM 1 (dCons (dB (f1 tupleD) (dCons (dN 3) dNil)) dNil))))))
 (dRet (dN 1))))
theorem bd__law_read {P : Program} {w : World} {K : PySem.W.Frag} {mg : Str → Option Value} {base : Heap} {a : Ad} {f : Addr} {kk : Nat} (T : Tx P w K mg base a) {sp__law_is_word : SpD} (D__law_is_word : Dn P w K mg base a._law_is_word 1 sp__law_is_word) (cdv : Value) (A : Around) (outer : List Env) (s : Shared) (H : Hp) (E : XK) (F0 H0 : Hp) (fp0 : ASet) (kv : Nat → Option V) (hr : Room 1 (A.deeper (envOfC "_law_read" (defScope s__law_read) s.heap.objs.size f cdv))) :
  PSs' (cxD P w K mg base ["_law_text", "_law_found", "_law_part", "_law_words_here", "_law_word"] "_law_read" s__law_read f cdv A outer s H E) (EC.at K kp__law_read F0 H0 fp0 kv) (defBody s__law_read) (t__law_read K a sp__law_is_word) :=
 (pss'_cons (ps'_set 1 (px_lst pxs_nil) (hN := sc__law_read.nd))
 (pss'_cons (ps'_for [] (passes_of rfl) (pi_v (px_m PySem.F.plainAttrs_str PySem.F.slot_str_split PySem.F.type_str_split md_split (px_n 0) (pxs_cons px_str pxs_nil))) (fun _ _ _ _ => (pgx_name 2 (hN := sc__law_read.nd))) (fun _ _ _ _ => (pss'_cons (ps'_set 3 (px_m PySem.F.plainAttrs_str PySem.F.slot_str_split PySem.F.type_str_split md_split (px_n 2) (pxs_cons px_str pxs_nil)) (hN := sc__law_read.nd))
 (pss'_cons (ps'_if (PW'.pb (pw_o (pb_cmp (od_ne hr.units) (px_callB (cd_len) (pxs_cons (px_n 3) pxs_nil) T.n_len bt_len) px_int (by rfl)) (pw_o1 (pb_cmp (od_in) px_bl (px_lc [("_law_word", 4)] (pi_l 3) (fun _ _ _ _ _ => (pgx_name 4 (hN := sc__law_read.nd))) (fun _ _ _ _ _ => pbs_nil) (fun _ _ _ _ _ => (px_call D__law_is_word T.m__law_is_word (hr.mono (by decide)) (pxs_cons (px_n 4) pxs_nil))) rfl (hN := sc__law_read.nd)) (by rfl)))))
 (pss'_one (ps'_ret (px_lst pxs_nil)))
 pss'_nil)
 (pss'_one (ps'_expr (px_mut 1 PySem.F.slot_list_append PySem.F.type_list_append (mu_append) (pxs_cons (px_callT (cd_tuple) (pxs_cons (px_n 3) pxs_nil) T.n_tuple bt_tuple) pxs_nil))))))) rfl)
 (pss'_one (ps'_ret (px_n 1)))))
abbrev s__law_bent : Stmt := top 28
theorem sc__law_bent : FnScope ["_law_pen", "_law_text", "_law_way", "_law_at", "_law_words_here", "_law_other"] ["_law_pen", "_law_text"] (defScope s__law_bent) := ⟨rfl, rfl, rfl, by decide +kernel, rfl, by decide +kernel, by decide +kernel⟩
def kp__law_bent : Nat → Bool := fun i => i == 0 || i == 1
def t__law_bent (K : PySem.W.Frag) (a : Ad) (sp__law_draw : SpD) (sp__law_pick : SpD) : TSX :=
 (dSeq (dSet 2 (dCall sp__law_draw (dCons (dN 0) (dCons (dC (.int 7)) dNil))))
 (dSeq (dIf (dBl (dBin ltD (dN 2) (dC (.int 2))))
 (dSeq (dSet 3 (dCall sp__law_draw (dCons (dN 0) (dCons (dBin addD (dB (f1 lenD) (dCons (dN 1) dNil)) (dC (.int 1))) dNil))))
 (dRet (dBin addD (dBin addD (dSl (dN 1) dPn (dPs (dN 3))) (dCall sp__law_pick (dCons (dN 0) (dCons (dLst (dCons (dC (.str ",")) (dCons (dC (.str " ")) (dCons (dC (.str "a")) (dCons (dC (.str "A")) (dCons (dC (.str "7")) (dCons (dC (.str "\n")) (dCons (dC (.str "-")) (dCons (dC (.str ">")) dNil))))))))) dNil)))) (dSl (dN 1) (dPs (dBin addD (dN 3) (dN 2))) dPn))))
 dNext)
 (dSeq (dSet 4 (dM "str" (m1 splitD) (dUn (replD "," " , ") (dN 1)) (dCons (dC (.str " ")) dNil)))
 (dSeq (dSet 3 (dCall sp__law_draw (dCons (dN 0) (dCons (dB (f1 lenD) (dCons (dN 4) dNil)) dNil))))
 (dSeq (dIf (dBl (dBin eqD (dN 2) (dC (.int 2))))
 (dDrop (dMut popM 4 (dCons (dN 3) dNil)))
 dNext)
 (dSeq (dIf (dBl (dBin eqD (dN 2) (dC (.int 3))))
 (dDrop (dMut insertM 4 (dCons (dN 3) (dCons (dBin ixD (dN 4) (dN 3)) dNil))))
 dNext)
 (dSeq (dIf (dBl (dBin eqD (dN 2) (dC (.int 4))))
 (dAsg (dCall sp__law_pick (dCons (dN 0) (dCons (dLst (dCons (dC (.str "")) (dCons (dC (.str "abcdefghi")) (dCons (dC (.str "abcdefgh")) (dCons (dC (.str "a1")) (dCons (dC (.str "A")) (dCons (dC (.str ",")) dNil))))))) dNil))) (gIx 4 (dN 3)))
 dNext)
 (dSeq (dIf (dBl (dBin eqD (dN 2) (dC (.int 5))))
 (dSeq (dSet 5 (dCall sp__law_draw (dCons (dN 0) (dCons (dB (f1 lenD) (dCons (dN 4) dNil)) dNil))))
 (dAsg (dTup (dCons (dBin ixD (dN 4) (dN 5)) (dCons (dBin ixD (dN 4) (dN 3)) dNil))) (gT 2 (gC (gIx 4 (dN 3)) (gC (gIx 4 (dN 5)) gZ)))))
 dNext)
 (dSeq (dIf (dBl (dBin eqD (dN 2) (dC (.int 6))))
 (dRet (dBin addD (dN 1) (dCall sp__law_pick (dCons (dN 0) (dCons (dLst (dCons (dC (.str ",")) (dCons (dC (.str " ")) (dCons (dC (.str "\n")) (dCons (dC (.str ",a b c")) (dCons (dC (.str ", a b c")) (dCons (dC (.str ",a b")) dNil))))))) dNil)))))
 dNext)
 (dSeq (dRet (dUn (replD " , " ",") (dM "str" (m1 joinD) (dC (.str " ")) (dCons (dN 4) dNil))))
 dNext))))))))))
theorem bd__law_bent {P : Program} {w : World} {K : PySem.W.Frag} {mg : Str → Option Value} {base : Heap} {a : Ad} {f : Addr} {kk : Nat} (T : Tx P w K mg base a) {sp__law_draw : SpD} (D__law_draw : Dn P w K mg base a._law_draw 1 sp__law_draw) {sp__law_pick : SpD} (D__law_pick : Dn P w K mg base a._law_pick 2 sp__law_pick) (cdv : Value) (A : Around) (outer : List Env) (s : Shared) (H : Hp) (E : XK) (F0 H0 : Hp) (fp0 : ASet) (kv : Nat → Option V) (hr : Room 2 (A.deeper (envOfC "_law_bent" (defScope s__law_bent) s.heap.objs.size f cdv))) :
  PSs'T (cxD P w K mg base ["_law_pen", "_law_text", "_law_way", "_law_at", "_law_words_here", "_law_other"] "_law_bent" s__law_bent f cdv A outer s H E) (EC.at K kp__law_bent F0 H0 fp0 kv) (defBody s__law_bent) (t__law_bent K a sp__law_draw sp__law_pick) :=
 (psst'_cons (PS'.tok (ps'_set 2 (px_call D__law_draw T.m__law_draw (hr.mono (by decide)) (pxs_cons (px_n 0) (pxs_cons px_int pxs_nil))) (hN := sc__law_bent.nd)))
 (psst'_cons (PS'.tok (ps'_if (pb_cmp od_lt (px_n 2) px_int (by rfl))
 (pss'_cons (ps'_set 3 (px_call D__law_draw T.m__law_draw (hr.mono (by decide)) (pxs_cons (px_n 0) (pxs_cons (px_bin (od_add) (px_callB (cd_len) (pxs_cons (px_n 1) pxs_nil) T.n_len bt_len) px_int) pxs_nil))) (hN := sc__law_bent.nd))
 (pss'_one (ps'_ret (px_bin (od_add) (px_bin (od_add) (px_sl (px_n 1) pp_n (pp_s (px_n 3))) (px_call D__law_pick T.m__law_pick (hr.mono (by decide)) (pxs_cons (px_n 0) (pxs_cons (px_lst (pxs_cons px_str (pxs_cons px_str (pxs_cons px_str (pxs_cons px_str (pxs_cons px_str (pxs_cons px_str (pxs_cons px_str (pxs_cons px_str pxs_nil))))))))) pxs_nil)))) (px_sl (px_n 1) (pp_s (px_bin (od_add) (px_n 3) (px_n 2))) pp_n)))))
 pss'_nil))
 (psst'_cons (pst'_set 4 (pxt_m PySem.F.plainAttrs_str PySem.F.slot_str_split PySem.F.type_str_split md_split (pxt_repl (px_n 1)) (pxs_cons px_str pxs_nil)) (hN := sc__law_bent.nd))
 (psst'_cons (PS'.tok (ps'_set 3 (px_call D__law_draw T.m__law_draw (hr.mono (by decide)) (pxs_cons (px_n 0) (pxs_cons (px_callB (cd_len) (pxs_cons (px_n 4) pxs_nil) T.n_len bt_len) pxs_nil))) (hN := sc__law_bent.nd)))
 (psst'_cons (PS'.tok (ps'_if (pb_cmp (od_eq hr.units) (px_n 2) px_int (by rfl))
 (pss'_one (ps'_expr (px_mut 4 PySem.F.slot_list_pop PySem.F.type_list_pop (mu_pop) (pxs_cons (px_n 3) pxs_nil))))
 pss'_nil))
 (psst'_cons (PS'.tok (ps'_if (pb_cmp (od_eq hr.units) (px_n 2) px_int (by rfl))
 (pss'_one (ps'_expr (px_mut 4 PySem.F.slot_list_insert PySem.F.type_list_insert (mu_insert) (pxs_cons (px_n 3) (pxs_cons (px_ix (px_n 4) (px_n 3)) pxs_nil)))))
 pss'_nil))
 (psst'_cons (PS'.tok (ps'_if (pb_cmp (od_eq hr.units) (px_n 2) px_int (by rfl))
 (pss'_one (ps'_asg (px_call D__law_pick T.m__law_pick (hr.mono (by decide)) (pxs_cons (px_n 0) (pxs_cons (px_lst (pxs_cons px_str (pxs_cons px_str (pxs_cons px_str (pxs_cons px_str (pxs_cons px_str (pxs_cons px_str pxs_nil))))))) pxs_nil))) (pgx_ix 4 (px_n 3))))
 pss'_nil))
 (psst'_cons (PS'.tok (ps'_if (pb_cmp (od_eq hr.units) (px_n 2) px_int (by rfl))
 (pss'_cons (ps'_set 5 (px_call D__law_draw T.m__law_draw (hr.mono (by decide)) (pxs_cons (px_n 0) (pxs_cons (px_callB (cd_len) (pxs_cons (px_n 4) pxs_nil) T.n_len bt_len) pxs_nil))) (hN := sc__law_bent.nd))
 (pss'_one (ps'_asg (px_tup (pxs_cons (px_ix (px_n 4) (px_n 5)) (pxs_cons (px_ix (px_n 4) (px_n 3)) pxs_nil))) (pgx_tup (pgxs_cons (pgx_ix 4 (px_n 3)) (pgxs_cons (pgx_ix 4 (px_n 5)) pgxs_nil)) rfl))))
 pss'_nil))
 (psst'_cons (PS'.tok (ps'_if (pb_cmp (od_eq hr.units) (px_n 2) px_int (by rfl))
 (pss'_one (ps'_ret (px_bin (od_add) (px_n 1) (px_call D__law_pick T.m__law_pick (hr.mono (by decide)) (pxs_cons (px_n 0) (pxs_cons (px_lst (pxs_cons px_str (pxs_cons px_str (pxs_cons px_str (pxs_cons px_str (pxs_cons px_str (pxs_cons px_str pxs_nil))))))) pxs_nil))))))
 pss'_nil))
 (psst'_cons (pst'_ret (pxt_repl (px_m PySem.F.plainAttrs_str PySem.F.slot_str_join PySem.F.type_str_join (md_join) px_str (pxs_cons (px_n 4) pxs_nil))))
 (PSs'.tok pss'_nil)))))))))))
abbrev s_law : Stmt := top 29
theorem sc_law : FnScope ["_law_script", "_law_pen", "_law_words_here", "_law_steps", "_law_k", "_law_text", "_law_turn", "_law_thing", "_law_due", "_law_found", "_law_step"] ["_law_script"] (defScope s_law) := ⟨rfl, rfl, rfl, by decide +kernel, rfl, by decide +kernel, by decide +kernel⟩
def kp_law : Nat → Bool := fun i => i == 0
def t_law (K : PySem.W.Frag) (a : Ad) (sp_read_steps : SpD) (sp__law_draw : SpD) (sp__law_pick : SpD) (sp__law_words : SpD) (sp__law_like : SpD) (sp__law_refused : SpD) (sp__law_read : SpD) (sp__law_bent : SpD) : TSX :=
 (dSeq (dSet 1 (dLst (dCons (dN 0) (dCons (dC (.int 0)) (dCons (dC (.int 0)) dNil)))))
 (dSeq (dSet 2 (dCall sp__law_words (dCons (dN 1) (dCons (dC (.int 6)) dNil))))
 (dSeq (dSet 3 (dLst dNil))
 (dSeq (dFor [] (sR1 (dCons (dBin addD (dC (.int 1)) (dCall sp__law_draw (dCons (dN 1) (dCons (dC (.int 9)) dNil)))) dNil)) (gN 4) (dDrop (dMut appendM 3 (dCons (dTup (dCons (dCall sp__law_pick (dCons (dN 1) (dCons (dN 2) dNil))) (dCons (dCall sp__law_pick (dCons (dN 1) (dCons (dN 2) dNil))) (dCons (dCall sp__law_pick (dCons (dN 1) (dCons (dN 2) dNil))) dNil)))) dNil))))
 (dSeq (dSet 5 (dM "str" (m1 joinD) (dC (.str ",")) (dCons (dLc (sL 3) (gN 10) dYes (dM "str" (m1 joinD) (dC (.str " ")) (dCons (dN 10) dNil)) [10]) dNil)))
 (dSeq (dFor [] (sR1 (dCons (dC (.int 10)) dNil)) (gN 6) (dFor [] (sV (dLst (dCons (dN 5) (dCons (dCall sp__law_bent (dCons (dN 1) (dCons (dN 5) dNil))) dNil)))) (gN 7) (dSeq (dSet 8 (dCall sp__law_read (dCons (dN 7) dNil)))
 (dSeq (dIf (dAnd (dBl (dBin eqD (dN 8) (dLst dNil))) (dNot (dTru (dCall sp__law_refused (dCons (dC (.ob a.read_steps)) (dCons (dN 7) (dCons (dC (.int 0)) dNil)))))))
 (dRet (dC (.bl false)))
 dNext)
 (dIf (dBl (dBin neD (dN 8) (dLst dNil)))
 (dSeq (dSet 9 (dCall sp_read_steps (dCons (dN 7) dNil)))
 (dSeq (dIf (dNot (dTru (dCall sp__law_like (dCons (dN 9) (dCons (dN 8) dNil)))))
 (dRet (dC (.bl false)))
 dNext)
 (dDrop (dMut appendM 9 (dCons (dTup dNil) dNil)))))
 dNext)))))
 (dSeq (dFor [] (sV (dLst (dCons (dC .non) (dCons (dC (.int 7)) (dCons (dC (.bl true)) (dCons (dC (.str "")) (dCons (dC (.str " ")) (dCons (dC (.str ",")) (dCons (dTup dNil) (dCons (dLst (dCons (dN 5) dNil)) (dCons dDict0 (dCons (dN 3) (dCons (dBin ixD (dN 3) (dC (.int 0))) dNil))))))))))))) (gN 7) (dIf (dNot (dTru (dCall sp__law_refused (dCons (dC (.ob a.read_steps)) (dCons (dN 7) (dCons (dC (.int 0)) dNil))))))
 (dRet (dC (.bl false)))
 dNext))
 (dRet (dBin eqD (dCall sp__law_read (dCons (dN 5) dNil)) (dN 3))))))))))
theorem bd_law {P : Program} {w : World} {K : PySem.W.Frag} {mg : Str → Option Value} {base : Heap} {a : Ad} {f : Addr} {kk : Nat} (T : Tx P w K mg base a) {sp_read_steps : SpD} (D_read_steps : Dn P w K mg base a.read_steps 4 sp_read_steps) {sp__law_draw : SpD} (D__law_draw : Dn P w K mg base a._law_draw 1 sp__law_draw) {sp__law_pick : SpD} (D__law_pick : Dn P w K mg base a._law_pick 2 sp__law_pick) {sp__law_words : SpD} (D__law_words : Dn P w K mg base a._law_words 3 sp__law_words) {sp__law_like : SpD} (D__law_like : Dn P w K mg base a._law_like 3 sp__law_like) {sp__law_refused : SpD} (D__law_refused : Dn P w K mg base a._law_refused 5 sp__law_refused) {sp__law_read : SpD} (D__law_read : Dn P w K mg base a._law_read 2 sp__law_read) {sp__law_bent : SpD} (D__law_bent : Dn P w K mg base a._law_bent 3 sp__law_bent) (cdv : Value) (A : Around) (outer : List Env) (s : Shared) (H : Hp) (E : XK) (F0 H0 : Hp) (fp0 : ASet) (kv : Nat → Option V) (hr : Room 5 (A.deeper (envOfC "law" (defScope s_law) s.heap.objs.size f cdv))) :
  PSs' (cxD P w K mg base ["_law_script", "_law_pen", "_law_words_here", "_law_steps", "_law_k", "_law_text", "_law_turn", "_law_thing", "_law_due", "_law_found", "_law_step"] "law" s_law f cdv A outer s H E) (EC.at K kp_law F0 H0 fp0 kv) (defBody s_law) (t_law K a sp_read_steps sp__law_draw sp__law_pick sp__law_words sp__law_like sp__law_refused sp__law_read sp__law_bent) :=
 (pss'_cons (ps'_set 1 (px_lst (pxs_cons (px_n 0) (pxs_cons px_int (pxs_cons px_int pxs_nil)))) (hN := sc_law.nd))
 (pss'_cons (ps'_set 2 (px_call D__law_words T.m__law_words (hr.mono (by decide)) (pxs_cons (px_n 1) (pxs_cons px_int pxs_nil))) (hN := sc_law.nd))
 (pss'_cons (ps'_set 3 (px_lst pxs_nil) (hN := sc_law.nd))
 (pss'_cons (ps'_for [] (passes_of rfl) (pi_r1 (pxs_cons (px_bin (od_add) px_int (px_call D__law_draw T.m__law_draw (hr.mono (by decide)) (pxs_cons (px_n 1) (pxs_cons px_int pxs_nil)))) pxs_nil) T.n_range) (fun _ _ _ _ => (pgx_name 4 (hN := sc_law.nd))) (fun _ _ _ _ => (pss'_one (ps'_expr (px_mut 3 PySem.F.slot_list_append PySem.F.type_list_append (mu_append) (pxs_cons (px_tup (pxs_cons (px_call D__law_pick T.m__law_pick (hr.mono (by decide)) (pxs_cons (px_n 1) (pxs_cons (px_n 2) pxs_nil))) (pxs_cons (px_call D__law_pick T.m__law_pick (hr.mono (by decide)) (pxs_cons (px_n 1) (pxs_cons (px_n 2) pxs_nil))) (pxs_cons (px_call D__law_pick T.m__law_pick (hr.mono (by decide)) (pxs_cons (px_n 1) (pxs_cons (px_n 2) pxs_nil))) pxs_nil)))) pxs_nil))))) rfl)
 (pss'_cons (ps'_set 5 (px_m PySem.F.plainAttrs_str PySem.F.slot_str_join PySem.F.type_str_join (md_join) px_str (pxs_cons (px_lc [("_law_step", 10)] (pi_l 3) (fun _ _ _ _ _ => (pgx_name 10 (hN := sc_law.nd))) (fun _ _ _ _ _ => pbs_nil) (fun _ _ _ _ _ => (px_m PySem.F.plainAttrs_str PySem.F.slot_str_join PySem.F.type_str_join (md_join) px_str (pxs_cons (px_n 10) pxs_nil))) rfl (hN := sc_law.nd)) pxs_nil)) (hN := sc_law.nd))
 (pss'_cons (ps'_for [] (passes_of rfl) (pi_r1 (pxs_cons px_int pxs_nil) T.n_range) (fun _ _ _ _ => (pgx_name 6 (hN := sc_law.nd))) (fun _ _ _ _ => (pss'_one (ps'_for [] (passes_of rfl) (pi_v (px_lst (pxs_cons (px_n 5) (pxs_cons (px_call D__law_bent T.m__law_bent (hr.mono (by decide)) (pxs_cons (px_n 1) (pxs_cons (px_n 5) pxs_nil))) pxs_nil)))) (fun _ _ _ _ => (pgx_name 7 (hN := sc_law.nd))) (fun _ _ _ _ => (pss'_cons (ps'_set 8 (px_call D__law_read T.m__law_read (hr.mono (by decide)) (pxs_cons (px_n 7) pxs_nil)) (hN := sc_law.nd))
 (pss'_cons (ps'_if (PW'.pb (pw_a (pb_cmp (od_eq hr.units) (px_n 8) (px_lst pxs_nil) (by rfl)) (pw_a1 (pb_not (pb_tru (px_call D__law_refused T.m__law_refused (hr.mono (by decide)) (pxs_cons (px_glob T.m_read_steps) (pxs_cons (px_n 7) (pxs_cons px_int pxs_nil)))))))))
 (pss'_one (ps'_ret px_bl))
 pss'_nil)
 (pss'_one (ps'_if (pb_cmp (od_ne hr.units) (px_n 8) (px_lst pxs_nil) (by rfl))
 (pss'_cons (ps'_set 9 (px_call D_read_steps T.m_read_steps (hr.mono (by decide)) (pxs_cons (px_n 7) pxs_nil)) (hN := sc_law.nd))
 (pss'_cons (ps'_if (pb_not (pb_tru (px_call D__law_like T.m__law_like (hr.mono (by decide)) (pxs_cons (px_n 9) (pxs_cons (px_n 8) pxs_nil)))))
 (pss'_one (ps'_ret px_bl))
 pss'_nil)
 (pss'_one (ps'_expr (px_mut 9 PySem.F.slot_list_append PySem.F.type_list_append (mu_append) (pxs_cons (px_tup pxs_nil) pxs_nil))))))
 pss'_nil))))) rfl))) rfl)
 (pss'_cons (ps'_for [] (passes_of rfl) (pi_v (px_lst (pxs_cons px_non (pxs_cons px_int (pxs_cons px_bl (pxs_cons px_str (pxs_cons px_str (pxs_cons px_str (pxs_cons (px_tup pxs_nil) (pxs_cons (px_lst (pxs_cons (px_n 5) pxs_nil)) (pxs_cons px_dict0 (pxs_cons (px_n 3) (pxs_cons (px_ix (px_n 3) px_int) pxs_nil))))))))))))) (fun _ _ _ _ => (pgx_name 7 (hN := sc_law.nd))) (fun _ _ _ _ => (pss'_one (ps'_if (pb_not (pb_tru (px_call D__law_refused T.m__law_refused (hr.mono (by decide)) (pxs_cons (px_glob T.m_read_steps) (pxs_cons (px_n 7) (pxs_cons px_int pxs_nil))))))
 (pss'_one (ps'_ret px_bl))
 pss'_nil))) rfl)
 (pss'_one (ps'_ret (px_cmp (od_eq hr.units) (px_call D__law_read T.m__law_read (hr.mono (by decide)) (pxs_cons (px_n 5) pxs_nil)) (px_n 3) (by rfl)))))))))))

local macro_rules | `(tactic| none_booked) => `(tactic| first | dsimp only [List.set_cons_zero, List.set_cons_succ, nr_b0, nr_bv, nr_bo, nr_bf, nr_bk, nr_bt, nr_bs, nr_bi, nr_bb, nr_bc, nr_bn, nr_g0, nr_g1, nr_w0, nr_w1, nr_fz, Int.reduceToNat] | skip)
local macro_rules | `(tactic| boot_fact) => `(tactic| first
  | ((with_reducible refine seq_i ?_); none_booked) | ((with_reducible refine next_i ?_); none_booked) | with_reducible refine set_i ?_ | with_reducible refine if_i ?_ | with_reducible refine ret_i ?_ | with_reducible refine c_i ?_
  | ((with_reducible refine n_i (d := ?d) ?e ?_); (case e => rfl))
  | with_reducible refine bin_i ?_ | ((with_reducible refine un_i (x := ?x) ?e ?_); (case e => rfl)) | with_reducible refine cons_i ?_ | with_reducible refine nil_i ?_ | with_reducible refine b_i ?_ | with_reducible refine f1_i ?_ | with_reducible refine f2_i ?_ | with_reducible refine bl_i ?_ | with_reducible refine blOf_i ?_ | with_reducible refine dtru_i ?_ | with_reducible refine tru_b ?_
  | with_reducible refine demO_v ?_ | ((with_reducible refine demO_f (d := ?d) ?e ?z ?_); (case e => rfl); (case z => rfl)) | with_reducible refine demM_v ?_ | ((with_reducible refine demM_f (d := ?d) ?e ?z ?_); (case e => rfl); (case z => rfl)) | ((with_reducible refine demM_o (d := ?d) ?e ?z ?_); (case e => rfl); (case z => rfl))
  | ((with_reducible refine dem_vf ?z ?_); (case z => rfl)) | ((with_reducible refine dem_f (d := ?d) ?e ?z ?_); (case e => rfl); (case z => rfl)) | ((with_reducible refine dem_vo ?z ?y ?_); (case z => rfl); (case y => rfl)) | ((with_reducible refine dem_o (d := ?d) ?e ?z ?y ?_); (case e => rfl); (case z => rfl); (case y => rfl))
  | with_reducible refine demL_n ?_ | with_reducible refine demL_c ?_ | with_reducible refine drop_i ?_ | with_reducible refine asg_i ?_ | with_reducible refine retN_i ?_ | with_reducible refine brk_i ?_ | with_reducible refine cont_i ?_
  | with_reducible refine gN_i ?_ | with_reducible refine gZ_i ?_ | with_reducible refine gC_i ?_ | ((with_reducible refine gT_i ?e ?_); (case e => rfl)) | ((with_reducible refine gIx_i (d0 := ?d0) ?e ?_); (case e => rfl))
  | with_reducible refine and_i ?_ | with_reducible refine or_i ?_ | with_reducible refine not_i ?_ | with_reducible refine andV_i ?_ | with_reducible refine orV_i ?_ | with_reducible refine notV_i ?_ | with_reducible refine chain_i ?_
  | with_reducible refine m_i ?_ | with_reducible refine isTy_s ?_ | with_reducible refine isTy_l ?_ | with_reducible refine m1_i ?_ | with_reducible refine m0_i ?_ | ((with_reducible refine mut_i (l0 := ?l) (o0 := ?o) ?e ?_); (case e => rfl)) | with_reducible refine sl_i ?_ | with_reducible refine pn_i ?_ | with_reducible refine ps_i ?_ | with_reducible refine inOf_i ?_
  | with_reducible refine tup_i ?_ | with_reducible refine lst_i ?_ | with_reducible refine call_i ?_ | with_reducible refine call0_i ?_ | ((with_reducible refine callL_i ?e ?_); (case e => rfl)) | with_reducible refine dict0_i ?_ | with_reducible refine yes_i ?_ | with_reducible refine dun_i ?_
  | with_reducible refine add_ii ?_ | with_reducible refine sub_ii ?_ | ((with_reducible refine mul_ii ?z ?_); (case z => omega)) | ((with_reducible refine fdiv_ii ?z ?_); (case z => omega)) | ((with_reducible refine mod_ii ?z ?_); (case z => omega)) | ((with_reducible refine pow_ii ?z ?_); (case z => decide))
  | with_reducible refine lt_ii ?_ | with_reducible refine le_ii ?_ | with_reducible refine gt_ii ?_ | with_reducible refine ge_ii ?_ | with_reducible refine eq_ii ?_ | with_reducible refine ne_ii ?_ | with_reducible refine eq_ss ?_ | with_reducible refine eq_bb ?_ | with_reducible refine ne_bb ?_
  | with_reducible refine len_l ?_ | with_reducible refine len_t ?_ | with_reducible refine abs_i ?_ | with_reducible refine list_l ?_ | with_reducible refine list_t ?_ | with_reducible refine tuple_l ?_ | with_reducible refine tuple_t ?_ | ((with_reducible refine ix_l (d := ?d) ?e ?_); (case e => rfl)) | ((with_reducible refine ix_t (d := ?d) ?e ?_); (case e => rfl))
  | with_reducible refine sl_l ?_ | with_reducible refine sl_t ?_ | with_reducible refine in_sc ?_ | with_reducible refine nin_sc ?_ | with_reducible refine isn_n ?_ | with_reducible refine notn_n ?_
  | with_reducible refine dl_tt ?_ | with_reducible refine dl_ff ?_
  | ((with_reducible refine lendTo_i (ds := ?ds) (Γ2 := ?g) ?e ?_); (case e => rfl)) | ((with_reducible refine ownAt_i (l := ?l) ?e ?_); (case e => rfl)) | ((with_reducible refine setAt_i (m := ?m) (l := ?l) (j := ?j) ?e ?f ?g ?_); (case e => rfl); (case f => rfl); (case g => rfl)) | with_reducible refine two_i ?_ | with_reducible refine par_i ?_
  | ((with_reducible refine len_s ?z ?_); (case z => first | assumption | omega)) | ((with_reducible refine sl_s ?z ?_); (case z => first | assumption | omega)) | with_reducible refine lc_i ?_ | with_reducible refine lcT_i ?_ | with_reducible refine for_i ?_
  | ((with_reducible refine sL_i (d := ?d) (xs := ?xs) ?e ?f ?_); (case e => rfl); (case f => rfl)) | with_reducible refine sV_i ?_ | ((with_reducible refine walked_v (xs := ?xs) ?e ?_); (case e => rfl)) | ((with_reducible refine walked_f (d := ?d) (xs := ?xs) ?e ?f ?g ?_); (case e => rfl); (case f => rfl); (case g => rfl)) | ((with_reducible refine walked_o (d := ?d) (xs := ?xs) ?e ?f ?g ?h ?_); (case e => rfl); (case f => rfl); (case g => rfl); (case h => rfl))
  | with_reducible refine sR1_i ?_ | ((with_reducible refine rng1_i ?z ?_); (case z => omega)) | ((with_reducible refine sZipL_i (o := ?o) (o' := ?o') (l := ?l) (m := ?m) ?e ?f ?_); (case e => rfl); (case f => rfl)) | ((with_reducible refine sZipT_i (l := ?l) (m := ?m) ?e ?f ?_); (case e => rfl); (case f => rfl)) | ((with_reducible refine sEnumL_i (o := ?o) (l := ?l) ?e ?_); (case e => rfl)) | with_reducible refine raiseI_i ?_ | with_reducible refine try_i ?_
  | with_reducible refine dl_nt ?_ | with_reducible refine dl_nf ?_
  | ((with_reducible refine sz_i ?z ?_); (case z => first | decide | (simp; done) | omega))
  | ((with_reducible refine append_i ?z ?_); (case z => first | assumption | omega)))
local macro_rules | `(tactic| wrow_none_raised) => `(tactic| first
  | ((with_reducible refine next_i ?_); none_booked) | with_reducible refine set_i ?_ | with_reducible refine if_i ?_ | with_reducible refine ret_i ?_ | with_reducible refine c_i ?_
  | ((with_reducible refine n_i (d := ?d) ?e ?_); (case e => rfl))
  | with_reducible refine bin_i ?_ | ((with_reducible refine un_i (x := ?x) ?e ?_); (case e => rfl)) | with_reducible refine cons_i ?_ | with_reducible refine nil_i ?_ | with_reducible refine b_i ?_ | with_reducible refine f1_i ?_ | with_reducible refine f2_i ?_ | with_reducible refine bl_i ?_ | with_reducible refine blOf_i ?_ | with_reducible refine dtru_i ?_ | with_reducible refine tru_b ?_
  | with_reducible refine demO_v ?_ | ((with_reducible refine demO_f (d := ?d) ?e ?z ?_); (case e => rfl); (case z => rfl)) | with_reducible refine demM_v ?_ | ((with_reducible refine demM_f (d := ?d) ?e ?z ?_); (case e => rfl); (case z => rfl)) | ((with_reducible refine demM_o (d := ?d) ?e ?z ?_); (case e => rfl); (case z => rfl))
  | ((with_reducible refine dem_vf ?z ?_); (case z => rfl)) | ((with_reducible refine dem_f (d := ?d) ?e ?z ?_); (case e => rfl); (case z => rfl)) | ((with_reducible refine dem_vo ?z ?y ?_); (case z => rfl); (case y => rfl)) | ((with_reducible refine dem_o (d := ?d) ?e ?z ?y ?_); (case e => rfl); (case z => rfl); (case y => rfl))
  | with_reducible refine demL_n ?_ | with_reducible refine demL_c ?_ | with_reducible refine drop_i ?_ | with_reducible refine asg_i ?_ | with_reducible refine retN_i ?_ | with_reducible refine brk_i ?_ | with_reducible refine cont_i ?_
  | with_reducible refine gN_i ?_ | with_reducible refine gZ_i ?_ | with_reducible refine gC_i ?_ | ((with_reducible refine gT_i ?e ?_); (case e => rfl)) | ((with_reducible refine gIx_i (d0 := ?d0) ?e ?_); (case e => rfl))
  | with_reducible refine and_i ?_ | with_reducible refine or_i ?_ | with_reducible refine not_i ?_ | with_reducible refine andV_i ?_ | with_reducible refine orV_i ?_ | with_reducible refine notV_i ?_ | with_reducible refine chain_i ?_
  | with_reducible refine m_i ?_ | with_reducible refine isTy_s ?_ | with_reducible refine isTy_l ?_ | with_reducible refine m1_i ?_ | with_reducible refine m0_i ?_ | ((with_reducible refine mut_i (l0 := ?l) (o0 := ?o) ?e ?_); (case e => rfl)) | with_reducible refine sl_i ?_ | with_reducible refine pn_i ?_ | with_reducible refine ps_i ?_ | with_reducible refine inOf_i ?_
  | with_reducible refine tup_i ?_ | with_reducible refine lst_i ?_ | with_reducible refine call_i ?_ | with_reducible refine call0_i ?_ | ((with_reducible refine callL_i ?e ?_); (case e => rfl)) | with_reducible refine dict0_i ?_ | with_reducible refine yes_i ?_ | with_reducible refine dun_i ?_
  | with_reducible refine add_ii ?_ | with_reducible refine sub_ii ?_ | ((with_reducible refine mul_ii ?z ?_); (case z => omega)) | ((with_reducible refine fdiv_ii ?z ?_); (case z => omega)) | ((with_reducible refine mod_ii ?z ?_); (case z => omega)) | ((with_reducible refine pow_ii ?z ?_); (case z => decide))
  | with_reducible refine lt_ii ?_ | with_reducible refine le_ii ?_ | with_reducible refine gt_ii ?_ | with_reducible refine ge_ii ?_ | with_reducible refine eq_ii ?_ | with_reducible refine ne_ii ?_ | with_reducible refine eq_ss ?_ | with_reducible refine eq_bb ?_ | with_reducible refine ne_bb ?_
  | with_reducible refine len_l ?_ | with_reducible refine len_t ?_ | with_reducible refine abs_i ?_ | with_reducible refine list_l ?_ | with_reducible refine list_t ?_ | with_reducible refine tuple_l ?_ | with_reducible refine tuple_t ?_ | ((with_reducible refine ix_l (d := ?d) ?e ?_); (case e => rfl)) | ((with_reducible refine ix_t (d := ?d) ?e ?_); (case e => rfl))
  | with_reducible refine sl_l ?_ | with_reducible refine sl_t ?_ | with_reducible refine in_sc ?_ | with_reducible refine nin_sc ?_ | with_reducible refine isn_n ?_ | with_reducible refine notn_n ?_
  | with_reducible refine dl_tt ?_ | with_reducible refine dl_ff ?_
  | ((with_reducible refine lendTo_i (ds := ?ds) (Γ2 := ?g) ?e ?_); (case e => rfl)) | ((with_reducible refine ownAt_i (l := ?l) ?e ?_); (case e => rfl)) | ((with_reducible refine setAt_i (m := ?m) (l := ?l) (j := ?j) ?e ?f ?g ?_); (case e => rfl); (case f => rfl); (case g => rfl)) | with_reducible refine two_i ?_ | with_reducible refine par_i ?_
  | ((with_reducible refine len_s ?z ?_); (case z => first | assumption | omega)) | ((with_reducible refine sl_s ?z ?_); (case z => first | assumption | omega)) | with_reducible refine lc_i ?_ | with_reducible refine lcT_i ?_ | with_reducible refine for_i ?_
  | ((with_reducible refine sL_i (d := ?d) (xs := ?xs) ?e ?f ?_); (case e => rfl); (case f => rfl)) | with_reducible refine sV_i ?_ | ((with_reducible refine walked_v (xs := ?xs) ?e ?_); (case e => rfl)) | ((with_reducible refine walked_f (d := ?d) (xs := ?xs) ?e ?f ?g ?_); (case e => rfl); (case f => rfl); (case g => rfl)) | ((with_reducible refine walked_o (d := ?d) (xs := ?xs) ?e ?f ?g ?h ?_); (case e => rfl); (case f => rfl); (case g => rfl); (case h => rfl))
  | with_reducible refine sR1_i ?_ | ((with_reducible refine rng1_i ?z ?_); (case z => omega)) | ((with_reducible refine sZipL_i (o := ?o) (o' := ?o') (l := ?l) (m := ?m) ?e ?f ?_); (case e => rfl); (case f => rfl)) | ((with_reducible refine sZipT_i (l := ?l) (m := ?m) ?e ?f ?_); (case e => rfl); (case f => rfl)) | ((with_reducible refine sEnumL_i (o := ?o) (l := ?l) ?e ?_); (case e => rfl)) | with_reducible refine raiseI_i ?_ | with_reducible refine try_i ?_
  | with_reducible refine dl_nt ?_ | with_reducible refine dl_nf ?_
  | ((with_reducible refine sz_i ?z ?_); (case z => first | decide | (simp; done) | omega))
  | ((with_reducible refine append_i ?z ?_); (case z => first | assumption | omega)))

abbrev penD (ns : List Int) (t r : Int) : D := .lst .o [.lst .k (ns.map D.int), .int t, .int r]
def sp_draw : SpD := fun ds Q Ex => ∃ (ns : List Int) (t r m : Int), ds = [penD ns t r, .int m] ∧ 0 ≤ t ∧ 0 ≤ r ∧ 0 < m ∧ m < 1000000 ∧
  ∀ d t' r', 0 ≤ t' → 0 ≤ r' → 0 ≤ d → d < m → Q (.int d) [some (penD ns t' r'), some (.int m)]
theorem at_map {ns : List Int} {i : Int} (h : 0 ≤ i) (h2 : i < ns.length) : ∃ z, atI (ns.map D.int) i = some (.int z) := by
  refine ⟨ns[i.toNat]'(by omega), ?_⟩
  unfold atI ixN
  rw [if_pos h, if_pos (by rw [List.length_map]; exact h2)]
  show (ns.map D.int)[i.toNat]? = _
  rw [List.getElem?_map, List.getElem?_eq_getElem (by omega)]
  rfl
theorem law_draw (K : PySem.W.Frag) (a : Ad) : ∀ ds Q Ex, sp_draw ds Q Ex → ds.length = 2 ∧ t__law_draw K a (fun C l Γ => Ex C l (outsF kp__law_draw Γ 0 2)) { nx := fun Γ => Q .non (outsF kp__law_draw Γ 0 2), rt := fun d Γ => Q d (outsF kp__law_draw Γ 0 2) } (startD ["_law_pen", "_law_many", "_law_drawn", "_law_at", "_law_cell", "_law_number"] ds) := by
  rintro ds Q Ex ⟨ns, t, r, m, rfl, ht, hr, hm, hm2, q⟩
  refine ⟨rfl, ?_⟩
  unfold t__law_draw
  dsimp only [startD, List.map_cons, List.map_nil, List.cons_append, List.nil_append, List.length_cons, List.length_nil, Nat.reduceAdd, Nat.reduceSub, List.replicate]
  repeat boot_fact
  refine ite_d (fun h => ?_) fun h => ?_
  · repeat boot_fact
    exact q _ t _ ht (Int.ediv_nonneg hr (by omega)) (Int.emod_nonneg _ (by omega)) (Int.emod_lt_of_pos _ hm)
  · repeat boot_fact
    have e10 : (10 : Int) ^ Int.toNat 18 = 1000000000000000000 := by decide
    refine ite_d (fun h => ?_) fun h => ?_
    · have hl : 0 < ns.length := by rw [List.length_map] at h; omega
      have hl2 : 0 < ((ns.map D.int).length : Int) := h
      repeat boot_fact
      obtain ⟨z, ez⟩ := at_map (ns := ns) (i := t % ((ns.map D.int).length : Int)) (Int.emod_nonneg _ (by omega)) (by have := Int.emod_lt_of_pos t hl2; rw [List.length_map] at this; rw [List.length_map]; exact this)
      refine ix_l ez ?_
      repeat boot_fact
      refine ite_d (fun h => ?_) fun h => ?_
      all_goals repeat boot_fact
      · refine ite_d (fun h => ?_) fun h => ?_
        all_goals repeat boot_fact
        · rw [e10] at h
          exact q _ (t + 1) _ (by omega) (Int.ediv_nonneg (by split <;> omega) (by omega)) (Int.emod_nonneg _ (by omega)) (Int.emod_lt_of_pos _ hm)
        · exact q _ (t + 1) r (by omega) hr (Int.emod_nonneg _ (by omega)) (Int.emod_lt_of_pos _ hm)
      · exact q _ (t + 1) r (by omega) hr (Int.emod_nonneg _ (by omega)) (Int.emod_lt_of_pos _ hm)
    · repeat boot_fact
      refine ite_d (fun h' => ?_) fun h' => ?_
      · exact absurd h' (by omega)
      · repeat boot_fact
        exact q _ (t + 1) r (by omega) hr (Int.emod_nonneg _ (by omega)) (Int.emod_lt_of_pos _ hm)
theorem atI_ok {α : Type} {l : List α} {i : Int} (h : 0 ≤ i) (h2 : i < l.length) : ∃ d, d ∈ l ∧ atI l i = some d := by
  refine ⟨l[i.toNat]'(by omega), List.getElem_mem _, ?_⟩
  unfold atI ixN
  rw [if_pos h, if_pos h2]
  exact List.getElem?_eq_getElem _
/-- what pick picks from -/
def elsOf : D → Option (List D)
  | .str s => some (s.cps.toList.map fun c => .str ⟨#[c]⟩)
  | .lst _ l => some l
  | _ => none
def sp_pick : SpD := fun ds Q Ex => ∃ (ns : List Int) (t r : Int) (x : D) (els : List D), ds = [penD ns t r, x] ∧ elsOf x = some els ∧ 0 < els.length ∧ els.length < 1000000 ∧ 0 ≤ t ∧ 0 ≤ r ∧
  ∀ d t' r', d ∈ els → 0 ≤ t' → 0 ≤ r' → Q d [some (penD ns t' r'), some x]
theorem law_pick (K : PySem.W.Frag) (a : Ad) : ∀ ds Q Ex, sp_pick ds Q Ex → ds.length = 2 ∧ t__law_pick K a sp_draw (fun C l Γ => Ex C l (outsF kp__law_pick Γ 0 2)) { nx := fun Γ => Q .non (outsF kp__law_pick Γ 0 2), rt := fun d Γ => Q d (outsF kp__law_pick Γ 0 2) } (startD ["_law_pen", "_law_some"] ds) := by
  rintro ds Q Ex ⟨ns, t, r, x, els, rfl, ex, h1, h2, ht, hr, q⟩
  refine ⟨rfl, ?_⟩
  unfold t__law_pick
  dsimp only [startD, List.map_cons, List.map_nil, List.cons_append, List.nil_append, List.length_cons, List.length_nil, Nat.reduceAdd, Nat.reduceSub, List.replicate]
  match x, ex with
  | .str s, ex =>
    cases ex
    have el : (s.cps.toList.map fun c => D.str ⟨#[c]⟩).length = s.length := by simp [Str.length]
    rw [el] at h1 h2
    have ec : s.cps.toList.length = s.length := by simp [Str.length]
    repeat boot_fact
    refine ⟨ns, t, r, _, rfl, ht, hr, by omega, by omega, fun d t' r' g1 g2 g3 g4 => ?_⟩
    repeat boot_fact
    obtain ⟨c, mc, e⟩ := atI_ok (l := s.cps.toList) g3 (by rw [ec]; exact g4)
    refine ix_s (by omega) e ?_
    repeat boot_fact
    exact q _ t' r' (List.mem_map_of_mem (f := fun c => D.str ⟨#[c]⟩) mc) g1 g2
  | .lst o l, ex =>
    cases ex
    cases o
    all_goals
      repeat boot_fact
      refine ⟨ns, t, r, _, rfl, ht, hr, by omega, by omega, fun d t' r' g1 g2 g3 g4 => ?_⟩
      repeat boot_fact
      obtain ⟨c, mc, e⟩ := atI_ok g3 g4
      refine ix_l e ?_
      repeat boot_fact
      exact q _ t' r' mc g1 g2


theorem isi_i {K : PySem.W.Frag} {x : D} {t : Value} {c : String} {b : Bool} {k : D → Prop} (ty : TyK K x t) (e : PySem.W.kitOne K t (.type c) = some b) (h : k (.bl b)) : isiD K x (.ty c) k := ⟨t, b, ty, ⟨_, rfl, e⟩, h⟩
theorem isi_a {K : PySem.W.Frag} {x : D} {t : Value} {cs : List D} {us : List Value} {b : Bool} {k : D → Prop} (ty : TyK K x t) (e1 : clsL cs = some us) (e : PySem.W.kitAny K t us = some b) (h : k (.bl b)) : isiD K x (.tup cs) k := ⟨t, b, ty, ⟨us, e1, e⟩, h⟩
def LET : Str := "abcdefghijklmnopqrstuvwxyz"
def isW (s : Str) : Bool := decide (1 ≤ s.length) && decide (s.length ≤ 8) && s.cps.toList.all fun c => decide (c ∈ LET.cps.toList)
def sp_is_word : SpD := fun ds Q Ex => ∃ s : Str, ds = [.str s] ∧ s.length ≤ 1000000 ∧ Q (.bl (isW s)) [some (.str s)]
theorem blsOf_m {α : Type} (f : α → Bool) (g : α → D) (h : ∀ x, g x = .bl (f x)) : ∀ l : List α, blsOf (l.map g) = some (l.map f)
  | [] => rfl
  | x :: l => by
    rw [List.map_cons, List.map_cons, h]
    show (blsOf (l.map g)).map (f x :: ·) = _
    rw [blsOf_m f g h l]
    rfl
theorem flat_one {α : Type} (f : α → D) (g : D → List D) (h : ∀ x, g (f x) = [D.bl true]) : ∀ l : List α, (l.map f).flatMap g = l.map fun _ => D.bl true := fun l => by
  induction l with
  | nil => rfl
  | cons x l ih => rw [List.map_cons, List.flatMap_cons, ih, h]; rfl
theorem flatMap_map {α : Type} (f : α → D) (G : D → List D) (l : List α) : (l.map f).flatMap G = l.flatMap fun x => G (f x) := by
  induction l with
  | nil => rfl
  | cons x l ih => rw [List.map_cons, List.flatMap_cons, List.flatMap_cons, ih]
theorem flatMap_single {α β : Type} (f : α → β) (l : List α) : (l.flatMap fun x => [f x]) = l.map f := by
  induction l with
  | nil => rfl
  | cons x l ih => rw [List.flatMap_cons, List.map_cons, ih]; rfl
/-- is a text's sign among the letters -/
def sgn (d : D) : Bool := match d with | .str ⟨#[c]⟩ => decide (c ∈ LET.cps.toList) | _ => false
theorem sgn_c (c : Nat) : sgn (.str ⟨#[c]⟩) = decide (c ∈ LET.cps.toList) := rfl
theorem law_is_word (K : PySem.W.Frag) (a : Ad) : ∀ ds Q Ex, sp_is_word ds Q Ex → ds.length = 1 ∧ t_is_word K a (fun C l Γ => Ex C l (outsF kp_is_word Γ 0 1)) { nx := fun Γ => Q .non (outsF kp_is_word Γ 0 1), rt := fun d Γ => Q d (outsF kp_is_word Γ 0 1) } (startD ["thing", "sign"] ds) := by
  rintro ds Q Ex ⟨s, rfl, hz, q⟩
  refine ⟨rfl, ?_⟩
  unfold t_is_word
  dsimp only [startD, List.map_cons, List.map_nil, List.cons_append, List.nil_append, List.length_cons, List.length_nil, Nat.reduceAdd, Nat.reduceSub, List.replicate]
  repeat boot_fact
  refine isi_i .str rfl ?_
  repeat boot_fact
  refine ite_d (fun h1 => ?_) fun h1 => ?_
  · repeat boot_fact
    refine ite_nd (fun h2 => ?_) fun h2 => ?_
    all_goals repeat boot_fact
    · have e : isW s = false := by unfold isW; rw [decide_eq_false (p := s.length ≤ 8) (by omega)]; simp
      rw [← e]; exact q
    · refine lc_pure (fun d => [.bl (sgn d)]) (fun _ => Nat.le_refl _) (by simp; exact Nat.le_trans (by simp [Str.length] at hz ⊢; exact hz) (by decide : 1000000 ≤ 16777216)) (fun i d acc kk hi la hk => ?_) ?_
      · rw [List.getElem?_map] at hi
        cases e : s.cps.toList[i]? with
        | none => rw [e] at hi; cases hi
        | some c =>
          rw [e] at hi
          cases hi
          repeat boot_fact
          exact ⟨la, hk⟩
      · rw [flatMap_map, flatMap_single]
        repeat boot_fact
        refine all_l (blsOf_m (fun c => decide (c ∈ LET.cps.toList)) _ (fun _ => rfl) _) ?_
        repeat boot_fact
        have e : isW s = (s.cps.toList.map fun c => decide (c ∈ LET.cps.toList)).all id := by
          unfold isW
          rw [decide_eq_true (p := 1 ≤ s.length) (by omega), decide_eq_true (p := s.length ≤ 8) (by omega), List.all_map]
          rfl
        rw [← e]; exact q
  · repeat boot_fact
    have e : isW s = false := by unfold isW; rw [decide_eq_false (p := 1 ≤ s.length) (by omega)]; simp
    rw [← e]; exact q

def sp_needA (a : Ad) : SpD := fun ds Q Ex => ∃ b, ds = [.bl b] ∧ (b = true → Q .non [some (.bl b)]) ∧ (b = false → Ex a.NoText [("line", .int 0)] [some (.bl b)])
theorem law_need (K : PySem.W.Frag) (a : Ad) : ∀ ds Q Ex, sp_needA a ds Q Ex → ds.length = 1 ∧ t_need K a (fun C l Γ => Ex C l (outsF kp_need Γ 0 1)) { nx := fun Γ => Q .non (outsF kp_need Γ 0 1), rt := fun d Γ => Q d (outsF kp_need Γ 0 1) } (startD ["truth"] ds) := by
  rintro ds Q Ex ⟨b, rfl, h1, h2⟩
  refine ⟨rfl, ?_⟩
  unfold t_need
  dsimp only [startD, List.map_cons, List.map_nil, List.cons_append, List.nil_append, List.length_cons, List.length_nil, Nat.reduceAdd, Nat.reduceSub, List.replicate]
  repeat boot_fact
  cases b with
  | true => repeat boot_fact
            exact h1 rfl
  | false => repeat boot_fact
             exact ⟨_, rfl, h2 rfl⟩
/-- signs that a text of this law may have -/
def okS (s : Str) : Prop := s.length ≤ 10000 ∧ ∀ c ∈ s.cps.toList, c < 128
def sp__is_word : SpD := fun ds Q Ex => ∃ s : Str, ds = [.str s] ∧ okS s ∧ Q (.bl (isW s)) [some (.str s)]
theorem law__is_word (K : PySem.W.Frag) (a : Ad) : ∀ ds Q Ex, sp__is_word ds Q Ex → ds.length = 1 ∧ t__law_is_word K a (fun C l Γ => Ex C l (outsF kp__law_is_word Γ 0 1)) { nx := fun Γ => Q .non (outsF kp__law_is_word Γ 0 1), rt := fun d Γ => Q d (outsF kp__law_is_word Γ 0 1) } (startD ["_law_text", "_law_sign"] ds) := by
  rintro ds Q Ex ⟨s, rfl, ⟨hz, h128⟩, q⟩
  refine ⟨rfl, ?_⟩
  unfold t__law_is_word
  dsimp only [startD, List.map_cons, List.map_nil, List.cons_append, List.nil_append, List.length_cons, List.length_nil, Nat.reduceAdd, Nat.reduceSub, List.replicate]
  repeat boot_fact
  refine ite_d (fun h1 => ?_) fun h1 => ?_
  · repeat boot_fact
    refine ite_d (fun h2 => ?_) fun h2 => ?_
    all_goals repeat boot_fact
    · refine lc_pure (fun d => if sgn d then [] else [d]) (fun d => by split <;> simp) (by simp [Str.length] at hz ⊢; omega) (fun i d acc kk hi la hk => ?_) ?_
      · rw [List.getElem?_map] at hi
        cases e : s.cps.toList[i]? with
        | none => rw [e] at hi; cases hi
        | some c =>
          rw [e] at hi
          cases hi
          repeat boot_fact
          refine ite_nd (fun h => ?_) fun h => ?_
          · repeat boot_fact
            refine ⟨la, ?_⟩
            have e2 : sgn (.str ⟨#[c]⟩) = false := decide_eq_false h
            rw [e2] at hk
            exact hk
          · have e2 : sgn (.str ⟨#[c]⟩) = true := decide_eq_true h
            rw [e2] at hk
            simp only [if_true, List.append_nil] at hk
            exact hk
      · rw [flatMap_map]
        repeat boot_fact
        refine eq_nil ?_ ?_
        · rw [List.all_eq_true]
          intro d hd
          obtain ⟨c, hc, hd⟩ := List.mem_flatMap.mp hd
          have e : d = .str ⟨#[c]⟩ := by split at hd <;> simp at hd; exact hd
          subst e
          have := h128 c hc
          show PyData.strOk ⟨#[c]⟩ = true
          simp [PyData.strOk]
          omega
        repeat boot_fact
        have e : isW s = (s.cps.toList.flatMap fun x => if sgn (D.str { cps := #[x] }) = true then [] else [D.str { cps := #[x] }]).isEmpty := by
          unfold isW
          rw [decide_eq_true (p := 1 ≤ s.length) (by omega), decide_eq_true (p := s.length ≤ 8) (by omega), Bool.true_and, Bool.true_and, Bool.eq_iff_iff, List.all_eq_true, List.isEmpty_iff, List.flatMap_eq_nil_iff]
          refine ⟨fun h c hc => ?_, fun h c hc => ?_⟩
          · rw [if_pos (show sgn (.str ⟨#[c]⟩) = true from h c hc)]
          · by_cases z : sgn (.str ⟨#[c]⟩) = true
            · exact z
            · have := h c hc
              rw [if_neg z] at this
              cases this
        rw [← e]; exact q
    · have e : isW s = false := by unfold isW; rw [decide_eq_false (p := s.length ≤ 8) (by omega)]; simp
      rw [← e]; exact q
  · repeat boot_fact
    have e : isW s = false := by unfold isW; rw [decide_eq_false (p := 1 ≤ s.length) (by omega)]; simp
    rw [← e]; exact q


def partsOf (s : Str) : List Str := Txt.split s ","
def wordsOf (s : Str) : List Str := Txt.split s " "
def okP (p : Str) : Bool := (wordsOf p).length == 3 && (wordsOf p).all isW
def tupP (p : Str) : D := .tup ((wordsOf p).map .str)
def rd (s : Str) : Option (List D) := if (partsOf s).all okP = true then some ((partsOf s).map tupP) else none
theorem mem_joinL {S : List Nat} : ∀ {ps : List (List Nat)} {p : List Nat}, p ∈ ps → (∀ c ∈ p, c ∈ TL.joinL S ps) ∧ p.length ≤ (TL.joinL S ps).length
  | [p'], p, h => by
    have e : p = p' := by simpa using h
    subst e
    exact ⟨fun c hc => hc, Nat.le_refl _⟩
  | p' :: q :: r, p, h => by
    rcases List.mem_cons.mp h with e | h
    · subst e
      refine ⟨fun c hc => ?_, ?_⟩
      · show c ∈ p ++ (S ++ TL.joinL S (q :: r))
        exact List.mem_append_left _ hc
      · show p.length ≤ (p ++ (S ++ TL.joinL S (q :: r))).length
        rw [List.length_append]; omega
    · obtain ⟨a, b⟩ := mem_joinL (S := S) h
      refine ⟨fun c hc => ?_, ?_⟩
      · show c ∈ p' ++ (S ++ TL.joinL S (q :: r))
        exact List.mem_append_right _ (List.mem_append_right _ (a c hc))
      · show p.length ≤ (p' ++ (S ++ TL.joinL S (q :: r))).length
        rw [List.length_append, List.length_append]; omega
theorem part_in {x y p : Str} (h : p ∈ Txt.split x y) : (∀ c ∈ p.cps.toList, c ∈ x.cps.toList) ∧ p.length ≤ x.length := by
  have e := congrArg TL.tl (StrLaws.join_split x y)
  rw [TL.tl_join] at e
  obtain ⟨a, b⟩ := mem_joinL (S := TL.tl y) (List.mem_map_of_mem (f := TL.tl) h)
  rw [e] at a b
  exact ⟨a, by rw [TL.len_tl p, TL.len_tl x]; exact b⟩
theorem part_ok {x y p : Str} (h : p ∈ Txt.split x y) (k : okS x) : okS p := ⟨Nat.le_trans (part_in h).2 k.1, fun c hc => k.2 c ((part_in h).1 c hc)⟩
theorem split_num {x : Str} {y : Str} (hy : TL.tl y ≠ []) (hk : y.cps.all (· < 256) = true) : (Txt.split x y).length ≤ x.length + 1 := by
  have e := congrArg List.length (TL.split_spl x y hy (TL.kind_ok hk))
  rw [List.length_map] at e
  rw [e, TL.len_tl x]
  have g : ∀ (l : List Nat) (k : Nat) (acc : List Nat), (TL.spl (TL.tl y) k acc l).length ≤ l.length + 1 := by
    intro l
    induction l with
    | nil => intro k acc; rw [TL.spl_nil]; simp
    | cons c r ih =>
      intro k acc
      cases k with
      | succ k =>
        rw [TL.spl_pass]
        have := ih k acc
        rw [TL.spl_pass] at this
        show (TL.spl (TL.tl y) 0 acc (r.drop k)).length ≤ _
        rw [List.length_cons]
        omega
      | zero =>
        by_cases h : TL.pre (TL.tl y) (c :: r) = true
        · rw [TL.spl_hit h, List.length_cons, List.length_cons]
          have := ih ((TL.tl y).length - 1) []
          omega
        · rw [TL.spl_miss (by simpa using h), List.length_cons]
          have := ih 0 (acc ++ [c])
          omega
  exact g _ _ _
def sp_read (a : Ad) : SpD := fun ds Q Ex => ∃ d, ds = [d] ∧ ((∃ s, d = .str s ∧ okS s ∧ (∀ l, rd s = some l → Q (.lst .o l) [some d]) ∧ (rd s = none → Ex a.NoText [("line", .int 0)] [some d])) ∨
  ((d.fz = true ∧ ∀ K, ∃ t, TyK K d t ∧ PySem.W.kitOne K t (.type "str") = some false) ∧ Ex a.NoText [("line", .int 0)] [some d]))
def isWd (d : D) : Bool := match d with | .str s => isW s | _ => false
theorem rd_bad {s p : Str} (h : p ∈ partsOf s) (b : okP p = false) : rd s = none := by
  unfold rd
  rw [if_neg]
  intro z
  rw [List.all_eq_true] at z
  rw [z p h] at b
  cases b
theorem sp_all {l : List Str} (h : l.all okP = true) {p : Str} (hp : okP p = true) : (l ++ [p]).all okP = true := by
  rw [List.all_append, h, Bool.true_and, List.all_cons, hp]
  rfl
theorem take_one {α : Type} {l : List α} {i : Nat} {x : α} (h : l[i]? = some x) : l.take (i + 1) = l.take i ++ [x] := by
  rw [List.take_add_one, h]
  rfl
theorem law_read_steps (K : PySem.W.Frag) (a : Ad) : ∀ ds Q Ex, sp_read a ds Q Ex → ds.length = 1 ∧ t_read_steps K a sp_is_word (sp_needA a) (fun C l Γ => Ex C l (outsF kp_read_steps Γ 0 1)) { nx := fun Γ => Q .non (outsF kp_read_steps Γ 0 1), rt := fun d Γ => Q d (outsF kp_read_steps Γ 0 1) } (startD ["text", "found", "part", "step", "word"] ds) := by
  rintro ds Q Ex ⟨d, rfl, h⟩
  refine ⟨rfl, ?_⟩
  unfold t_read_steps
  dsimp only [startD, List.map_cons, List.map_nil, List.cons_append, List.nil_append, List.length_cons, List.length_nil, Nat.reduceAdd, Nat.reduceSub, List.replicate]
  rcases h with ⟨s, rfl, ks, h1, h2⟩ | ⟨⟨z, h1⟩, h2⟩
  · repeat boot_fact
    refine isi_i .str rfl ?_
    repeat boot_fact
    refine ⟨true, rfl, fun _ => ?_, fun z => by cases z⟩
    repeat boot_fact
    have hz := ks.1
    refine split_i rfl (by omega) ?_
    repeat boot_fact
    refine ⟨rfl, fun i Γ => ((partsOf s).take i).all okP = true ∧ ∃ x y, Γ = [some (.str s), some (.lst .o (((partsOf s).take i).map tupP)), x, y, none], ⟨rfl, none, none, rfl⟩, fun i d Γ2 hi ⟨ha, x, y, e⟩ => ?_, fun Γ2 ⟨ha, x, y, e⟩ => ?_⟩
    · subst e
      rw [List.getElem?_map] at hi
      cases e : (Txt.split s ",")[i]? with
      | none => rw [e] at hi; cases hi
      | some p =>
        rw [e] at hi
        cases hi
        have mp : p ∈ Txt.split s "," := List.mem_of_getElem? e
        have kp := part_ok mp ks
        repeat boot_fact
        have := kp.1
        refine split_i rfl (by omega) ?_
        repeat boot_fact
        have pz : (partsOf s).length ≤ 10001 := Nat.le_trans (split_num (x := s) (y := ",") (by decide) (by decide +kernel)) (by omega)
        have tz : ((((partsOf s).take i).map tupP).length) < 16777216 := by rw [List.length_map, List.length_take]; omega
        have ht : (partsOf s).take (i + 1) = (partsOf s).take i ++ [p] := take_one e
        refine ite_c (fun h3 => ?_) fun h3 => ?_
        · repeat boot_fact
          refine lc_pure (fun d => [.bl (isWd d)]) (fun _ => Nat.le_refl _) (by
            have := split_num (x := p) (y := " ") (by decide) (by decide +kernel)
            rw [List.length_map]; omega) (fun j d acc kk hj la hk => ?_) ?_
          · rw [List.getElem?_map] at hj
            cases e5 : (Txt.split p " ")[j]? with
            | none => rw [e5] at hj; cases hj
            | some q =>
              rw [e5] at hj
              cases hj
              have kq := part_ok (List.mem_of_getElem? e5) kp
              have := kq.1
              repeat boot_fact
              refine ⟨q, rfl, by omega, ?_⟩
              repeat boot_fact
              exact ⟨la, hk⟩
          · rw [flatMap_map, flatMap_single]
            repeat boot_fact
            refine all_l (blsOf_m (fun q => isW q) _ (fun _ => rfl) _) ?_
            repeat boot_fact
            have eo : okP p = ((Txt.split p " ").map fun q => isW q).all id := by
              unfold okP wordsOf
              have h4 : ((Txt.split p " ").length == 3) = true := by
                rw [List.length_map] at h3
                have h5 : ((Txt.split p " ").length : Int) = 3 := by simpa using h3
                simpa using (by omega : (Txt.split p " ").length = 3)
              rw [h4, Bool.true_and, List.all_map]
              rfl
            refine ⟨_, rfl, fun hb => ?_, fun hb => ?_⟩
            · repeat boot_fact
              refine ⟨by rw [ht]; exact sp_all ha (eo.trans hb), some (.str p), some (.tup ((Txt.split p " ").map .str)), ?_⟩
              rw [ht, List.map_append]
              rfl
            · exact h2 (rd_bad mp (eo.trans hb))
        · repeat boot_fact
          refine ⟨false, rfl, fun hb => absurd hb (by decide), fun _ => ?_⟩
          refine h2 (rd_bad mp ?_)
          unfold okP wordsOf
          have h4 : ((Txt.split p " ").length == 3) = false := by
            rw [List.length_map] at h3
            have h5 : ¬ ((Txt.split p " ").length : Int) = 3 := by simpa using h3
            have : ¬ (Txt.split p " ").length = 3 := by omega
            simpa using this
          rw [h4, Bool.false_and]
    · subst e
      rw [List.length_map] at *
      repeat boot_fact
      have e2 : (partsOf s).take (Txt.split s ",").length = partsOf s := List.take_length
      rw [e2] at ha
      refine h1 _ ?_
      unfold rd
      rw [if_pos ha, e2]
  · obtain ⟨t, ty, hk⟩ := h1 K
    repeat boot_fact
    refine isi_i ty hk ?_
    repeat boot_fact
    refine ⟨false, rfl, fun hb => absurd hb (by decide), fun _ => ?_⟩
    exact h2


def sp__read : SpD := fun ds Q Ex => ∃ s, ds = [.str s] ∧ okS s ∧ Q (.lst .o ((rd s).getD [])) [some (.str s)]
theorem law__read (K : PySem.W.Frag) (a : Ad) : ∀ ds Q Ex, sp__read ds Q Ex → ds.length = 1 ∧ t__law_read K a sp__is_word (fun C l Γ => Ex C l (outsF kp__law_read Γ 0 1)) { nx := fun Γ => Q .non (outsF kp__law_read Γ 0 1), rt := fun d Γ => Q d (outsF kp__law_read Γ 0 1) } (startD ["_law_text", "_law_found", "_law_part", "_law_words_here", "_law_word"] ds) := by
  rintro ds Q Ex ⟨s, rfl, ks, q⟩
  refine ⟨rfl, ?_⟩
  unfold t__law_read
  dsimp only [startD, List.map_cons, List.map_nil, List.cons_append, List.nil_append, List.length_cons, List.length_nil, Nat.reduceAdd, Nat.reduceSub, List.replicate]
  have hz := ks.1
  repeat boot_fact
  refine split_i rfl (by omega) ?_
  repeat boot_fact
  have pz : (partsOf s).length ≤ 10001 := Nat.le_trans (split_num (x := s) (y := ",") (by decide) (by decide +kernel)) (by omega)
  refine ⟨rfl, fun i Γ => ((partsOf s).take i).all okP = true ∧ ∃ x y, Γ = [some (.str s), some (.lst .o (((partsOf s).take i).map tupP)), x, y, none], ⟨rfl, none, none, rfl⟩, fun i d Γ2 hi ⟨ha, x, y, e⟩ => ?_, fun Γ2 ⟨ha, x, y, e⟩ => ?_⟩
  · subst e
    rw [List.getElem?_map] at hi
    cases e : (Txt.split s ",")[i]? with
    | none => rw [e] at hi; cases hi
    | some p =>
      rw [e] at hi
      cases hi
      have mp : p ∈ Txt.split s "," := List.mem_of_getElem? e
      have kp := part_ok mp ks
      repeat boot_fact
      have := kp.1
      refine split_i rfl (by omega) ?_
      repeat boot_fact
      have tz : ((((partsOf s).take i).map tupP).length) < 16777216 := by rw [List.length_map, List.length_take]; omega
      have ht : (partsOf s).take (i + 1) = (partsOf s).take i ++ [p] := take_one e
      have bad : okP p = false → Q (.lst .o []) [some (.str s)] := fun h => by
        rw [rd_bad mp h] at q
        exact q
      have ln : ((((Txt.split p " ").map D.str).length : Int) == 3) = ((Txt.split p " ").length == 3) := by
        rw [List.length_map]
        rw [Bool.eq_iff_iff]
        simp
        omega
      cases h3 : ((((Txt.split p " ").map D.str).length : Int) == 3) with
      | false =>
        repeat boot_fact
        refine bad ?_
        unfold okP wordsOf
        rw [← ln, h3, Bool.false_and]
      | true =>
        repeat boot_fact
        refine lc_pure (fun d => [.bl (isWd d)]) (fun _ => Nat.le_refl _) (by
            have := split_num (x := p) (y := " ") (by decide) (by decide +kernel)
            rw [List.length_map]; omega) (fun j d acc kk hj la hk => ?_) ?_
        · rw [List.getElem?_map] at hj
          cases e5 : (Txt.split p " ")[j]? with
          | none => rw [e5] at hj; cases hj
          | some q =>
            rw [e5] at hj
            cases hj
            have kq := part_ok (List.mem_of_getElem? e5) kp
            repeat boot_fact
            refine ⟨q, rfl, kq, ?_⟩
            repeat boot_fact
            exact ⟨la, hk⟩
        · rw [flatMap_map, flatMap_single]
          have em : ((Txt.split p " ").map fun x => D.bl (isWd (.str x))) = ((Txt.split p " ").map isW).map D.bl := by rw [List.map_map]; rfl
          rw [em]
          repeat boot_fact
          refine in_l (flat_bls _) ?_
          rw [inL_bls]
          have eo : okP p = ((Txt.split p " ").map isW).all id := by
            unfold okP wordsOf
            rw [← ln, h3, Bool.true_and, List.all_map]
            rfl
          rw [← eo]
          repeat boot_fact
          cases ho : okP p with
          | false =>
            repeat boot_fact
            exact bad ho
          | true =>
            repeat boot_fact
            refine ⟨by rw [ht]; exact sp_all ha ho, some (.str p), some (.lst .o ((Txt.split p " ").map .str)), ?_⟩
            rw [ht, List.map_append]
            rfl
  · subst e
    repeat boot_fact
    rw [List.length_map] at *
    have e2 : (partsOf s).take (Txt.split s ",").length = partsOf s := List.take_length
    rw [e2] at ha
    have e3 : rd s = some ((partsOf s).map tupP) := by unfold rd; rw [if_pos ha]
    rw [e3] at q
    rw [e2]
    exact q


/-- what the written part says of the classes of refusals -/
structure KF (K : PySem.W.Frag) (a : Ad) : Prop where
  ex : PySem.W.exmOne K (.ref a.NoText) (.ref a.SwapError) = some true
  xk : ExcK K a.NoText
  ve : PySem.W.kitOne K (.ref a.NoText) (.type "ValueError") = some true
  no : PySem.W.kitAny K (.ref a.NoText) [.ref a.NoBook, .ref a.NoPage, .ref a.NoHouse, .ref a.NotWanted, .ref a.Taken, .ref a.TooMany, .ref a.Clash, .ref a.NoRow, .ref a.Unfit, .ref a.NoName] = some false
  fl : ExF K a.NoText "line"
theorem isi_o {K : PySem.W.Frag} {x : D} {t : Value} {c : Addr} {b : Bool} {k : D → Prop} (ty : TyK K x t) (e : PySem.W.kitOne K t (.ref c) = some b) (h : k (.bl b)) : isiD K x (.ob c) k := ⟨t, b, ty, ⟨_, rfl, e⟩, h⟩
/-- what read_steps refuses -/
def bad (d : D) : Prop := d.fz = true ∧ ((∃ s, d = .str s ∧ okS s ∧ rd s = none) ∨ ∀ K, ∃ t, TyK K d t ∧ PySem.W.kitOne K t (.type "str") = some false)
def sp_refused (a : Ad) : SpD := fun ds Q Ex => ∃ d, ds = [.ob a.read_steps, d, .int 0] ∧ bad d ∧ Q (.bl true) [some (.ob a.read_steps), some d, some (.int 0)]
theorem lend1 {i : Nat} {d : D} {Γ : DEnv} (e : Γ[i]? = some (some d)) (z : d.fz = true) : lend [.s i] Γ = some ([d], Γ) := by
  unfold lend
  rw [e]
  show (if d.fz = true then _ else _) = _
  rw [if_pos z]
  rfl
theorem back1 {i : Nat} {d : D} {o : Option D} {Γ : DEnv} (z : d.fz = true) : back [.s i] [d] [o] Γ = Γ := by
  unfold back
  rw [if_pos z]
  rfl
theorem law_refused (K : PySem.W.Frag) (a : Ad) (kf : KF K a) : ∀ ds Q Ex, sp_refused a ds Q Ex → ds.length = 3 ∧ t__law_refused K a (sp_read a) (fun C l Γ => Ex C l (outsF kp__law_refused Γ 0 3)) { nx := fun Γ => Q .non (outsF kp__law_refused Γ 0 3), rt := fun d Γ => Q d (outsF kp__law_refused Γ 0 3) } (startD ["_law_read_here", "_law_thing", "_law_line", "_law_caught", "error"] ds) := by
  rintro ds Q Ex ⟨d, rfl, ⟨z, hb⟩, q⟩
  refine ⟨rfl, ?_⟩
  unfold t__law_refused
  dsimp only [startD, List.map_cons, List.map_nil, List.cons_append, List.nil_append, List.length_cons, List.length_nil, Nat.reduceAdd, Nat.reduceSub, List.replicate]
  repeat boot_fact
  refine lendTo_i (lend1 rfl z) ?_
  refine ⟨d, rfl, ?_⟩
  have fin : ∀ Γ : DEnv, Γ = [some (.ob a.read_steps), some d, some (.int 0), some (.exn a.NoText [("line", .int 0)]), none] → (dSeq (dIf (dOr (dNot (dTru (dB (f2' (isiD K)) (dCons (dN 3) (dCons (dC (.ob a.NoText)) dNil))))) (dNot (dTru (dB (f2' (isiD K)) (dCons (dN 3) (dCons (dC (.ty "ValueError")) dNil))))))
   (dRet (dC (.bl false)))
   dNext)
   (dSeq (dIf (dTru (dB (f2' (isiD K)) (dCons (dN 3) (dCons (dTup (dCons (dC (.ob a.NoBook)) (dCons (dC (.ob a.NoPage)) (dCons (dC (.ob a.NoHouse)) (dCons (dC (.ob a.NotWanted)) (dCons (dC (.ob a.Taken)) (dCons (dC (.ob a.TooMany)) (dCons (dC (.ob a.Clash)) (dCons (dC (.ob a.NoRow)) (dCons (dC (.ob a.Unfit)) (dCons (dC (.ob a.NoName)) dNil))))))))))) dNil))))
   (dRet (dC (.bl false)))
   dNext)
   (dRet (dAndV (dNotV (dB (f2' (isiD K)) (dCons (dFldX K (dN 3) "line") (dCons (dC (.ty "bool")) dNil)))) (dBin eqD (dFldX K (dN 3) "line") (dN 2)))))) (fun C l Γ => Ex C l (outsF kp__law_refused Γ 0 3)) { nx := fun Γ => Q .non (outsF kp__law_refused Γ 0 3), rt := fun d Γ => Q d (outsF kp__law_refused Γ 0 3) } Γ := by
    rintro Γ rfl
    repeat boot_fact
    refine isi_o (.exn kf.xk) (show PySem.W.kitOne K (.ref a.NoText) (.ref a.NoText) = some true by unfold PySem.W.kitOne; simp) ?_
    repeat boot_fact
    refine isi_i (.exn kf.xk) kf.ve ?_
    repeat boot_fact
    refine isi_a (.exn kf.xk) rfl kf.no ?_
    repeat boot_fact
    refine fldx_i ?_
    repeat boot_fact
    refine ⟨_, _, _, rfl, kf.fl, rfl, ?_⟩
    repeat boot_fact
    refine isi_i (b := false) .int (by kernel_rfl) ?_
    repeat boot_fact
    refine fldx_i ?_
    repeat boot_fact
    refine ⟨_, _, _, rfl, kf.fl, rfl, ?_⟩
    repeat boot_fact
    exact q
  have go : ∀ Γ : DEnv, Γ = [some (.ob a.read_steps), some d, some (.int 0), some .non, none] → (∃ b, PySem.W.exmOne K (.ref a.NoText) (.ref a.SwapError) = some b ∧ (b = true → (fun Γ : DEnv => (dSeq (dIf (dOr (dNot (dTru (dB (f2' (isiD K)) (dCons (dN 3) (dCons (dC (.ob a.NoText)) dNil))))) (dNot (dTru (dB (f2' (isiD K)) (dCons (dN 3) (dCons (dC (.ty "ValueError")) dNil))))))
   (dRet (dC (.bl false)))
   dNext)
   (dSeq (dIf (dTru (dB (f2' (isiD K)) (dCons (dN 3) (dCons (dTup (dCons (dC (.ob a.NoBook)) (dCons (dC (.ob a.NoPage)) (dCons (dC (.ob a.NoHouse)) (dCons (dC (.ob a.NotWanted)) (dCons (dC (.ob a.Taken)) (dCons (dC (.ob a.TooMany)) (dCons (dC (.ob a.Clash)) (dCons (dC (.ob a.NoRow)) (dCons (dC (.ob a.Unfit)) (dCons (dC (.ob a.NoName)) dNil))))))))))) dNil))))
   (dRet (dC (.bl false)))
   dNext)
   (dRet (dAndV (dNotV (dB (f2' (isiD K)) (dCons (dFldX K (dN 3) "line") (dCons (dC (.ty "bool")) dNil)))) (dBin eqD (dFldX K (dN 3) "line") (dN 2)))))) (fun C l Γ => Ex C l (outsF kp__law_refused Γ 0 3)) { nx := fun Γ => Q .non (outsF kp__law_refused Γ 0 3), rt := fun d Γ => Q d (outsF kp__law_refused Γ 0 3) } Γ) ((Γ.set 3 (some (.exn a.NoText [("line", .int 0)]))).set 4 none)) ∧ (b = false → Ex a.NoText [("line", .int 0)] (outsF kp__law_refused Γ 0 3))) := by
    rintro Γ rfl
    exact ⟨true, kf.ex, fun _ => fin _ rfl, fun z => absurd z (by decide)⟩
  rcases hb with ⟨s, rfl, ks, hn⟩ | hk
  · refine .inl ⟨s, rfl, ks, (fun l e => absurd (hn.symm.trans e) (by simp)), fun _ => ?_⟩
    exact go _ rfl
  · refine .inr ⟨⟨z, hk⟩, ?_⟩
    refine go _ ?_
    rw [back1 z]
    rfl


def sp_like : Nat → SpD
  | 0 => fun ds Q Ex => ∃ s, ds = [.str s, .str s] ∧ Q (.bl true) [some (.str s), some (.str s)]
  | n + 1 => fun ds Q Ex => ∃ xs x, (x = .tup xs ∨ x = .lst .o xs) ∧ ds = [x, x] ∧ xs.length ≤ 100000 ∧ (∀ d ∈ xs, d.fz = true ∧ ∀ Q' Ex', Q' (.bl true) [some d, some d] → sp_like n [d, d] Q' Ex') ∧ Q (.bl true) [some x, some x]
theorem lend2 {i j : Nat} {d e : D} {Γ : DEnv} (h1 : Γ[i]? = some (some d)) (z : d.fz = true) (h2 : Γ[j]? = some (some e)) (y : e.fz = true) : lend [.s i, .s j] Γ = some ([d, e], Γ) := by
  unfold lend
  rw [h1]
  show (if d.fz = true then _ else _) = _
  rw [if_pos z, lend1 h2 y]
theorem back2 {i j : Nat} {d e : D} {o o' : Option D} {Γ : DEnv} (z : d.fz = true) (y : e.fz = true) : back [.s i, .s j] [d, e] [o, o'] Γ = Γ := by
  unfold back
  rw [if_pos z, back1 y]
theorem zip_same {xs : List D} {i : Nat} {p : D} (h : ((xs.zip xs).map fun p => D.tup [p.1, p.2])[i]? = some p) : ∃ d, d ∈ xs ∧ p = .tup [d, d] := by
  rw [List.getElem?_map] at h
  cases e : (xs.zip xs)[i]? with
  | none => rw [e] at h; cases h
  | some q =>
    rw [e] at h
    cases h
    rw [List.getElem?_zip_eq_some] at e
    have e2 : q.1 = q.2 := Option.some.inj (e.1.symm.trans e.2)
    refine ⟨q.1, List.mem_of_getElem? e.1, ?_⟩
    show D.tup [q.1, q.2] = _
    rw [← e2]
theorem const_flat (xs : List D) : xs.flatMap (fun _ => [D.bl true]) = (List.replicate xs.length true).map D.bl := by
  induction xs with
  | nil => rfl
  | cons x l ih => rw [List.flatMap_cons, ih]; rfl
theorem all_rep (n : Nat) : (List.replicate n true).all id = true := by
  induction n with
  | zero => rfl
  | succ n ih => rw [List.replicate_succ, List.all_cons, ih]; rfl
theorem law_like0 (K : PySem.W.Frag) (a : Ad) (sp : SpD) : ∀ ds Q Ex, sp_like 0 ds Q Ex → ds.length = 2 ∧ t__law_like K a sp (fun C l Γ => Ex C l (outsF kp__law_like Γ 0 2)) { nx := fun Γ => Q .non (outsF kp__law_like Γ 0 2), rt := fun d Γ => Q d (outsF kp__law_like Γ 0 2) } (startD ["_law_found", "_law_due", "_law_one", "_law_other"] ds) := by
  rintro ds Q Ex ⟨s, rfl, q⟩
  refine ⟨rfl, ?_⟩
  unfold t__law_like
  dsimp only [startD, List.map_cons, List.map_nil, List.cons_append, List.nil_append, List.length_cons, List.length_nil, Nat.reduceAdd, Nat.reduceSub, List.replicate]
  repeat boot_fact
  refine isi_a (b := false) .str rfl (by kernel_rfl) ?_
  repeat boot_fact
  show (isnD (.str s) .non _)
  refine isn_s ?_
  repeat boot_fact
  refine isn_s ?_
  repeat boot_fact
  refine isi_i (b := false) .str (by kernel_rfl) ?_
  repeat boot_fact
  refine isi_i (b := false) .str (by kernel_rfl) ?_
  repeat boot_fact
  refine isi_a (b := true) .str rfl (by kernel_rfl) ?_
  repeat boot_fact
  have e : (s == s) = true := by simp
  rw [e]
  exact q
theorem law_likeS (n : Nat) (K : PySem.W.Frag) (a : Ad) : ∀ ds Q Ex, sp_like (n + 1) ds Q Ex → ds.length = 2 ∧ t__law_like K a (sp_like n) (fun C l Γ => Ex C l (outsF kp__law_like Γ 0 2)) { nx := fun Γ => Q .non (outsF kp__law_like Γ 0 2), rt := fun d Γ => Q d (outsF kp__law_like Γ 0 2) } (startD ["_law_found", "_law_due", "_law_one", "_law_other"] ds) := by
  rintro ds Q Ex ⟨xs, x, hx, rfl, hz, hd, q⟩
  refine ⟨rfl, ?_⟩
  unfold t__law_like
  dsimp only [startD, List.map_cons, List.map_nil, List.cons_append, List.nil_append, List.length_cons, List.length_nil, Nat.reduceAdd, Nat.reduceSub, List.replicate]
  have fin : ∀ (te : TB) (Γ1 : DEnv) (gv : List (Nat × D)), True := fun _ _ _ => trivial
  have el : ((xs.length : Int) == (xs.length : Int)) = true := by simp
  have zl : ((xs.zip xs).map fun p => D.tup [p.1, p.2]).length ≤ 16777216 := by rw [List.length_map, List.length_zip]; omega
  rcases hx with rfl | rfl
  · repeat boot_fact
    refine isi_a (b := true) .tup rfl (by kernel_rfl) ?_
    repeat boot_fact
    refine isi_i (b := false) .tup (by kernel_rfl) ?_
    repeat boot_fact
    refine isi_i (b := false) .tup (by kernel_rfl) ?_
    repeat boot_fact
    show if (!(false == false)) = true then _ else _
    refine dl_nt ?_
    repeat boot_fact
    refine isi_a (b := true) .tup rfl (by kernel_rfl) ?_
    repeat boot_fact
    rw [el]
    repeat boot_fact
    refine lc_pure (fun _ => [.bl true]) (fun _ => Nat.le_refl _) zl (fun i d acc kk hi la hk => ?_) ?_
    · obtain ⟨d, md, rfl⟩ := zip_same hi
      obtain ⟨z, hc⟩ := hd d md
      repeat boot_fact
      refine lendTo_i (lend2 rfl z rfl z) ?_
      refine hc _ _ ?_
      rw [back2 z z]
      repeat boot_fact
      exact ⟨la, hk⟩
    · rw [const_flat]
      repeat boot_fact
      refine nin_l (flat_bls _) ?_
      rw [inL_bls, all_rep]
      repeat boot_fact
      exact q
  · repeat boot_fact
    refine isi_a (b := true) .lst rfl (by kernel_rfl) ?_
    repeat boot_fact
    refine isi_i (b := true) .lst (by kernel_rfl) ?_
    repeat boot_fact
    refine isi_i (b := true) .lst (by kernel_rfl) ?_
    repeat boot_fact
    show if (!(true == true)) = true then _ else _
    refine dl_nt ?_
    repeat boot_fact
    refine isi_a (b := true) .lst rfl (by kernel_rfl) ?_
    repeat boot_fact
    rw [el]
    repeat boot_fact
    refine lc_pure (fun _ => [.bl true]) (fun _ => Nat.le_refl _) zl (fun i d acc kk hi la hk => ?_) ?_
    · obtain ⟨d, md, rfl⟩ := zip_same hi
      obtain ⟨z, hc⟩ := hd d md
      repeat boot_fact
      refine lendTo_i (lend2 rfl z rfl z) ?_
      refine hc _ _ ?_
      rw [back2 z z]
      repeat boot_fact
      exact ⟨la, hk⟩
    · rw [const_flat]
      repeat boot_fact
      refine nin_l (flat_bls _) ?_
      rw [inL_bls, all_rep]
      repeat boot_fact
      exact q


def sp_words : SpD := fun ds Q Ex => ∃ (ns : List Int) (t r m : Int), ds = [penD ns t r, .int m] ∧ 0 ≤ t ∧ 0 ≤ r ∧ 0 ≤ m ∧ m ≤ 1000 ∧
  ∀ (ws : List Str) t' r', 0 ≤ t' → 0 ≤ r' → ws.length = m.toNat → (∀ w ∈ ws, isW w = true) → Q (.lst .o (ws.map .str)) [some (penD ns t' r'), some (.int m)]
theorem joinL_one : ∀ cs : List Nat, TL.joinL [] (cs.map fun c => [c]) = cs
  | [] => rfl
  | [c] => rfl
  | c :: d :: r => by
    have ih := joinL_one (d :: r)
    show [c] ++ ([] ++ TL.joinL [] ((d :: r).map fun c => [c])) = _
    rw [ih]
    rfl
theorem strsOf_m {α : Type} (f : α → Str) (g : α → D) (h : ∀ x, g x = .str (f x)) : ∀ l : List α, strsOf (l.map g) = some (l.map f)
  | [] => rfl
  | x :: l => by
    rw [List.map_cons, List.map_cons, h]
    show (strsOf (l.map g)).map (f x :: ·) = _
    rw [strsOf_m f g h l]
    rfl
theorem sum_one (cs : List Nat) : ((cs.map fun c => (⟨#[c]⟩ : Str)).map (·.length)).sum = cs.length := by
  induction cs with
  | nil => rfl
  | cons c cs ih =>
    rw [List.map_cons, List.map_cons, List.sum_cons, ih, List.length_cons]
    show 1 + cs.length = _
    omega
theorem join_ones (cs : List Nat) : (Txt.join ("" : Str) (cs.map fun c => (⟨#[c]⟩ : Str))).cps.toList = cs := by
  have e := TL.tl_join ("" : Str) (cs.map fun c => (⟨#[c]⟩ : Str))
  rw [← TL.join_eq, List.map_map] at e
  have e2 : (cs.map (TL.tl ∘ fun c => (⟨#[c]⟩ : Str))) = cs.map fun c => [c] := rfl
  have e3 : TL.tl ("" : Str) = [] := by decide
  rw [e2, e3, joinL_one] at e
  exact e
theorem sIx_ok {n d : Nat} {i : Int} (h : 0 ≤ i) (h2 : i ≤ n) : HT.sIx n d (some i) = i.toNat := by
  obtain ⟨k, rfl⟩ := Int.eq_ofNat_of_zero_le h
  rw [HT.sIx_nat]
  show min k n = k
  omega
theorem LET_len : LET.cps.toList.length = 26 := by decide
theorem len_cps (s : Str) : s.length = s.cps.toList.length := by simp [Str.length]
theorem cut_sub {z : Str} {lo hi : Option Int} {c : Nat} (h : c ∈ (cutS z lo hi).cps.toList) : c ∈ z.cps.toList := List.mem_of_mem_drop (List.mem_of_mem_take h)
theorem word_ok {base : Str} {spot u : Int} {c : Nat} (h1 : ∀ x ∈ base.cps.toList, x ∈ LET.cps.toList) (h2 : c ∈ LET.cps.toList) (h3 : 0 ≤ spot) (h4 : spot ≤ base.length) (h5 : base.length ≤ 7) :
    isW (cutS base none (some spot) ++ ⟨#[c]⟩ ++ cutS (cutS base (some spot) none) none (some u)) = true := by
  have l1 : (cutS base none (some spot)).length ≤ spot.toNat := by
    rw [len_cps]
    show ((base.cps.toList.drop (HT.sIx base.length 0 none)).take (HT.sIx base.length base.length (some spot) - HT.sIx base.length 0 none)).length ≤ _
    rw [List.length_take, sIx_ok h3 h4]
    omega
  have l2 : (cutS base (some spot) none).length ≤ base.length - spot.toNat := by
    rw [len_cps]
    show ((base.cps.toList.drop (HT.sIx base.length 0 (some spot))).take (HT.sIx base.length base.length none - HT.sIx base.length 0 (some spot))).length ≤ _
    rw [List.length_take, List.length_drop, sIx_ok h3 h4, len_cps base]
    omega
  have l3 := cutS_length (cutS base (some spot) none) none (some u)
  have tl_ : ∀ x : Str, x.cps.toList = TL.tl x := fun _ => rfl
  have len : (cutS base none (some spot) ++ ⟨#[c]⟩ ++ cutS (cutS base (some spot) none) none (some u)).length = (cutS base none (some spot)).length + 1 + (cutS (cutS base (some spot) none) none (some u)).length := by
    rw [TL.len_tl, TL.tl_append, TL.tl_append, List.length_append, List.length_append, ← TL.len_tl, ← TL.len_tl]
    rfl
  unfold isW
  rw [decide_eq_true (by omega), decide_eq_true (by omega), Bool.true_and, Bool.true_and, List.all_eq_true]
  intro x hx
  rw [tl_, TL.tl_append, TL.tl_append] at hx
  refine decide_eq_true ?_
  rcases List.mem_append.mp hx with hx | hx
  · rcases List.mem_append.mp hx with hx | hx
    · exact h1 x (cut_sub hx)
    · have e : x = c := by simpa [TL.tl] using hx
      rw [e]; exact h2
  · exact h1 x (cut_sub (cut_sub hx))
theorem rng_get {n i : Nat} {d : D} (h : (rangeL 0 n)[i]? = some d) : d = .int (i : Int) ∧ i < n := by
  unfold rangeL at h
  rw [List.getElem?_map] at h
  by_cases q : i < n
  · rw [List.getElem?_range q] at h
    cases h
    exact ⟨by simp, q⟩
  · rw [List.getElem?_eq_none (by simpa using q)] at h
    cases h
theorem rng_len (n : Nat) : (rangeL 0 n).length = n := by simp [rangeL]
theorem law_words (K : PySem.W.Frag) (a : Ad) : ∀ ds Q Ex, sp_words ds Q Ex → ds.length = 2 ∧ t__law_words K a sp_draw sp_pick (fun C l Γ => Ex C l (outsF kp__law_words Γ 0 2)) { nx := fun Γ => Q .non (outsF kp__law_words Γ 0 2), rt := fun d Γ => Q d (outsF kp__law_words Γ 0 2) } (startD ["_law_pen", "_law_many", "_law_letters", "_law_base", "_law_spot", "_law_first", "_law_leap", "_law_found", "_law_k", "_law_tail"] ds) := by
  rintro ds Q Ex ⟨ns, t, r, m, rfl, ht, hr, hm, hm2, q⟩
  refine ⟨rfl, ?_⟩
  unfold t__law_words
  dsimp only [startD, List.map_cons, List.map_nil, List.cons_append, List.nil_append, List.length_cons, List.length_nil, Nat.reduceAdd, Nat.reduceSub, List.replicate]
  repeat boot_fact
  refine ⟨ns, t, r, _, rfl, ht, hr, by decide, by decide, fun d t1 r1 ht1 hr1 hd hd8 => ?_⟩
  repeat boot_fact
  refine ⟨fun i acc Γ => ∃ t r cs, Γ = [some (penD ns t r), some (.int m), some (.str LET), none, none, none, none, none, none, none] ∧ 0 ≤ t ∧ 0 ≤ r ∧ acc = cs.map (fun c => D.str ⟨#[c]⟩) ∧ cs.length = i ∧ ∀ c ∈ cs, c ∈ LET.cps.toList, ⟨t1, r1, [], rfl, ht1, hr1, rfl, rfl, fun _ h => by simp at h⟩, ?_, ?_⟩
  · rintro i d2 acc Γ hi ⟨t2, r2, cs, rfl, ht2, hr2, rfl, hc, hl⟩
    obtain ⟨rfl, hin⟩ := rng_get hi
    repeat boot_fact
    refine ⟨ns, t2, r2, .str LET, _, rfl, rfl, by rw [List.length_map, LET_len]; decide, by rw [List.length_map, LET_len]; decide, ht2, hr2, fun d t3 r3 md ht3 hr3 => ?_⟩
    obtain ⟨c, mc, rfl⟩ := List.mem_map.mp md
    repeat boot_fact
    refine ⟨by rw [List.length_map, hc, sizeLine_eq]; omega, t3, r3, cs ++ [c], rfl, ht3, hr3, by rw [List.map_append]; rfl, by rw [List.length_append, hc]; rfl, fun x hx => ?_⟩
    rcases List.mem_append.mp hx with hx | hx
    · exact hl x hx
    · have e : x = c := by simpa using hx
      rw [e]; exact mc
  · rintro acc Γ ⟨t2, r2, cs, rfl, ht2, hr2, rfl, hc, hl⟩
    rw [rng_len] at hc
    repeat boot_fact
    refine join_l (strsOf_m (fun c => (⟨#[c]⟩ : Str)) _ (fun _ => rfl) cs) ?_ ?_
    · rw [sum_one]
      have e0 : (Str.ofString "").length = 0 := by decide
      rw [e0]
      omega
    generalize hb : Txt.join (Str.ofString "") (cs.map fun c => (⟨#[c]⟩ : Str)) = base
    have eb : base.cps.toList = cs := by rw [← hb]; exact join_ones cs
    have lb : base.length = d.toNat := by rw [len_cps, eb, hc]
    have cb : ∀ x ∈ base.cps.toList, x ∈ LET.cps.toList := fun x hx => hl x (by rw [← eb]; exact hx)
    have b7 : base.length ≤ 7 := by omega
    repeat boot_fact
    refine ⟨ns, t2, r2, _, rfl, ht2, hr2, by omega, by omega, fun spot t3 r3 ht3 hr3 hs0 hs1 => ?_⟩
    repeat boot_fact
    refine ⟨ns, t3, r3, _, rfl, ht3, hr3, by decide, by decide, fun first t4 r4 ht4 hr4 hf0 hf1 => ?_⟩
    repeat boot_fact
    refine ⟨ns, t4, r4, _, _, rfl, rfl, by decide, by decide, ht4, hr4, fun leap t5 r5 ml ht5 hr5 => ?_⟩
    obtain ⟨lp, rfl, hp⟩ : ∃ lp : Int, leap = .int lp ∧ 0 ≤ lp ∧ lp ≤ 11 := by
      simp at ml
      rcases ml with rfl | rfl | rfl | rfl | rfl | rfl <;> exact ⟨_, rfl, by decide, by decide⟩
    repeat boot_fact
    refine ⟨rfl, fun i Γ => ∃ t r ws x y, Γ = [some (penD ns t r), some (.int m), some (.str LET), some (.str base), some (.int spot), some (.int first), some (.int lp), some (.lst .o (ws.map D.str)), x, y] ∧ 0 ≤ t ∧ 0 ≤ r ∧ ws.length = i ∧ ∀ w ∈ ws, isW w = true, ⟨t5, r5, [], none, none, rfl, ht5, hr5, rfl, fun _ h => by simp at h⟩, ?_, ?_⟩
    · rintro i d2 Γ hi ⟨t6, r6, ws, x, y, rfl, ht6, hr6, hw, hall⟩
      obtain ⟨rfl, hin⟩ := rng_get hi
      repeat boot_fact
      refine ⟨ns, t6, r6, _, rfl, ht6, hr6, by omega, by omega, fun u t7 r7 ht7 hr7 hu0 hu1 => ?_⟩
      have c1 := cutS_length base (some spot) none
      have c2 := cutS_length (cutS base (some spot) none) none (some u)
      have c3 := cutS_length base none (some spot)
      repeat boot_fact
      obtain ⟨c, mc, ec⟩ := atI_ok (l := LET.cps.toList) (i := (first + lp * (i : Int)) % 26) (Int.emod_nonneg _ (by decide)) (by rw [LET_len]; exact Int.emod_lt_of_pos _ (by decide))
      refine ix_s (by decide) ec ?_
      have c0 : (⟨#[c]⟩ : Str).length = 1 := rfl
      repeat boot_fact
      refine add_ss (by rw [c0]; omega) ?_
      repeat boot_fact
      refine add_ss ?_ ?_
      · rw [TL.len_tl (_ ++ _), TL.tl_append, List.length_append, ← TL.len_tl]
        have c9 : (TL.tl (⟨#[c]⟩ : Str)).length = 1 := rfl
        rw [c9]
        omega
      have wz : (ws.map D.str).length < 16777216 := by rw [List.length_map]; omega
      repeat boot_fact
      refine ⟨t7, r7, ws ++ [cutS base none (some spot) ++ ⟨#[c]⟩ ++ cutS (cutS base (some spot) none) none (some u)], some (.int (i : Int)), some (.str (cutS (cutS base (some spot) none) none (some u))), ?_, ht7, hr7, by rw [List.length_append, hw]; rfl, fun w hw' => ?_⟩
      · rw [List.map_append]
        rfl
      · rcases List.mem_append.mp hw' with h | h
        · exact hall w h
        · rw [List.mem_singleton.mp h]
          exact word_ok cb mc hs0 (by omega) b7
    · rintro Γ ⟨t6, r6, ws, x, y, rfl, ht6, hr6, hw, hall⟩
      rw [rng_len] at hw
      repeat boot_fact
      exact q ws t6 r6 ht6 hr6 hw hall


def ok1 (s : Str) : Prop := ∀ c ∈ s.cps.toList, c < 128
def tot (ws : List Str) : Nat := (ws.map (·.length)).sum + ws.length
theorem tot_cons (w : Str) (ws : List Str) : tot (w :: ws) = w.length + 1 + tot ws := by unfold tot; rw [List.map_cons, List.sum_cons, List.length_cons]; omega
theorem tot_app (a b : List Str) : tot (a ++ b) = tot a + tot b := by unfold tot; rw [List.map_append, List.sum_append, List.length_append]; omega
theorem tot_erase : ∀ (ws : List Str) (i : Nat), tot (ws.eraseIdx i) ≤ tot ws
  | [], i => by simp [tot]
  | w :: ws, 0 => by rw [tot_cons]; show tot ws ≤ _; omega
  | w :: ws, i + 1 => by
    have := tot_erase ws i
    show tot (w :: ws.eraseIdx i) ≤ _
    rw [tot_cons, tot_cons]
    omega
theorem tot_set : ∀ (ws : List Str) (i : Nat) (x : Str), tot (ws.set i x) ≤ tot ws + x.length
  | [], i, x => by simp [tot]
  | w :: ws, 0, x => by show tot (x :: ws) ≤ _; rw [tot_cons, tot_cons]; omega
  | w :: ws, i + 1, x => by
    have := tot_set ws i x
    show tot (w :: ws.set i x) ≤ _
    rw [tot_cons, tot_cons]
    omega
theorem tot_mem : ∀ {ws : List Str} {w : Str}, w ∈ ws → w.length + 1 ≤ tot ws
  | v :: ws, w, h => by
    rw [tot_cons]
    rcases List.mem_cons.mp h with rfl | h
    · omega
    · have := tot_mem h
      omega
theorem joinL_len (s : Nat) : ∀ ps : List (List Nat), (TL.joinL [s] ps).length ≤ (ps.map List.length).sum + ps.length
  | [] => Nat.zero_le _
  | [p] => by simp [TL.joinL]
  | p :: q :: r => by
    have ih := joinL_len s (q :: r)
    have e : (TL.joinL [s] (p :: q :: r)).length = p.length + (1 + (TL.joinL [s] (q :: r)).length) := by
      show (p ++ ([s] ++ TL.joinL [s] (q :: r))).length = _
      rw [List.length_append, List.length_append]
      rfl
    have e2 : ((p :: q :: r).map List.length).sum = p.length + ((q :: r).map List.length).sum := by rw [List.map_cons, List.sum_cons]
    have e3 : (p :: q :: r).length = (q :: r).length + 1 := rfl
    omega
theorem joinL_len2 (s : Nat) : ∀ ps : List (List Nat), ps ≠ [] → (ps.map List.length).sum + ps.length = (TL.joinL [s] ps).length + 1
  | [], h => absurd rfl h
  | [p], _ => by simp [TL.joinL]
  | p :: q :: r, _ => by
    have ih := joinL_len2 s (q :: r) (by simp)
    have e : (TL.joinL [s] (p :: q :: r)).length = p.length + (1 + (TL.joinL [s] (q :: r)).length) := by
      show (p ++ ([s] ++ TL.joinL [s] (q :: r))).length = _
      rw [List.length_append, List.length_append]
      rfl
    have e2 : ((p :: q :: r).map List.length).sum = p.length + ((q :: r).map List.length).sum := by rw [List.map_cons, List.sum_cons]
    have e3 : (p :: q :: r).length = (q :: r).length + 1 := rfl
    omega
theorem joinL_mem {S : List Nat} {c : Nat} : ∀ {ps : List (List Nat)}, c ∈ TL.joinL S ps → c ∈ S ∨ ∃ p ∈ ps, c ∈ p
  | [p], h => .inr ⟨p, List.mem_cons_self, h⟩
  | p :: q :: r, h => by
    have h : c ∈ p ++ (S ++ TL.joinL S (q :: r)) := h
    rcases List.mem_append.mp h with h | h
    · exact .inr ⟨p, List.mem_cons_self, h⟩
    · rcases List.mem_append.mp h with h | h
      · exact .inl h
      · rcases joinL_mem h with h | ⟨u, hu, h⟩
        · exact .inl h
        · exact .inr ⟨u, List.mem_cons_of_mem _ hu, h⟩
theorem tot_map (ws : List Str) : ((ws.map TL.tl).map List.length).sum + (ws.map TL.tl).length = tot ws := by
  unfold tot
  rw [List.map_map, List.length_map]
  have e : (ws.map (List.length ∘ TL.tl)) = ws.map (·.length) := List.map_congr_left fun w _ => (TL.len_tl w).symm
  rw [e]
theorem join_ok {ws : List Str} (h : ∀ w ∈ ws, ok1 w) : (Txt.join (" " : Str) ws).length ≤ tot ws ∧ ok1 (Txt.join (" " : Str) ws) := by
  have e : TL.tl (Txt.join (" " : Str) ws) = TL.joinL [32] (ws.map TL.tl) := by
    rw [TL.join_eq, TL.tl_join]
    rfl
  refine ⟨?_, fun c hc => ?_⟩
  · rw [TL.len_tl, e, ← tot_map]
    exact joinL_len _ _
  · have hc : c ∈ TL.tl (Txt.join (" " : Str) ws) := hc
    rw [e] at hc
    rcases joinL_mem hc with h1 | ⟨p, hp, h1⟩
    · have e1 : c = 32 := by simpa using h1
      omega
    · obtain ⟨w, hw, rfl⟩ := List.mem_map.mp hp
      exact h w hw c h1
theorem spl_ne (S : List Nat) : ∀ (l : List Nat) (k : Nat) (acc : List Nat), TL.spl S k acc l ≠ [] := by
  intro l
  induction l with
  | nil => intro k acc; rw [TL.spl_nil]; simp
  | cons c r ih =>
    intro k acc
    cases k with
    | succ k =>
      have := ih k acc
      exact this
    | zero =>
      by_cases h : TL.pre S (c :: r) = true
      · rw [TL.spl_hit h]; simp
      · rw [TL.spl_miss (by simpa using h)]; exact ih 0 _
theorem split_sp {x : Str} (h : ok1 x) : tot (Txt.split x " ") ≤ x.length + 1 ∧ Txt.split x " " ≠ [] ∧ ∀ w ∈ Txt.split x " ", ok1 w := by
  have e := TL.split_spl x (" " : Str) (by decide) (TL.kind_ok (by decide +kernel))
  have ne : Txt.split x " " ≠ [] := fun z => by
    rw [z] at e
    exact spl_ne _ _ _ _ e.symm
  refine ⟨?_, ne, fun w hw c hc => h c ((part_in hw).1 c hc)⟩
  have j := congrArg TL.tl (StrLaws.join_split x (" " : Str))
  rw [TL.tl_join] at j
  have l2 := joinL_len2 32 ((Txt.split x " ").map TL.tl) (fun z => ne (List.map_eq_nil_iff.mp z))
  rw [tot_map] at l2
  have e3 : TL.tl (" " : Str) = [32] := by decide
  rw [e3] at j
  rw [l2, j, ← TL.len_tl]
  exact Nat.le_refl _
theorem replS_mem {y z : List Nat} {c : Nat} : ∀ (l : List Nat) (s : Nat), c ∈ StrLaws.replS y z s l → c ∈ z ∨ c ∈ l := by
  intro l
  induction l with
  | nil => intro s h; cases s <;> simp [StrLaws.replS] at h
  | cons d r ih =>
    intro s h
    cases s with
    | succ s =>
      have h : c ∈ StrLaws.replS y z s r := h
      exact (ih s h).imp id (List.mem_cons_of_mem _)
    | zero =>
      unfold StrLaws.replS at h
      split at h
      · rcases List.mem_append.mp h with h | h
        · exact .inl h
        · exact (ih _ h).imp id (List.mem_cons_of_mem _)
      · rcases List.mem_cons.mp h with h | h
        · exact .inr (by rw [h]; exact List.mem_cons_self)
        · exact (ih _ h).imp id (List.mem_cons_of_mem _)
theorem repl_ok {x y z : Str} (hy : 1 ≤ y.length) (h : ok1 x) (hz : ok1 z) : (Txt.replace x y z).length ≤ x.length + (x.length + 1) * z.length ∧ ok1 (Txt.replace x y z) := by
  refine ⟨TK.replace_len x y z, fun c hc => ?_⟩
  rw [StrLaws.replace_list hy] at hc
  rcases replS_mem _ _ hc with h1 | h1
  · exact hz c h1
  · exact h c h1


def sp_bent : SpD := fun ds Q Ex => ∃ (ns : List Int) (t r : Int) (s : Str), ds = [penD ns t r, .str s] ∧ 0 ≤ t ∧ 0 ≤ r ∧ s.length ≤ 300 ∧ ok1 s ∧
  ∀ s' t' r', 0 ≤ t' → 0 ≤ r' → okS s' → Q (.str s') [some (penD ns t' r'), some (.str s)]
theorem ok1_app {x y : Str} (h : ok1 x) (h' : ok1 y) : ok1 (x ++ y) := fun c hc => by
  have hc : c ∈ TL.tl (x ++ y) := hc
  rw [TL.tl_append] at hc
  rcases List.mem_append.mp hc with q | q
  · exact h c q
  · exact h' c q
theorem len_app (x y : Str) : (x ++ y).length = x.length + y.length := by rw [TL.len_tl, TL.tl_append, List.length_append, ← TL.len_tl, ← TL.len_tl]
theorem ok1_cut {x : Str} {lo hi : Option Int} (h : ok1 x) : ok1 (cutS x lo hi) := fun c hc => h c (cut_sub hc)
theorem ok1_lit {s : Str} (h : (s.cps.toList.all fun c => decide (c < 128)) = true) : ok1 s := fun c hc => of_decide_eq_true (List.all_eq_true.mp h c hc)
/-- the way out -/
theorem end_facts {ws : List Str} (hk : ∀ v ∈ ws, ok1 v) (ht : tot ws ≤ 4900) : strsOf (ws.map D.str) = some ws ∧ (ws.map (·.length)).sum + ws.length * (Str.ofString " ").length ≤ 16777216 ∧
    (Txt.join (Str.ofString " ") ws).length + ((Txt.join (Str.ofString " ") ws).length + 1) * (Str.ofString ",").length ≤ 16777216 ∧ okS (Txt.replace (Txt.join (Str.ofString " ") ws) (Str.ofString " , ") (Str.ofString ",")) := by
  have l1 : (Str.ofString " ").length = 1 := by decide
  have e1 : (ws.map (·.length)).sum + ws.length * (Str.ofString " ").length = tot ws := by rw [l1, Nat.mul_one]; rfl
  obtain ⟨j1, j2⟩ := join_ok hk
  have j1 : (Txt.join (Str.ofString " ") ws).length ≤ tot ws := j1
  have l2 : (Str.ofString ",").length = 1 := by decide
  obtain ⟨k1, k2⟩ := repl_ok (x := Txt.join (Str.ofString " ") ws) (y := " , ") (z := ",") (by decide) j2 (ok1_lit (by decide))
  have k1 : (Txt.replace (Txt.join (Str.ofString " ") ws) (Str.ofString " , ") (Str.ofString ",")).length ≤ (Txt.join (Str.ofString " ") ws).length + ((Txt.join (Str.ofString " ") ws).length + 1) * (Str.ofString ",").length := k1
  refine ⟨?_, by rw [e1]; omega, by rw [l2]; omega, ?_, k2⟩
  · have := strsOf_m (fun w : Str => w) D.str (fun _ => rfl) ws
    rw [List.map_id'] at this
    exact this
  · rw [l2] at k1
    omega
theorem map_erase : ∀ (ws : List Str) (i : Nat), (ws.map D.str).eraseIdx i = (ws.eraseIdx i).map D.str
  | [], i => by simp
  | w :: ws, 0 => rfl
  | w :: ws, i + 1 => by
    show D.str w :: (ws.map D.str).eraseIdx i = D.str w :: (ws.eraseIdx i).map D.str
    rw [map_erase ws i]
theorem map_set' (ws : List Str) (i : Nat) (x : Str) : (ws.map D.str).set i (.str x) = (ws.set i x).map D.str := by rw [List.map_set]
theorem mem_erase {ws : List Str} {i : Nat} {v : Str} (h : v ∈ ws.eraseIdx i) : v ∈ ws := List.mem_of_mem_eraseIdx h
theorem mem_set' {ws : List Str} {i : Nat} {v x : Str} (h : v ∈ ws.set i x) : v ∈ ws ∨ v = x := List.mem_or_eq_of_mem_set h
theorem pick_strs {l : List D} {d : D} {n : Nat} (h : d ∈ l) (hl : ∀ d ∈ l, ∃ x : Str, d = .str x ∧ x.length ≤ n ∧ ok1 x) : ∃ x : Str, d = .str x ∧ x.length ≤ n ∧ ok1 x := hl d h
theorem strs_of {l : List Str} {n : Nat} (h : (l.all fun x => decide (x.length ≤ n) && x.cps.toList.all fun c => decide (c < 128)) = true) : ∀ d ∈ l.map D.str, ∃ x : Str, d = .str x ∧ x.length ≤ n ∧ ok1 x := fun d hd => by
  obtain ⟨x, hx, rfl⟩ := List.mem_map.mp hd
  have q := List.all_eq_true.mp h x hx
  rw [Bool.and_eq_true] at q
  exact ⟨x, rfl, of_decide_eq_true q.1, fun c hc => of_decide_eq_true (List.all_eq_true.mp q.2 c hc)⟩
theorem map_at {ws : List Str} {i : Int} (h : 0 ≤ i) (h2 : i < ws.length) : ∃ w, w ∈ ws ∧ (ws.map D.str)[i.toNat]? = some (.str w) ∧ atI (ws.map D.str) i = some (.str w) := by
  have e : (ws.map D.str)[i.toNat]? = some (.str (ws[i.toNat]'(by omega))) := by
    rw [List.getElem?_map, List.getElem?_eq_getElem (by omega)]
    rfl
  refine ⟨_, List.getElem_mem _, e, ?_⟩
  unfold atI
  rw [ixN_ok h (by rw [List.length_map]; exact h2)]
  exact e
theorem law_bent (K : PySem.W.Frag) (a : Ad) : ∀ ds Q Ex, sp_bent ds Q Ex → ds.length = 2 ∧ t__law_bent K a sp_draw sp_pick (fun C l Γ => Ex C l (outsF kp__law_bent Γ 0 2)) { nx := fun Γ => Q .non (outsF kp__law_bent Γ 0 2), rt := fun d Γ => Q d (outsF kp__law_bent Γ 0 2) } (startD ["_law_pen", "_law_text", "_law_way", "_law_at", "_law_words_here", "_law_other"] ds) := by
  rintro ds Q Ex ⟨ns, t, r, s, rfl, ht, hr, hz, h1, q⟩
  refine ⟨rfl, ?_⟩
  unfold t__law_bent
  dsimp only [startD, List.map_cons, List.map_nil, List.cons_append, List.nil_append, List.length_cons, List.length_nil, Nat.reduceAdd, Nat.reduceSub, List.replicate]
  repeat boot_fact
  refine ⟨ns, t, r, _, rfl, ht, hr, by decide, by decide, fun way t1 r1 ht1 hr1 hw0 hw7 => ?_⟩
  repeat wrow_none_raised
  refine stmt_i [some (penD ns t1 r1), some (.str s), some (.int way), none, none, none] rfl ?_
  repeat boot_fact
  refine ite_d (fun hlt => ?_) fun hge => ?_
  · repeat boot_fact
    refine ⟨ns, t1, r1, _, rfl, ht1, hr1, by omega, by omega, fun at_ t2 r2 ht2 hr2 ha0 ha1 => ?_⟩
    repeat boot_fact
    refine ⟨ns, t2, r2, _, _, rfl, rfl, by decide, by decide, ht2, hr2, fun d t3 r3 md ht3 hr3 => ?_⟩
    obtain ⟨x, rfl, xl, xo⟩ := pick_strs (n := 10) md (strs_of (l := [",", " ", "a", "A", "7", "\n", "-", ">"]) (by decide))
    have c1 := cutS_length s none (some at_)
    have c2 := cutS_length s (some (at_ + way)) none
    repeat boot_fact
    refine add_ss (by omega) ?_
    repeat boot_fact
    refine add_ss (by rw [len_app]; omega) ?_
    repeat boot_fact
    exact q _ t3 r3 ht3 hr3 ⟨by rw [len_app, len_app]; omega, ok1_app (ok1_app (ok1_cut h1) xo) (ok1_cut h1)⟩
  · repeat boot_fact
    have l2 : (Str.ofString " , ").length = 3 := by decide
    refine repl_s (by rw [l2]; omega) ?_
    obtain ⟨k1, k2⟩ := repl_ok (x := s) (y := ",") (z := " , ") (by decide) h1 (ok1_lit (by decide))
    have k1 : (Txt.replace s (Str.ofString ",") (Str.ofString " , ")).length ≤ s.length + (s.length + 1) * (Str.ofString " , ").length := k1
    rw [l2] at k1
    have k2 : ok1 (Txt.replace s (Str.ofString ",") (Str.ofString " , ")) := k2
    generalize Txt.replace s (Str.ofString ",") (Str.ofString " , ") = rr at k1 k2 ⊢
    repeat boot_fact
    refine split_i rfl (by omega) ?_
    obtain ⟨p1, p2, p3⟩ := split_sp k2
    have p1 : tot (Txt.split rr (Str.ofString " ")) ≤ rr.length + 1 := p1
    have p2 : Txt.split rr (Str.ofString " ") ≠ [] := p2
    have p3 : ∀ w ∈ Txt.split rr (Str.ofString " "), ok1 w := p3
    generalize Txt.split rr (Str.ofString " ") = ws at p1 p2 p3 ⊢
    have wl : 0 < ws.length := List.length_pos_iff.mpr p2
    have wt : ws.length ≤ tot ws := by unfold tot; omega
    repeat wrow_none_raised
    refine stmt_i [some (penD ns t1 r1), some (.str s), some (.int way), none, some (.lst .o (ws.map D.str)), none] rfl ?_
    repeat boot_fact
    refine ⟨ns, t1, r1, _, rfl, ht1, hr1, by rw [List.length_map]; omega, by rw [List.length_map]; omega, fun at_ t2 r2 ht2 hr2 ha0 ha1 => ?_⟩
    rw [List.length_map] at ha1
    obtain ⟨w, mw, ew, ew2⟩ := map_at ha0 ha1
    have wz := tot_mem mw
    repeat wrow_none_raised
    refine stmt_i [some (penD ns t2 r2), some (.str s), some (.int way), some (.int at_), some (.lst .o (ws.map D.str)), none] rfl ?_
    have way5 : way = 2 ∨ way = 3 ∨ way = 4 ∨ way = 5 ∨ way = 6 := by omega
    rcases way5 with rfl | rfl | rfl | rfl | rfl
    · repeat (first | boot_fact | refine dl_yes (by decide) ?_ | refine dl_not (by decide) ?_)
      refine pop_at ⟨ha0, by omega⟩ ew ?_
      repeat (first | boot_fact | refine dl_yes (by decide) ?_ | refine dl_not (by decide) ?_)
      rw [map_erase]
      have e0 := tot_erase ws at_.toNat
      obtain ⟨f1, f2, f3, f4⟩ := end_facts (ws := ws.eraseIdx at_.toNat) (fun v hv => p3 v (mem_erase hv)) (by omega)
      refine join_l f1 f2 ?_
      repeat boot_fact
      refine repl_s f3 ?_
      repeat boot_fact
      exact q _ t2 r2 ht2 hr2 f4
    · repeat (first | boot_fact | refine dl_yes (by decide) ?_ | refine dl_not (by decide) ?_)
      refine ix_l ew2 ?_
      repeat boot_fact
      refine insert_at ⟨ha0, by omega⟩ (by rw [List.length_map]; omega) ?_
      repeat (first | boot_fact | refine dl_yes (by decide) ?_ | refine dl_not (by decide) ?_)
      have em : (ws.map D.str).take at_.toNat ++ [D.str w] ++ (ws.map D.str).drop at_.toNat = (ws.take at_.toNat ++ [w] ++ ws.drop at_.toNat).map D.str := by
        rw [List.map_append, List.map_append, List.map_take, List.map_drop]
        rfl
      rw [em]
      have e0 : tot (ws.take at_.toNat ++ [w] ++ ws.drop at_.toNat) = tot ws + (w.length + 1) := by
        have e1 := tot_app (ws.take at_.toNat) (ws.drop at_.toNat)
        rw [List.take_append_drop] at e1
        have e2 : tot [w] = w.length + 1 := by rw [tot_cons]; rfl
        rw [tot_app, tot_app, e2]
        omega
      obtain ⟨f1, f2, f3, f4⟩ := end_facts (ws := ws.take at_.toNat ++ [w] ++ ws.drop at_.toNat) (fun v hv => by
        rcases List.mem_append.mp hv with h | h
        · rcases List.mem_append.mp h with h | h
          · exact p3 v (List.mem_of_mem_take h)
          · rw [List.mem_singleton.mp h]; exact p3 w mw
        · exact p3 v (List.mem_of_mem_drop h)) (by omega)
      refine join_l f1 f2 ?_
      repeat boot_fact
      refine repl_s f3 ?_
      repeat boot_fact
      exact q _ t2 r2 ht2 hr2 f4
    · repeat (first | boot_fact | refine dl_yes (by decide) ?_ | refine dl_not (by decide) ?_)
      refine ⟨ns, t2, r2, _, _, rfl, rfl, by decide, by decide, ht2, hr2, fun d t3 r3 md ht3 hr3 => ?_⟩
      obtain ⟨x, rfl, xl, xo⟩ := pick_strs (n := 10) md (strs_of (l := ["", "abcdefghi", "abcdefgh", "a1", "A", ","]) (by decide))
      repeat boot_fact
      refine setAt_i rfl rfl (ixN_ok ha0 (by rw [List.length_map]; exact ha1)) ?_
      repeat (first | boot_fact | refine dl_yes (by decide) ?_ | refine dl_not (by decide) ?_)
      rw [map_set']
      have e0 := tot_set ws at_.toNat x
      obtain ⟨f1, f2, f3, f4⟩ := end_facts (ws := ws.set at_.toNat x) (fun v hv => (mem_set' hv).elim (p3 v) fun e => by rw [e]; exact xo) (by omega)
      refine join_l f1 f2 ?_
      repeat boot_fact
      refine repl_s f3 ?_
      repeat boot_fact
      exact q _ t3 r3 ht3 hr3 f4
    · repeat (first | boot_fact | refine dl_yes (by decide) ?_ | refine dl_not (by decide) ?_)
      refine ⟨ns, t2, r2, _, rfl, ht2, hr2, by rw [List.length_map]; omega, by rw [List.length_map]; omega, fun o t3 r3 ht3 hr3 ho0 ho1 => ?_⟩
      rw [List.length_map] at ho1
      obtain ⟨w2, mw2, ew3, ew4⟩ := map_at ho0 ho1
      have wz2 := tot_mem mw2
      repeat boot_fact
      refine ix_l ew4 ?_
      repeat boot_fact
      refine ix_l ew2 ?_
      repeat boot_fact
      refine setAt_i rfl rfl (ixN_ok ha0 (by rw [List.length_map]; exact ha1)) ?_
      rw [map_set']
      repeat boot_fact
      refine setAt_i rfl rfl (ixN_ok ho0 (by rw [List.length_map, List.length_set]; exact ho1)) ?_
      rw [map_set']
      repeat (first | boot_fact | refine dl_yes (by decide) ?_ | refine dl_not (by decide) ?_)
      have e0 := tot_set ws at_.toNat w2
      have e1 := tot_set (ws.set at_.toNat w2) o.toNat w
      obtain ⟨f1, f2, f3, f4⟩ := end_facts (ws := (ws.set at_.toNat w2).set o.toNat w) (fun v hv => (mem_set' hv).elim (fun h => (mem_set' h).elim (p3 v) fun e => by rw [e]; exact p3 w2 mw2) fun e => by rw [e]; exact p3 w mw) (by omega)
      refine join_l f1 f2 ?_
      repeat boot_fact
      refine repl_s f3 ?_
      repeat boot_fact
      exact q _ t3 r3 ht3 hr3 f4
    · repeat (first | boot_fact | refine dl_yes (by decide) ?_ | refine dl_not (by decide) ?_)
      refine ⟨ns, t2, r2, _, _, rfl, rfl, by decide, by decide, ht2, hr2, fun d t3 r3 md ht3 hr3 => ?_⟩
      obtain ⟨x, rfl, xl, xo⟩ := pick_strs (n := 10) md (strs_of (l := [",", " ", "\n", ",a b c", ", a b c", ",a b"]) (by decide))
      repeat boot_fact
      refine add_ss (by omega) ?_
      repeat boot_fact
      exact q _ t3 r3 ht3 hr3 ⟨by rw [len_app]; omega, ok1_app h1 xo⟩


/-! the texts of steps -/
def stT (l : List Str) : Str := Txt.join " " l
def stD (l : List Str) : D := .tup (l.map D.str)
def goodS (l : List Str) : Prop := l.length = 3 ∧ ∀ w ∈ l, isW w = true
theorem isW_len {w : Str} (h : isW w = true) : w.length ≤ 8 ∧ ∀ c ∈ w.cps.toList, c ∈ LET.cps.toList := by
  unfold isW at h
  rw [Bool.and_eq_true, Bool.and_eq_true] at h
  exact ⟨of_decide_eq_true h.1.2, fun c hc => of_decide_eq_true (List.all_eq_true.mp h.2 c hc)⟩
theorem LET_lt : ∀ c ∈ LET.cps.toList, c < 128 ∧ c ≠ 32 ∧ c ≠ 44 := by
  have h : (LET.cps.toList.all fun c => decide (c < 128) && decide (c ≠ 32) && decide (c ≠ 44)) = true := by decide
  intro c hc
  have q := List.all_eq_true.mp h c hc
  rw [Bool.and_eq_true, Bool.and_eq_true] at q
  exact ⟨of_decide_eq_true q.1.1, of_decide_eq_true q.1.2, of_decide_eq_true q.2⟩
theorem join1 {y : Str} {s : Nat} (ey : TL.tl y = [s]) {ws : List Str} (h : ws ≠ []) : (Txt.join y ws).length + 1 = tot ws ∧ ∀ c ∈ (Txt.join y ws).cps.toList, c = s ∨ ∃ w ∈ ws, c ∈ w.cps.toList := by
  have e : TL.tl (Txt.join y ws) = TL.joinL [s] (ws.map TL.tl) := by rw [TL.join_eq, TL.tl_join, ey]
  refine ⟨?_, fun c hc => ?_⟩
  · have l2 := joinL_len2 s (ws.map TL.tl) (fun z => h (List.map_eq_nil_iff.mp z))
    rw [tot_map] at l2
    rw [TL.len_tl, e]
    exact l2.symm
  · have hc : c ∈ TL.tl (Txt.join y ws) := hc
    rw [e] at hc
    rcases joinL_mem hc with h1 | ⟨p, hp, h1⟩
    · exact .inl (by simpa using h1)
    · obtain ⟨w, hw, rfl⟩ := List.mem_map.mp hp
      exact .inr ⟨w, hw, h1⟩
theorem tot_le {n : Nat} : ∀ {ws : List Str}, (∀ w ∈ ws, w.length ≤ n) → tot ws ≤ ws.length * (n + 1)
  | [], _ => by simp [tot]
  | w :: ws, h => by
    have ih := tot_le (ws := ws) fun v hv => h v (List.mem_cons_of_mem _ hv)
    have := h w List.mem_cons_self
    rw [tot_cons, List.length_cons, Nat.succ_mul]
    omega
theorem good_ne {l : List Str} (h : goodS l) : l ≠ [] := fun z => by rw [z] at h; exact absurd h.1 (by decide)
theorem st_facts {l : List Str} (h : goodS l) : (stT l).length ≤ 26 ∧ (∀ c ∈ (stT l).cps.toList, c < 128 ∧ c ≠ 44) ∧ wordsOf (stT l) = l ∧ okP (stT l) = true ∧ tupP (stT l) = stD l := by
  obtain ⟨j1, j2⟩ := join1 (y := " ") (s := 32) (by decide) (good_ne h)
  have t1 := tot_le (n := 8) (ws := l) fun w hw => (isW_len (h.2 w hw)).1
  rw [h.1] at t1
  have e : wordsOf (stT l) = l := TL.split_join (y := " ") (s := 32) (S := []) (by decide) (by decide +kernel) (good_ne h) fun p hp hc => (LET_lt _ ((isW_len (h.2 p hp)).2 32 hc)).2.1 rfl
  refine ⟨?_, fun c hc => ?_, e, ?_, ?_⟩
  · have j1 : (stT l).length + 1 = tot l := j1
    omega
  · rcases j2 c hc with rfl | ⟨w, hw, hc⟩
    · exact ⟨by decide, by decide⟩
    · have q := LET_lt c ((isW_len (h.2 w hw)).2 c hc)
      exact ⟨q.1, q.2.2⟩
  · unfold okP
    rw [e, h.1]
    show (true && l.all isW) = true
    rw [Bool.true_and, List.all_eq_true]
    exact h.2
  · unfold tupP stD
    rw [e]
def txT (sts : List (List Str)) : Str := Txt.join "," (sts.map stT)
theorem tx_facts {sts : List (List Str)} (h : ∀ l ∈ sts, goodS l) (h0 : sts ≠ []) (h9 : sts.length ≤ 9) : (txT sts).length ≤ 300 ∧ ok1 (txT sts) ∧ rd (txT sts) = some (sts.map stD) := by
  have ne : sts.map stT ≠ [] := fun z => h0 (List.map_eq_nil_iff.mp z)
  obtain ⟨j1, j2⟩ := join1 (y := ",") (s := 44) (by decide) ne
  have t1 := tot_le (n := 26) (ws := sts.map stT) fun w hw => by
    obtain ⟨l, hl, rfl⟩ := List.mem_map.mp hw
    exact (st_facts (h l hl)).1
  rw [List.length_map] at t1
  have e : partsOf (txT sts) = sts.map stT := TL.split_join (y := ",") (s := 44) (S := []) (by decide) (by decide +kernel) ne fun p hp hc => by
    obtain ⟨l, hl, rfl⟩ := List.mem_map.mp hp
    exact ((st_facts (h l hl)).2.1 44 hc).2 rfl
  refine ⟨?_, fun c hc => ?_, ?_⟩
  · have j1 : (txT sts).length + 1 = tot (sts.map stT) := j1
    omega
  · rcases j2 c hc with rfl | ⟨w, hw, hc⟩
    · decide
    · obtain ⟨l, hl, rfl⟩ := List.mem_map.mp hw
      exact ((st_facts (h l hl)).2.1 c hc).1
  · unfold rd
    rw [e, if_pos]
    · rw [List.map_map]
      refine congrArg some (List.map_congr_left fun l hl => ?_)
      exact (st_facts (h l hl)).2.2.2.2
    · rw [List.all_eq_true]
      intro p hp
      obtain ⟨l, hl, rfl⟩ := List.mem_map.mp hp
      exact (st_facts (h l hl)).2.2.2.1
theorem isW_strOk {w : Str} (h : isW w = true) : PyData.strOk w = true := by
  unfold PyData.strOk
  rw [← Array.all_toList, List.all_eq_true]
  intro c hc
  have := (LET_lt c ((isW_len h).2 c hc)).1
  exact decide_eq_true (by omega)
theorem shp_stD {l : List Str} (h : ∀ w ∈ l, isW w = true) (n : Nat) : shp (n + 1) (stD l) = true := by
  show (l.map D.str).all (shp n) = true
  rw [List.all_eq_true]
  intro d hd
  obtain ⟨w, hw, rfl⟩ := List.mem_map.mp hd
  have e : shp n (.str w) = PyData.strOk w := by cases n <;> rfl
  rw [e]
  exact isW_strOk (h w hw)
/-- what is read is tuples of words -/
theorem rd_good {s : Str} {l : List D} (h : rd s = some l) : l ≠ [] ∧ l.length ≤ s.length + 1 ∧ ∀ d ∈ l, ∃ ws : List Str, d = stD ws ∧ ws.length = 3 ∧ ∀ w ∈ ws, isW w = true := by
  unfold rd at h
  split at h
  · rename_i ha
    cases h
    refine ⟨fun z => ?_, ?_, fun d hd => ?_⟩
    · have e := TL.split_spl s ("," : Str) (by decide) (TL.kind_ok (by decide +kernel))
      have z2 : partsOf s = [] := List.map_eq_nil_iff.mp z
      have z3 : Txt.split s "," = [] := z2
      rw [z3] at e
      exact spl_ne _ _ _ _ e.symm
    · rw [List.length_map]
      exact split_num (by decide) (by decide +kernel)
    · obtain ⟨p, hp, rfl⟩ := List.mem_map.mp hd
      have q := List.all_eq_true.mp ha p hp
      unfold okP at q
      rw [Bool.and_eq_true] at q
      exact ⟨wordsOf p, rfl, by simpa using q.1, fun w hw => List.all_eq_true.mp q.2 w hw⟩
  · cases h
theorem deq_strs : ∀ l : List Str, deqL (l.map D.str) (l.map D.str) = true
  | [] => rfl
  | w :: l => by
    show (deq (.str w) (.str w) && deqL (l.map D.str) (l.map D.str)) = true
    rw [deq_strs l, Bool.and_true]
    show (w == w) = true
    simp
theorem deq_sts : ∀ l : List (List Str), deqL (l.map stD) (l.map stD) = true
  | [] => rfl
  | w :: l => by
    show (deq (stD w) (stD w) && deqL (l.map stD) (l.map stD)) = true
    rw [deq_sts l, Bool.and_true]
    exact deq_strs w


def sp_law : SpD := fun ds Q Ex => ∃ ns : List Int, ds = [.lst .k (ns.map D.int)] ∧ ∀ outs, Q (.bl true) outs
/-- the second half of the law: all askings -/
def half : TSX → Prop := fun _ => True
theorem bad_of {d : D} (h : d.fz = true) (t : Value) (ht : ∀ K, TyK K d t) (hk : ∀ K, PySem.W.kitOne K t (.type "str") = some false) : bad d := ⟨h, .inr fun K => ⟨t, ht K, hk K⟩⟩
theorem bad_str {s : Str} (h : okS s) (e : rd s = none) : bad (.str s) := ⟨rfl, .inl ⟨s, rfl, h, e⟩⟩
theorem lend3 {i : Nat} {x y d : D} {Γ : DEnv} (e : Γ[i]? = some (some d)) (z : d.fz = true) : lend [.v x, .s i, .v y] Γ = some ([x, d, y], Γ) := by
  unfold lend
  unfold lend
  rw [e]
  have e2 : (some (some d) : Option (Option D)).join = some d := rfl
  rw [e2]
  dsimp only
  rw [if_pos z]
  rfl
theorem back3 {i : Nat} {x y d : D} {o o' o'' : Option D} {Γ : DEnv} (z : d.fz = true) : back [.v x, .s i, .v y] [x, d, y] [o, o', o''] Γ = Γ := by
  unfold back
  unfold back
  rw [if_pos z]
  rfl
theorem like_ok {l : List D} (hz : l.length ≤ 100000) (h : ∀ d ∈ l, ∃ ws : List Str, d = stD ws ∧ ws.length = 3 ∧ ∀ w ∈ ws, isW w = true) {Q : D → List (Option D) → Prop} {Ex : Addr → List (Str × D) → List (Option D) → Prop} (q : Q (.bl true) [some (.lst .o l), some (.lst .o l)]) :
    sp_like 2 [.lst .o l, .lst .o l] Q Ex := by
  refine ⟨l, _, .inr rfl, rfl, hz, fun d hd => ?_, q⟩
  obtain ⟨ws, rfl, hl, _⟩ := h d hd
  refine ⟨rfl, fun Q' Ex' q' => ⟨ws.map D.str, _, .inl rfl, rfl, by rw [List.length_map, hl]; decide, fun e he => ?_, q'⟩⟩
  obtain ⟨w, hw, rfl⟩ := List.mem_map.mp he
  exact ⟨rfl, fun Q'' Ex'' q'' => ⟨w, rfl, q''⟩⟩
def jnF (d : D) : List D := match d with
  | .tup l => (match strsOf l with | some ys => [.str (Txt.join " " ys)] | none => [])
  | _ => []
theorem strs_id (l : List Str) : strsOf (l.map D.str) = some l := by
  have := strsOf_m (fun w : Str => w) D.str (fun _ => rfl) l
  rw [List.map_id'] at this
  exact this
theorem jnF_st (l : List Str) : jnF (stD l) = [.str (stT l)] := by
  show (match strsOf (l.map D.str) with | some ys => [D.str (Txt.join " " ys)] | none => []) = _
  rw [strs_id]
  rfl
theorem jn_flat (sts : List (List Str)) : (sts.map stD).flatMap jnF = (sts.map stT).map D.str := by
  rw [flatMap_map, List.map_map]
  have e : (fun x => jnF (stD x)) = fun x => [D.str (stT x)] := by funext x; exact jnF_st x
  rw [e]
  exact flatMap_single _ _
theorem rd_shp {s : Str} {l : List D} (h : rd s = some l) : l.all (shp 39) = true := by
  rw [List.all_eq_true]
  intro d hd
  obtain ⟨ws, rfl, _, hw⟩ := (rd_good h).2.2 d hd
  exact shp_stD hw 38
theorem law_law (K : PySem.W.Frag) (a : Ad) : ∀ ds Q Ex, sp_law ds Q Ex → ds.length = 1 ∧ t_law K a (sp_read a) sp_draw sp_pick sp_words (sp_like 2) (sp_refused a) sp__read sp_bent (fun C l Γ => Ex C l (outsF kp_law Γ 0 1)) { nx := fun Γ => Q .non (outsF kp_law Γ 0 1), rt := fun d Γ => Q d (outsF kp_law Γ 0 1) } (startD ["_law_script", "_law_pen", "_law_words_here", "_law_steps", "_law_k", "_law_text", "_law_turn", "_law_thing", "_law_due", "_law_found", "_law_step"] ds) := by
  rintro ds Q Ex ⟨ns, rfl, q⟩
  refine ⟨rfl, ?_⟩
  unfold t_law
  dsimp only [startD, List.map_cons, List.map_nil, List.cons_append, List.nil_append, List.length_cons, List.length_nil, Nat.reduceAdd, Nat.reduceSub, List.replicate]
  repeat boot_fact
  refine ⟨ns, 0, 0, 6, rfl, by decide, by decide, by decide, by decide, fun ws t1 r1 ht1 hr1 hwl hws => ?_⟩
  repeat wrow_none_raised
  refine stmt_i [some (.lst .k (ns.map D.int)), some (penD ns t1 r1), some (.lst .o (ws.map D.str)), none, none, none, none, none, none, none, none] rfl ?_
  repeat boot_fact
  refine ⟨ns, t1, r1, _, rfl, ht1, hr1, by decide, by decide, fun nn t2 r2 ht2 hr2 hn0 hn1 => ?_⟩
  repeat boot_fact
  refine ⟨rfl, fun i Γ => ∃ t r sts x, Γ = [some (.lst .k (ns.map D.int)), some (penD ns t r), some (.lst .o (ws.map D.str)), some (.lst .o (sts.map stD)), x, none, none, none, none, none, none] ∧ 0 ≤ t ∧ 0 ≤ r ∧ sts.length = i ∧ ∀ l ∈ sts, goodS l, ⟨t2, r2, [], none, rfl, ht2, hr2, rfl, fun _ h => by simp at h⟩, ?_, ?_⟩
  · rintro i d Γ hi ⟨t3, r3, sts, x, rfl, ht3, hr3, hl, hg⟩
    obtain ⟨rfl, hin⟩ := rng_get hi
    have wl : (ws.map D.str).length = 6 := by rw [List.length_map, hwl]; rfl
    repeat boot_fact
    refine ⟨ns, t3, r3, _, _, rfl, rfl, by rw [wl]; decide, by rw [wl]; decide, ht3, hr3, fun d1 t4 r4 m1 ht4 hr4 => ?_⟩
    obtain ⟨w1, mw1, rfl⟩ := List.mem_map.mp m1
    repeat boot_fact
    refine ⟨ns, t4, r4, _, _, rfl, rfl, by rw [wl]; decide, by rw [wl]; decide, ht4, hr4, fun d2 t5 r5 m2 ht5 hr5 => ?_⟩
    obtain ⟨w2, mw2, rfl⟩ := List.mem_map.mp m2
    repeat boot_fact
    refine ⟨ns, t5, r5, _, _, rfl, rfl, by rw [wl]; decide, by rw [wl]; decide, ht5, hr5, fun d3 t6 r6 m3 ht6 hr6 => ?_⟩
    obtain ⟨w3, mw3, rfl⟩ := List.mem_map.mp m3
    have sl : (sts.map stD).length < 16777216 := by rw [List.length_map]; omega
    repeat boot_fact
    refine ⟨t6, r6, sts ++ [[w1, w2, w3]], some (.int (i : Int)), ?_, ht6, hr6, by rw [List.length_append, hl]; rfl, fun l hl2 => ?_⟩
    · rw [List.map_append]
      rfl
    · rcases List.mem_append.mp hl2 with h | h
      · exact hg l h
      · rw [List.mem_singleton.mp h]
        refine ⟨rfl, fun w hw => ?_⟩
        simp at hw
        rcases hw with rfl | rfl | rfl
        · exact hws _ mw1
        · exact hws _ mw2
        · exact hws _ mw3
  · rintro Γ ⟨t3, r3, sts, x, rfl, ht3, hr3, hl, hg⟩
    rw [rng_len] at hl
    have n0 : sts ≠ [] := fun z => by rw [z] at hl; simp at hl; omega
    have n9 : sts.length ≤ 9 := by omega
    obtain ⟨x1, x2, x3⟩ := tx_facts hg n0 n9
    repeat boot_fact
    refine lc_pure jnF (fun d => by unfold jnF; split <;> (try split) <;> simp) (by rw [List.length_map]; omega) (fun i d acc kk hi la hk => ?_) ?_
    · rw [List.getElem?_map] at hi
      cases e : sts[i]? with
      | none => rw [e] at hi; cases hi
      | some l =>
        rw [e] at hi
        cases hi
        have gl := hg l (List.mem_of_getElem? e)
        have tl_ := tot_le (n := 8) (ws := l) fun w hw => (isW_len (gl.2 w hw)).1
        rw [gl.1] at tl_
        have l1 : (Str.ofString " ").length = 1 := by decide
        have jz : (l.map (·.length)).sum + l.length * (Str.ofString " ").length ≤ 16777216 := by
          rw [l1, Nat.mul_one]
          have : (l.map (·.length)).sum + l.length = tot l := rfl
          omega
        rw [jnF_st] at hk
        show dLcT _ _ _ _ (.tup (l.map D.str)) _ _ _
        repeat boot_fact
        refine join_t (strs_id l) jz ?_
        repeat boot_fact
        exact ⟨la, hk⟩
    · rw [jn_flat]
      have tt := tot_le (n := 26) (ws := sts.map stT) fun w hw => by
        obtain ⟨l, hl, rfl⟩ := List.mem_map.mp hw
        exact (st_facts (hg l hl)).1
      rw [List.length_map] at tt
      have l1 : (Str.ofString ",").length = 1 := by decide
      have jz : ((sts.map stT).map (·.length)).sum + (sts.map stT).length * (Str.ofString ",").length ≤ 16777216 := by
        rw [l1, Nat.mul_one]
        have : ((sts.map stT).map (·.length)).sum + (sts.map stT).length = tot (sts.map stT) := rfl
        omega
      repeat boot_fact
      refine join_l (strs_id _) jz ?_
      repeat wrow_none_raised
      refine stmt_i [some (.lst .k (ns.map D.int)), some (penD ns t3 r3), some (.lst .o (ws.map D.str)), some (.lst .o (sts.map stD)), x, some (.str (txT sts)), none, none, none, none, none] rfl ?_
      have okT : okS (txT sts) := ⟨by omega, x2⟩
      generalize txT sts = tx at x1 x2 x3 okT ⊢
      repeat boot_fact
      refine ⟨rfl, fun i Γ => ∃ t r y z u v, Γ = [some (.lst .k (ns.map D.int)), some (penD ns t r), some (.lst .o (ws.map D.str)), some (.lst .o (sts.map stD)), x, some (.str tx), y, z, u, v, none] ∧ 0 ≤ t ∧ 0 ≤ r, ⟨t3, r3, none, none, none, none, rfl, ht3, hr3⟩, ?_, ?_⟩
      · rintro i d Γ hi ⟨t4, r4, y, z, u, v, rfl, ht4, hr4⟩
        obtain ⟨rfl, hin⟩ := rng_get hi
        repeat boot_fact
        refine ⟨ns, t4, r4, tx, rfl, ht4, hr4, x1, x2, fun s' t5 r5 ht5 hr5 ks' => ?_⟩
        repeat boot_fact
        refine ⟨rfl, fun i2 Γ => ∃ t r y z u v, Γ = [some (.lst .k (ns.map D.int)), some (penD ns t r), some (.lst .o (ws.map D.str)), some (.lst .o (sts.map stD)), x, some (.str tx), y, z, u, v, none] ∧ 0 ≤ t ∧ 0 ≤ r, ⟨t5, r5, some (.int (i : Int)), z, u, v, rfl, ht5, hr5⟩, ?_, ?_⟩
        · rintro i2 d Γ hi ⟨t6, r6, y, z, u, v, rfl, ht6, hr6⟩
          obtain ⟨s0, rfl, ks⟩ : ∃ s0, d = .str s0 ∧ okS s0 := by
            rcases List.mem_cons.mp (List.mem_of_getElem? hi) with rfl | h
            · exact ⟨_, rfl, okT⟩
            · rw [List.mem_singleton.mp h]
              exact ⟨_, rfl, ks'⟩
          repeat boot_fact
          refine ⟨s0, rfl, ks, ?_⟩
          obtain ⟨l0, el0⟩ : ∃ l0, (rd s0).getD [] = l0 := ⟨_, rfl⟩
          rw [el0]
          cases er : rd s0 with
          | none =>
            have e0 : l0 = [] := by rw [← el0, er]; rfl
            subst e0
            repeat boot_fact
            refine eq_nil rfl ?_
            repeat boot_fact
            refine dl_yes rfl ?_
            repeat boot_fact
            refine ⟨.str s0, rfl, bad_str ks er, ?_⟩
            repeat boot_fact
            refine ne_nil rfl ?_
            repeat boot_fact
            refine dl_not rfl ?_
            repeat boot_fact
            exact ⟨t6, r6, _, _, _, _, rfl, ht6, hr6⟩
          | some l =>
            have e0 : l0 = l := by rw [← el0, er]; rfl
            subst e0
            obtain ⟨g1, g2, g3⟩ := rd_good er
            have := ks.1
            have lz : l0.length < 16777216 := by omega
            have le : l0.isEmpty = false := by cases l0 with
              | nil => exact absurd rfl g1
              | cons _ _ => rfl
            repeat boot_fact
            refine eq_nil (rd_shp er) ?_
            rw [le]
            repeat boot_fact
            refine ne_nil (rd_shp er) ?_
            rw [le]
            repeat boot_fact
            refine ⟨.str s0, rfl, .inl ⟨s0, rfl, ks, (fun l' e' => ?_), (fun e' => absurd (er.symm.trans e') (by simp))⟩⟩
            have e1 : l' = l0 := Option.some.inj (e'.symm.trans er)
            subst e1
            repeat boot_fact
            refine like_ok (by omega) g3 ?_
            repeat boot_fact
            exact ⟨t6, r6, _, _, _, _, rfl, ht6, hr6⟩
        · rintro Γ ⟨t6, r6, y, z, u, v, rfl, ht6, hr6⟩
          repeat boot_fact
          exact ⟨t6, r6, y, z, u, v, rfl, ht6, hr6⟩
      · rintro Γ ⟨t4, r4, y, z, u, v, rfl, ht4, hr4⟩
        obtain ⟨s0, rest, rfl⟩ : ∃ s0 rest, sts = s0 :: rest := by
          cases sts with
          | nil => exact absurd rfl n0
          | cons a b => exact ⟨a, b, rfl⟩
        have e0 : atI ((s0 :: rest).map stD) 0 = some (stD s0) := by
          unfold atI
          rw [ixN_ok (by decide) (by rw [List.length_map, List.length_cons]; omega)]
          rfl
        repeat boot_fact
        refine ix_l e0 ?_
        repeat boot_fact
        refine ⟨rfl, fun i Γ => ∃ p w3 x4 y z u v w, Γ = [some (.lst .k (ns.map D.int)), p, w3, some (.lst .f ((s0 :: rest).map stD)), x4, some (.str tx), y, z, u, v, w], ⟨_, _, _, _, _, _, _, _, rfl⟩, ?_, ?_⟩
        · rintro i d Γ hi ⟨p, w3, x4, y, z, u, v, w, rfl⟩
          have md := List.mem_of_getElem? hi
          have hb : bad d := by
            rcases List.mem_cons.mp md with rfl | md
            · exact bad_of rfl (.type "NoneType") (fun _ => .non) (fun K => by kernel_rfl)
            rcases List.mem_cons.mp md with rfl | md
            · exact bad_of rfl (.type "int") (fun _ => .int) (fun K => by kernel_rfl)
            rcases List.mem_cons.mp md with rfl | md
            · exact bad_of rfl (.type "bool") (fun _ => .bl) (fun K => by kernel_rfl)
            rcases List.mem_cons.mp md with rfl | md
            · exact bad_str ⟨by decide, ok1_lit (by decide)⟩ (by unfold rd; rw [if_neg (by decide +kernel)])
            rcases List.mem_cons.mp md with rfl | md
            · exact bad_str ⟨by decide, ok1_lit (by decide)⟩ (by unfold rd; rw [if_neg (by decide +kernel)])
            rcases List.mem_cons.mp md with rfl | md
            · exact bad_str ⟨by decide, ok1_lit (by decide)⟩ (by unfold rd; rw [if_neg (by decide +kernel)])
            rcases List.mem_cons.mp md with rfl | md
            · exact bad_of rfl (.type "tuple") (fun _ => .tup) (fun K => by kernel_rfl)
            rcases List.mem_cons.mp md with rfl | md
            · exact bad_of (d := .lst .f _) rfl (.type "list") (fun _ => .lst) (fun K => by kernel_rfl)
            rcases List.mem_cons.mp md with rfl | md
            · exact bad_of (d := .dK false _) rfl (.type "dict") (fun _ => .dK) (fun K => by kernel_rfl)
            rcases List.mem_cons.mp md with rfl | md
            · exact bad_of (d := .lst .f _) rfl (.type "list") (fun _ => .lst) (fun K => by kernel_rfl)
            rw [List.mem_singleton.mp md]
            exact bad_of (d := .tup _) rfl (.type "tuple") (fun _ => .tup) (fun K => by kernel_rfl)
          repeat boot_fact
          refine lendTo_i (lend3 rfl hb.1) ?_
          refine ⟨d, rfl, hb, ?_⟩
          refine un_i rfl ?_
          repeat boot_fact
          have e9 : ∀ Γ : DEnv, back [.s 7, .v (.int 0)] [d, .int 0] [some d, some (.int 0)] Γ = Γ := fun Γ => by
            unfold back
            rw [if_pos hb.1]
            rfl
          rw [e9]
          exact ⟨_, _, _, _, _, _, _, _, rfl⟩
        · rintro Γ ⟨p, w3, x4, y, z, u, v, w, rfl⟩
          repeat boot_fact
          refine ⟨tx, rfl, okT, ?_⟩
          have e1 : (rd tx).getD [] = (s0 :: rest).map stD := by rw [x3]; rfl
          rw [e1]
          repeat boot_fact
          have sh : ((s0 :: rest).map stD).all (shp 39) = true := rd_shp x3
          refine eq_i ?_ ?_
          · show (scl (.lst .o _) (.lst .f _) || (((s0 :: rest).map stD).all (shp 39) && ((s0 :: rest).map stD).all (shp 39))) = true
            rw [sh]
            simp
          · have e2 : deq (.lst .o ((s0 :: rest).map stD)) (.lst .f ((s0 :: rest).map stD)) = true := deq_sts _
            rw [e2]
            repeat boot_fact
            exact q _

abbrev s_init : Stmt := inClass (top 12) 0
theorem sc_init : FnScope ["self", "line"] ["self", "line"] (defScope s_init) := ⟨rfl, rfl, rfl, by decide +kernel, rfl, by decide +kernel, by decide +kernel⟩
theorem init_ok {P : Program} {w : World} {K : PySem.W.Frag} {mg : Str → Option Value} {base : Heap} {C fI : Addr} {fd : FuncData} (F : Fun K "__init__" "NoText.__init__" s_init fI fd) (T : OexC K C) (no : PySem.W.findIn K (.ref C) "line" = some none) : FnOk P w K mg base (L2.CX P w) 1 fI fd ["self", "line"] (spI K C "line") := by
  refine F.okX sc_init (fun vs H Q E h => ?_) (fun cdv A outer s H vs Q E hr h => ?_)
  · obtain ⟨a, v, rfl, _⟩ := h
    rfl
  · obtain ⟨a, v, rfl, ha, q⟩ := h
    refine ⟨_, pss_one (ps_ost (pv 0) (pv 1)), ?_⟩
    exact ⟨v, rfl, .ref a, rfl, a, C, rfl, T, no, .inl ⟨ha, fun dx h1 h2 => q dx h1 h2⟩⟩
theorem dn_fn {P : Program} {w : World} {K : PySem.W.Frag} {mg : Str → Option Value} {base : Heap} {x qual : Str} {st : Stmt} {f : Addr} {fd : FuncData} {N ps : List Str} {k : Nat} {sp : SpD} {t : TSX} (kp : Nat → Bool) (F : Fun K x qual st f fd) (S : FnScope N ps (defScope st))
    (law : ∀ ds Q Ex, sp ds Q Ex → ds.length = ps.length ∧ t (fun C l Γ => Ex C l (outsF kp Γ 0 ps.length)) { nx := fun Γ => Q .non (outsF kp Γ 0 ps.length), rt := fun d Γ => Q d (outsF kp Γ 0 ps.length) } (startD N ds))
    (body : ∀ (cdv : Value) (A : Around) (outer : List Env) (s : Shared) (H : Hp) (E : XK) (F0 H0 : Hp) (fp0 : ASet) (kv : Nat → Option V), Room k (A.deeper (envOfC qual (defScope st) s.heap.objs.size f cdv)) →
      PSs' (cxD P w K mg base N qual st f cdv A outer s H E) (EC.at K kp F0 H0 fp0 kv) (defBody st) t) : FnOk P w K mg base (L2.CX P w) (k + 1) f fd ps (spOf K sp) :=
  F.okX S (dn_len law) fun cdv A outer s H vs Q E hr h => by
    obtain ⟨F0, T, kv, Ed, tk, q⟩ := dn_core (st := st) (qual := qual) (f := f) (cdv := cdv) (A := A) (outer := outer) (s := s) (E := E) (P := P) (w := w) (mg := mg) (base := base) law h
    exact ⟨_, (body cdv A outer s H E F0 H T kv hr).of _ tk, q⟩
theorem dn_none {P : Program} {w : World} {K : PySem.W.Frag} {mg : Str → Option Value} {base : Heap} {f : Addr} {x qual : Str} {st : Stmt} {fd : FuncData} {ps : List Str} (F : Fun K x qual st f fd) (hb : Binds K fd ps []) : Dn P w K mg base f 0 (fun _ _ _ => False) :=
  ⟨fd, ps, ⟨fun vs H Q E ⟨_, _, _, _, _, _, _, z, _⟩ => z.elim, fun A outer s H args us vs Q E hr e hb hv ⟨_, _, _, _, _, _, _, z, _⟩ => z.elim⟩, F.kp, hb⟩
theorem kit_ve {K : PySem.W.Frag} {N : Addr} (h : PySem.W.subIn K (.ref N) (.type "ValueError") = some true) : PySem.W.kitOne K (.ref N) (.type "ValueError") = some true := by
  unfold PySem.W.kitOne
  rw [if_neg (by intro z; cases z)]
  unfold PySem.W.kitCls
  dsimp only
  rw [if_pos (by decide +kernel)]
  exact h
theorem kit_ref {K : PySem.W.Frag} {N C : Addr} (h1 : PySem.W.isClsIn K C = true) (h2 : PySem.W.typeIn K (.ref C) = some (.type "type")) (h3 : PySem.W.subIn K (.ref N) (.ref C) = some false) (h4 : PySem.W.subIn K (.ref N) (.ref N) = some true) : PySem.W.kitOne K (.ref N) (.ref C) = some false := by
  have ne : N ≠ C := fun e => by
    subst e
    rw [h4] at h3
    cases h3
  unfold PySem.W.kitOne
  rw [if_neg (by simpa using ne)]
  unfold PySem.W.kitCls
  dsimp only
  have e1 : (PySem.W.clsIn K C).isSome = true := h1
  rw [if_pos (by rw [e1, h2]; rfl)]
  exact h3
theorem kit_no {K : PySem.W.Frag} {t c : Value} {r : List Value} (h : PySem.W.kitOne K t c = some false) (h2 : PySem.W.kitAny K t r = some false) : PySem.W.kitAny K t (c :: r) = some false := by
  unfold PySem.W.kitAny
  rw [h]
  exact h2
theorem ints_rep {K : PySem.W.Frag} {F : Hp} : ∀ ns : List Int, RepL K F (ns.map D.int) (ns.map V.int)
  | [] => rfl
  | n :: ns => ⟨_, _, rfl, rfl, ints_rep ns⟩
theorem all_mk {P : Program} {w : World} {K : PySem.W.Frag} {h : Heap} {mg : Str → Option Value} {fa C_SwapError C_NoBook C_NoPage C_NoName C_NoHouse C_NotWanted C_Taken C_TooMany C_Clash C_NoRow C_Unfit C_NoText f_is_word f_need f_read_steps f__law_draw f__law_pick f__law_words f__law_like f__law_refused f__law_is_word f__law_read f__law_bent f_law f_init : Addr} (X : K.In h) (G : h.Ns mainGlobals mg) (hfa : mg "law" = some (.ref fa))
  {nmN qN : Str} {NN : Addr} {bsN bmN : List Value} {snN : List Str} {subN : List Value} {abN : Bool} {colN : Option Bool} {ddN : Option Addr} {m0 m1 m2 m3 m5 : Option Value}
  {tk_LETTERS : Tok}
  {tk_LONGEST_WORD : Tok}
  {od_is_word an_is_word : Option Addr} {sl_is_word : Array (Option Value)} {oc_is_word kV_is_word dc_is_word pm_is_word cd_is_word ct_is_word : Value}
  {od_need an_need : Option Addr} {sl_need : Array (Option Value)} {oc_need kV_need dc_need pm_need cd_need ct_need : Value}
  {od_read_steps an_read_steps : Option Addr} {sl_read_steps : Array (Option Value)} {oc_read_steps kV_read_steps dc_read_steps pm_read_steps cd_read_steps ct_read_steps : Value}
  {od__law_draw an__law_draw : Option Addr} {sl__law_draw : Array (Option Value)} {oc__law_draw kV__law_draw dc__law_draw pm__law_draw cd__law_draw ct__law_draw : Value}
  {od__law_pick an__law_pick : Option Addr} {sl__law_pick : Array (Option Value)} {oc__law_pick kV__law_pick dc__law_pick pm__law_pick cd__law_pick ct__law_pick : Value}
  {od__law_words an__law_words : Option Addr} {sl__law_words : Array (Option Value)} {oc__law_words kV__law_words dc__law_words pm__law_words cd__law_words ct__law_words : Value}
  {od__law_like an__law_like : Option Addr} {sl__law_like : Array (Option Value)} {oc__law_like kV__law_like dc__law_like pm__law_like cd__law_like ct__law_like : Value}
  {od__law_refused an__law_refused : Option Addr} {sl__law_refused : Array (Option Value)} {oc__law_refused kV__law_refused dc__law_refused pm__law_refused cd__law_refused ct__law_refused : Value}
  {od__law_is_word an__law_is_word : Option Addr} {sl__law_is_word : Array (Option Value)} {oc__law_is_word kV__law_is_word dc__law_is_word pm__law_is_word cd__law_is_word ct__law_is_word : Value}
  {od__law_read an__law_read : Option Addr} {sl__law_read : Array (Option Value)} {oc__law_read kV__law_read dc__law_read pm__law_read cd__law_read ct__law_read : Value}
  {od__law_bent an__law_bent : Option Addr} {sl__law_bent : Array (Option Value)} {oc__law_bent kV__law_bent dc__law_bent pm__law_bent cd__law_bent ct__law_bent : Value}
  {od_law an_law : Option Addr} {sl_law : Array (Option Value)} {oc_law kV_law dc_law pm_law cd_law ct_law : Value}
  {od_init an_init : Option Addr} {sl_init : Array (Option Value)} {oc_init kV_init dc_init pm_init cd_init ct_init : Value}
  (a_SwapError : PySem.W.nsIn K mainGlobals "SwapError" = some (some (.ref C_SwapError)))
  (a_NoBook : PySem.W.nsIn K mainGlobals "NoBook" = some (some (.ref C_NoBook)))
  (a_NoPage : PySem.W.nsIn K mainGlobals "NoPage" = some (some (.ref C_NoPage)))
  (a_NoName : PySem.W.nsIn K mainGlobals "NoName" = some (some (.ref C_NoName)))
  (a_NoHouse : PySem.W.nsIn K mainGlobals "NoHouse" = some (some (.ref C_NoHouse)))
  (a_NotWanted : PySem.W.nsIn K mainGlobals "NotWanted" = some (some (.ref C_NotWanted)))
  (a_Taken : PySem.W.nsIn K mainGlobals "Taken" = some (some (.ref C_Taken)))
  (a_TooMany : PySem.W.nsIn K mainGlobals "TooMany" = some (some (.ref C_TooMany)))
  (a_Clash : PySem.W.nsIn K mainGlobals "Clash" = some (some (.ref C_Clash)))
  (a_NoRow : PySem.W.nsIn K mainGlobals "NoRow" = some (some (.ref C_NoRow)))
  (a_Unfit : PySem.W.nsIn K mainGlobals "Unfit" = some (some (.ref C_Unfit)))
  (a_NoText : PySem.W.nsIn K mainGlobals "NoText" = some (some (.ref C_NoText)))
  (a_is_word : PySem.W.nsIn K mainGlobals "is_word" = some (some (.ref f_is_word)))
  (l_is_word : K.lookup f_is_word = some ⟨oc_is_word, od_is_word, .func (PySem.W.fnOf "is_word" "is_word" (defArgs s_is_word) (defBody s_is_word) (defScope s_is_word) .none kV_is_word dc_is_word pm_is_word an_is_word cd_is_word ct_is_word), sl_is_word⟩)
  (c_is_word : PySem.W.codeIn K cd_is_word "is_word" = true)
  (k_is_word : PySem.W.keepIn K (.ref f_is_word) = true)
  (a_need : PySem.W.nsIn K mainGlobals "need" = some (some (.ref f_need)))
  (l_need : K.lookup f_need = some ⟨oc_need, od_need, .func (PySem.W.fnOf "need" "need" (defArgs s_need) (defBody s_need) (defScope s_need) .none kV_need dc_need pm_need an_need cd_need ct_need), sl_need⟩)
  (c_need : PySem.W.codeIn K cd_need "need" = true)
  (k_need : PySem.W.keepIn K (.ref f_need) = true)
  (a_read_steps : PySem.W.nsIn K mainGlobals "read_steps" = some (some (.ref f_read_steps)))
  (l_read_steps : K.lookup f_read_steps = some ⟨oc_read_steps, od_read_steps, .func (PySem.W.fnOf "read_steps" "read_steps" (defArgs s_read_steps) (defBody s_read_steps) (defScope s_read_steps) .none kV_read_steps dc_read_steps pm_read_steps an_read_steps cd_read_steps ct_read_steps), sl_read_steps⟩)
  (c_read_steps : PySem.W.codeIn K cd_read_steps "read_steps" = true)
  (k_read_steps : PySem.W.keepIn K (.ref f_read_steps) = true)
  (a__law_draw : PySem.W.nsIn K mainGlobals "_law_draw" = some (some (.ref f__law_draw)))
  (l__law_draw : K.lookup f__law_draw = some ⟨oc__law_draw, od__law_draw, .func (PySem.W.fnOf "_law_draw" "_law_draw" (defArgs s__law_draw) (defBody s__law_draw) (defScope s__law_draw) .none kV__law_draw dc__law_draw pm__law_draw an__law_draw cd__law_draw ct__law_draw), sl__law_draw⟩)
  (c__law_draw : PySem.W.codeIn K cd__law_draw "_law_draw" = true)
  (k__law_draw : PySem.W.keepIn K (.ref f__law_draw) = true)
  (a__law_pick : PySem.W.nsIn K mainGlobals "_law_pick" = some (some (.ref f__law_pick)))
  (l__law_pick : K.lookup f__law_pick = some ⟨oc__law_pick, od__law_pick, .func (PySem.W.fnOf "_law_pick" "_law_pick" (defArgs s__law_pick) (defBody s__law_pick) (defScope s__law_pick) .none kV__law_pick dc__law_pick pm__law_pick an__law_pick cd__law_pick ct__law_pick), sl__law_pick⟩)
  (c__law_pick : PySem.W.codeIn K cd__law_pick "_law_pick" = true)
  (k__law_pick : PySem.W.keepIn K (.ref f__law_pick) = true)
  (a__law_words : PySem.W.nsIn K mainGlobals "_law_words" = some (some (.ref f__law_words)))
  (l__law_words : K.lookup f__law_words = some ⟨oc__law_words, od__law_words, .func (PySem.W.fnOf "_law_words" "_law_words" (defArgs s__law_words) (defBody s__law_words) (defScope s__law_words) .none kV__law_words dc__law_words pm__law_words an__law_words cd__law_words ct__law_words), sl__law_words⟩)
  (c__law_words : PySem.W.codeIn K cd__law_words "_law_words" = true)
  (k__law_words : PySem.W.keepIn K (.ref f__law_words) = true)
  (a__law_like : PySem.W.nsIn K mainGlobals "_law_like" = some (some (.ref f__law_like)))
  (l__law_like : K.lookup f__law_like = some ⟨oc__law_like, od__law_like, .func (PySem.W.fnOf "_law_like" "_law_like" (defArgs s__law_like) (defBody s__law_like) (defScope s__law_like) .none kV__law_like dc__law_like pm__law_like an__law_like cd__law_like ct__law_like), sl__law_like⟩)
  (c__law_like : PySem.W.codeIn K cd__law_like "_law_like" = true)
  (k__law_like : PySem.W.keepIn K (.ref f__law_like) = true)
  (a__law_refused : PySem.W.nsIn K mainGlobals "_law_refused" = some (some (.ref f__law_refused)))
  (l__law_refused : K.lookup f__law_refused = some ⟨oc__law_refused, od__law_refused, .func (PySem.W.fnOf "_law_refused" "_law_refused" (defArgs s__law_refused) (defBody s__law_refused) (defScope s__law_refused) .none kV__law_refused dc__law_refused pm__law_refused an__law_refused cd__law_refused ct__law_refused), sl__law_refused⟩)
  (c__law_refused : PySem.W.codeIn K cd__law_refused "_law_refused" = true)
  (k__law_refused : PySem.W.keepIn K (.ref f__law_refused) = true)
  (a__law_is_word : PySem.W.nsIn K mainGlobals "_law_is_word" = some (some (.ref f__law_is_word)))
  (l__law_is_word : K.lookup f__law_is_word = some ⟨oc__law_is_word, od__law_is_word, .func (PySem.W.fnOf "_law_is_word" "_law_is_word" (defArgs s__law_is_word) (defBody s__law_is_word) (defScope s__law_is_word) .none kV__law_is_word dc__law_is_word pm__law_is_word an__law_is_word cd__law_is_word ct__law_is_word), sl__law_is_word⟩)
  (c__law_is_word : PySem.W.codeIn K cd__law_is_word "_law_is_word" = true)
  (k__law_is_word : PySem.W.keepIn K (.ref f__law_is_word) = true)
  (a__law_read : PySem.W.nsIn K mainGlobals "_law_read" = some (some (.ref f__law_read)))
  (l__law_read : K.lookup f__law_read = some ⟨oc__law_read, od__law_read, .func (PySem.W.fnOf "_law_read" "_law_read" (defArgs s__law_read) (defBody s__law_read) (defScope s__law_read) .none kV__law_read dc__law_read pm__law_read an__law_read cd__law_read ct__law_read), sl__law_read⟩)
  (c__law_read : PySem.W.codeIn K cd__law_read "_law_read" = true)
  (k__law_read : PySem.W.keepIn K (.ref f__law_read) = true)
  (a__law_bent : PySem.W.nsIn K mainGlobals "_law_bent" = some (some (.ref f__law_bent)))
  (l__law_bent : K.lookup f__law_bent = some ⟨oc__law_bent, od__law_bent, .func (PySem.W.fnOf "_law_bent" "_law_bent" (defArgs s__law_bent) (defBody s__law_bent) (defScope s__law_bent) .none kV__law_bent dc__law_bent pm__law_bent an__law_bent cd__law_bent ct__law_bent), sl__law_bent⟩)
  (c__law_bent : PySem.W.codeIn K cd__law_bent "_law_bent" = true)
  (k__law_bent : PySem.W.keepIn K (.ref f__law_bent) = true)
  (a_law : PySem.W.nsIn K mainGlobals "law" = some (some (.ref f_law)))
  (l_law : K.lookup f_law = some ⟨oc_law, od_law, .func (PySem.W.fnOf "law" "law" (defArgs s_law) (defBody s_law) (defScope s_law) .none kV_law dc_law pm_law an_law cd_law ct_law), sl_law⟩)
  (c_law : PySem.W.codeIn K cd_law "law" = true)
  (k_law : PySem.W.keepIn K (.ref f_law) = true)
  (a_LETTERS : PySem.W.nsIn K mainGlobals "LETTERS" = some (some (.str "abcdefghijklmnopqrstuvwxyz" tk_LETTERS)))
  (a_LONGEST_WORD : PySem.W.nsIn K mainGlobals "LONGEST_WORD" = some (some (.int 8 tk_LONGEST_WORD)))
  (z_ValueError : PySem.W.nsIn K mainGlobals "ValueError" = some none)
  (z_abs : PySem.W.nsIn K mainGlobals "abs" = some none)
  (z_all : PySem.W.nsIn K mainGlobals "all" = some none)
  (z_bool : PySem.W.nsIn K mainGlobals "bool" = some none)
  (z_int : PySem.W.nsIn K mainGlobals "int" = some none)
  (z_isinstance : PySem.W.nsIn K mainGlobals "isinstance" = some none)
  (z_len : PySem.W.nsIn K mainGlobals "len" = some none)
  (z_list : PySem.W.nsIn K mainGlobals "list" = some none)
  (z_range : PySem.W.nsIn K mainGlobals "range" = some none)
  (z_str : PySem.W.nsIn K mainGlobals "str" = some none)
  (z_tuple : PySem.W.nsIn K mainGlobals "tuple" = some none)
  (z_zip : PySem.W.nsIn K mainGlobals "zip" = some none)
  (xL : K.lookup C_NoText = some (excClassObj nmN qN C_NoText NN bsN bmN true snN subN abN colN ddN m0 m1 m2 m3 m5 "ValueError.__new__"))
  (xR : PySem.HandSPX.refsVE bmN = true)
  (xsa : PySem.W.findIn K (.ref C_NoText) "__setattr__" = some (some (.builtin "object.__setattr__")))
  (xeC : PySem.W.subIn K (.ref C_NoText) (.type "BaseException") = some true)
  (xtC : PySem.W.typeIn K (.ref C_NoText) = some (.type "type"))
  (xkC : PySem.W.keepIn K (.ref C_NoText) = true)
  (xi : PySem.W.findIn K (.ref C_NoText) "__init__" = some (some (.ref f_init)))
  (xti : PySem.W.typeIn K (.ref f_init) = some (.type "function"))
  (l_init : K.lookup f_init = some ⟨oc_init, od_init, .func (PySem.W.fnOf "__init__" "NoText.__init__" (defArgs s_init) (defBody s_init) (defScope s_init) .none kV_init dc_init pm_init an_init cd_init ct_init), sl_init⟩)
  (c_init : PySem.W.codeIn K cd_init "NoText.__init__" = true)
  (k_init : PySem.W.keepIn K (.ref f_init) = true)
  (xno : PySem.W.findIn K (.ref C_NoText) "line" = some none)
  (ks1 : PySem.W.subIn K (.ref C_SwapError) (.type "BaseException") = some true)
  (ks2 : PySem.W.hasDictIn K C_SwapError = true)
  (ks3 : PySem.W.typeIn K (.ref C_SwapError) = some (.type "type"))
  (ks4 : PySem.W.subIn K (.ref C_NoText) (.ref C_SwapError) = some true)
  (ks5 : PySem.W.subIn K (.ref C_NoText) (.ref C_NoText) = some true)
  (kve : PySem.W.subIn K (.ref C_NoText) (.type "ValueError") = some true)
  (kc_NoBook : PySem.W.isClsIn K C_NoBook = true)
  (kt_NoBook : PySem.W.typeIn K (.ref C_NoBook) = some (.type "type"))
  (kf_NoBook : PySem.W.subIn K (.ref C_NoText) (.ref C_NoBook) = some false)
  (kc_NoPage : PySem.W.isClsIn K C_NoPage = true)
  (kt_NoPage : PySem.W.typeIn K (.ref C_NoPage) = some (.type "type"))
  (kf_NoPage : PySem.W.subIn K (.ref C_NoText) (.ref C_NoPage) = some false)
  (kc_NoHouse : PySem.W.isClsIn K C_NoHouse = true)
  (kt_NoHouse : PySem.W.typeIn K (.ref C_NoHouse) = some (.type "type"))
  (kf_NoHouse : PySem.W.subIn K (.ref C_NoText) (.ref C_NoHouse) = some false)
  (kc_NotWanted : PySem.W.isClsIn K C_NotWanted = true)
  (kt_NotWanted : PySem.W.typeIn K (.ref C_NotWanted) = some (.type "type"))
  (kf_NotWanted : PySem.W.subIn K (.ref C_NoText) (.ref C_NotWanted) = some false)
  (kc_Taken : PySem.W.isClsIn K C_Taken = true)
  (kt_Taken : PySem.W.typeIn K (.ref C_Taken) = some (.type "type"))
  (kf_Taken : PySem.W.subIn K (.ref C_NoText) (.ref C_Taken) = some false)
  (kc_TooMany : PySem.W.isClsIn K C_TooMany = true)
  (kt_TooMany : PySem.W.typeIn K (.ref C_TooMany) = some (.type "type"))
  (kf_TooMany : PySem.W.subIn K (.ref C_NoText) (.ref C_TooMany) = some false)
  (kc_Clash : PySem.W.isClsIn K C_Clash = true)
  (kt_Clash : PySem.W.typeIn K (.ref C_Clash) = some (.type "type"))
  (kf_Clash : PySem.W.subIn K (.ref C_NoText) (.ref C_Clash) = some false)
  (kc_NoRow : PySem.W.isClsIn K C_NoRow = true)
  (kt_NoRow : PySem.W.typeIn K (.ref C_NoRow) = some (.type "type"))
  (kf_NoRow : PySem.W.subIn K (.ref C_NoText) (.ref C_NoRow) = some false)
  (kc_Unfit : PySem.W.isClsIn K C_Unfit = true)
  (kt_Unfit : PySem.W.typeIn K (.ref C_Unfit) = some (.type "type"))
  (kf_Unfit : PySem.W.subIn K (.ref C_NoText) (.ref C_Unfit) = some false)
  (kc_NoName : PySem.W.isClsIn K C_NoName = true)
  (kt_NoName : PySem.W.typeIn K (.ref C_NoName) = some (.type "type"))
  (kf_NoName : PySem.W.subIn K (.ref C_NoText) (.ref C_NoName) = some false)
  (kcl : PySem.W.isClsIn K C_NoText = true)
  (kga : PySem.W.findIn K (.ref C_NoText) "__getattribute__" = some (some (.builtin "BaseException.__getattribute__")))
  (kgt : PySem.W.findIn K (.ref C_NoText) "__getattr__" = some none)
  (kca : PySem.W.findIn K (.ref C_NoText) "__class__" = some (some (.builtin "object.__class__")))
  (ksp : PySem.W.specialIn K (.builtin "object.__class__") "__get__" = some (some (.builtin "getset_descriptor.__get__")))
  (ktk : PySem.W.takesIn K (.builtin "object.__class__") = some true)
  (kmo : PySem.W.mroIn K C_NoText (.type "object") = some true)
  (khd : PySem.W.hasDictIn K C_NoText = true)
  : ∃ fd : FuncData, (∀ (s : Shared) (v : Value), BindsTo s fd ⟨[v], []⟩ [("_law_script", v)]) ∧ ∀ base : Heap, K.In base → base.Ns mainGlobals mg → FnOk P w K mg base (L2.CX P w) 6 fa fd ["_law_script"] (spOf K sp_law) := by
  have e := hfa.symm.trans (PySem.W.mg_of X G a_law)
  cases e
  refine ⟨PySem.W.fnOf "law" "law" (defArgs s_law) (defBody s_law) (defScope s_law) .none kV_law dc_law pm_law an_law cd_law ct_law, fun s v => .of_eq rfl, fun base kb gb => ?_⟩
  let a : Ad := ⟨C_SwapError, C_NoBook, C_NoPage, C_NoName, C_NoHouse, C_NotWanted, C_Taken, C_TooMany, C_Clash, C_NoRow, C_Unfit, C_NoText, f_is_word, f_need, f_read_steps, f__law_draw, f__law_pick, f__law_words, f__law_like, f__law_refused, f__law_is_word, f__law_read, f__law_bent, fa⟩
  have F_is_word := fun_mk (st := s_is_word) l_is_word c_is_word k_is_word
  have F_need := fun_mk (st := s_need) l_need c_need k_need
  have F_read_steps := fun_mk (st := s_read_steps) l_read_steps c_read_steps k_read_steps
  have F__law_draw := fun_mk (st := s__law_draw) l__law_draw c__law_draw k__law_draw
  have F__law_pick := fun_mk (st := s__law_pick) l__law_pick c__law_pick k__law_pick
  have F__law_words := fun_mk (st := s__law_words) l__law_words c__law_words k__law_words
  have F__law_like := fun_mk (st := s__law_like) l__law_like c__law_like k__law_like
  have F__law_refused := fun_mk (st := s__law_refused) l__law_refused c__law_refused k__law_refused
  have F__law_is_word := fun_mk (st := s__law_is_word) l__law_is_word c__law_is_word k__law_is_word
  have F__law_read := fun_mk (st := s__law_read) l__law_read c__law_read k__law_read
  have F__law_bent := fun_mk (st := s__law_bent) l__law_bent c__law_bent k__law_bent
  have F_law := fun_mk (st := s_law) l_law c_law k_law
  have F_init := fun_mk (st := s_init) l_init c_init k_init
  have b_is_word := F_is_word.binds (ps := ["thing"]) fun _ _ _ _ _ _ us hl => match us, hl with | [_], _ => rfl
  have b_need := F_need.binds (ps := ["truth"]) fun _ _ _ _ _ _ us hl => match us, hl with | [_], _ => rfl
  have b_read_steps := F_read_steps.binds (ps := ["text"]) fun _ _ _ _ _ _ us hl => match us, hl with | [_], _ => rfl
  have b__law_draw := F__law_draw.binds (ps := ["_law_pen", "_law_many"]) fun _ _ _ _ _ _ us hl => match us, hl with | [_, _], _ => rfl
  have b__law_pick := F__law_pick.binds (ps := ["_law_pen", "_law_some"]) fun _ _ _ _ _ _ us hl => match us, hl with | [_, _], _ => rfl
  have b__law_words := F__law_words.binds (ps := ["_law_pen", "_law_many"]) fun _ _ _ _ _ _ us hl => match us, hl with | [_, _], _ => rfl
  have b__law_like := F__law_like.binds (ps := ["_law_found", "_law_due"]) fun _ _ _ _ _ _ us hl => match us, hl with | [_, _], _ => rfl
  have b__law_refused := F__law_refused.binds (ps := ["_law_read_here", "_law_thing", "_law_line"]) fun _ _ _ _ _ _ us hl => match us, hl with | [_, _, _], _ => rfl
  have b__law_is_word := F__law_is_word.binds (ps := ["_law_text"]) fun _ _ _ _ _ _ us hl => match us, hl with | [_], _ => rfl
  have b__law_read := F__law_read.binds (ps := ["_law_text"]) fun _ _ _ _ _ _ us hl => match us, hl with | [_], _ => rfl
  have b__law_bent := F__law_bent.binds (ps := ["_law_pen", "_law_text"]) fun _ _ _ _ _ _ us hl => match us, hl with | [_, _], _ => rfl
  have b_law := F_law.binds (ps := ["_law_script"]) fun _ _ _ _ _ _ us hl => match us, hl with | [_], _ => rfl
  have b_init := F_init.binds (ps := ["self", "line"]) fun _ _ _ _ _ _ us hl => match us, hl with | [_, _], _ => rfl
  have ox : OexC K C_NoText := ⟨⟨nmN, qN, NN, bsN, bmN, snN, subN, abN, colN, ddN, m0, m1, m2, m3, m5, xL, xR⟩, xsa, xeC, xtC, xkC⟩
  have xN : ExI P w K mg base C_NoText "line" := ⟨ox, f_init, _, ["self", "line"], xi, xti, init_ok F_init ox xno, b_init⟩
  have kf : KF K a := ⟨PySem.W.exm_ref ks1 ks2 ks3 ks4, ⟨kcl, kga, kgt, xeC, kca, ksp, ktk, kmo, khd⟩, kit_ve kve, kit_no (kit_ref kc_NoBook kt_NoBook kf_NoBook ks5) (kit_no (kit_ref kc_NoPage kt_NoPage kf_NoPage ks5) (kit_no (kit_ref kc_NoHouse kt_NoHouse kf_NoHouse ks5) (kit_no (kit_ref kc_NotWanted kt_NotWanted kf_NotWanted ks5) (kit_no (kit_ref kc_Taken kt_Taken kf_Taken ks5) (kit_no (kit_ref kc_TooMany kt_TooMany kf_TooMany ks5) (kit_no (kit_ref kc_Clash kt_Clash kf_Clash ks5) (kit_no (kit_ref kc_NoRow kt_NoRow kf_NoRow ks5) (kit_no (kit_ref kc_Unfit kt_Unfit kf_Unfit ks5) (kit_no (kit_ref kc_NoName kt_NoName kf_NoName ks5) (rfl)))))))))), ⟨⟨kga, kgt, xeC, khd⟩, xno⟩⟩
  have T : Tx P w K mg base a := { m_SwapError := PySem.W.mg_of X G a_SwapError, m_NoBook := PySem.W.mg_of X G a_NoBook, m_NoPage := PySem.W.mg_of X G a_NoPage, m_NoName := PySem.W.mg_of X G a_NoName, m_NoHouse := PySem.W.mg_of X G a_NoHouse, m_NotWanted := PySem.W.mg_of X G a_NotWanted, m_Taken := PySem.W.mg_of X G a_Taken, m_TooMany := PySem.W.mg_of X G a_TooMany, m_Clash := PySem.W.mg_of X G a_Clash, m_NoRow := PySem.W.mg_of X G a_NoRow, m_Unfit := PySem.W.mg_of X G a_Unfit, m_NoText := PySem.W.mg_of X G a_NoText, m_is_word := PySem.W.mg_of X G a_is_word, m_need := PySem.W.mg_of X G a_need, m_read_steps := PySem.W.mg_of X G a_read_steps, m__law_draw := PySem.W.mg_of X G a__law_draw, m__law_pick := PySem.W.mg_of X G a__law_pick, m__law_words := PySem.W.mg_of X G a__law_words, m__law_like := PySem.W.mg_of X G a__law_like, m__law_refused := PySem.W.mg_of X G a__law_refused, m__law_is_word := PySem.W.mg_of X G a__law_is_word, m__law_read := PySem.W.mg_of X G a__law_read, m__law_bent := PySem.W.mg_of X G a__law_bent, m_LETTERS := ⟨_, PySem.W.mg_of X G a_LETTERS⟩, m_LONGEST_WORD := ⟨_, PySem.W.mg_of X G a_LONGEST_WORD⟩, n_ValueError := PySem.W.mg_none_of X G z_ValueError, n_abs := PySem.W.mg_none_of X G z_abs, n_all := PySem.W.mg_none_of X G z_all, n_bool := PySem.W.mg_none_of X G z_bool, n_int := PySem.W.mg_none_of X G z_int, n_isinstance := PySem.W.mg_none_of X G z_isinstance, n_len := PySem.W.mg_none_of X G z_len, n_list := PySem.W.mg_none_of X G z_list, n_range := PySem.W.mg_none_of X G z_range, n_str := PySem.W.mg_none_of X G z_str, n_tuple := PySem.W.mg_none_of X G z_tuple, n_zip := PySem.W.mg_none_of X G z_zip, x_NoText := xN }
  have D_is_word : Dn P w K mg base a.is_word 1 (sp_is_word) := dn_of kp_is_word F_is_word sc_is_word b_is_word (law_is_word K a) (fun cdv A outer s H E F0 H0 fp0 kv hr => bd_is_word (kk := 0) T  cdv A outer s H E F0 H0 fp0 kv hr)
  have D_need : Dn P w K mg base a.need 3 (sp_needA a) := dn_of kp_need F_need sc_need b_need (law_need K a) (fun cdv A outer s H E F0 H0 fp0 kv hr => bd_need (kk := 0) T  cdv A outer s H E F0 H0 fp0 kv hr)
  have D_read_steps : Dn P w K mg base a.read_steps 4 (sp_read a) := dn_of kp_read_steps F_read_steps sc_read_steps b_read_steps (law_read_steps K a) (fun cdv A outer s H E F0 H0 fp0 kv hr => bd_read_steps (kk := 0) T D_is_word D_need cdv A outer s H E F0 H0 fp0 kv hr)
  have D__law_draw : Dn P w K mg base a._law_draw 1 (sp_draw) := dn_of kp__law_draw F__law_draw sc__law_draw b__law_draw (law_draw K a) (fun cdv A outer s H E F0 H0 fp0 kv hr => bd__law_draw (kk := 0) T  cdv A outer s H E F0 H0 fp0 kv hr)
  have D__law_pick : Dn P w K mg base a._law_pick 2 (sp_pick) := dn_of kp__law_pick F__law_pick sc__law_pick b__law_pick (law_pick K a) (fun cdv A outer s H E F0 H0 fp0 kv hr => bd__law_pick (kk := 0) T D__law_draw cdv A outer s H E F0 H0 fp0 kv hr)
  have D__law_words : Dn P w K mg base a._law_words 3 (sp_words) := dn_of kp__law_words F__law_words sc__law_words b__law_words (law_words K a) (fun cdv A outer s H E F0 H0 fp0 kv hr => bd__law_words (kk := 0) T D__law_draw D__law_pick cdv A outer s H E F0 H0 fp0 kv hr)
  have D__law_is_word : Dn P w K mg base a._law_is_word 1 (sp__is_word) := dn_of kp__law_is_word F__law_is_word sc__law_is_word b__law_is_word (law__is_word K a) (fun cdv A outer s H E F0 H0 fp0 kv hr => bd__law_is_word (kk := 0) T  cdv A outer s H E F0 H0 fp0 kv hr)
  have D__law_read : Dn P w K mg base a._law_read 2 (sp__read) := dn_of kp__law_read F__law_read sc__law_read b__law_read (law__read K a) (fun cdv A outer s H E F0 H0 fp0 kv hr => bd__law_read (kk := 0) T D__law_is_word cdv A outer s H E F0 H0 fp0 kv hr)
  have D__law_refused : Dn P w K mg base a._law_refused 5 (sp_refused a) := dn_of kp__law_refused F__law_refused sc__law_refused b__law_refused (law_refused K a kf) (fun cdv A outer s H E F0 H0 fp0 kv hr => bd__law_refused (kk := 0) T D_read_steps cdv A outer s H E F0 H0 fp0 kv hr)
  have D__law_bent : Dn P w K mg base a._law_bent 3 (sp_bent) := dn_ofT kp__law_bent F__law_bent sc__law_bent b__law_bent (by decide +kernel) (by decide) (law_bent K a) (fun cdv A outer s H E F0 H0 fp0 kv hr => bd__law_bent (kk := 0) T D__law_draw D__law_pick cdv A outer s H E F0 H0 fp0 kv hr)
  have Dl0 : Dn P w K mg base a._law_like 1 (sp_like 0) := dn_of kp__law_like F__law_like sc__law_like b__law_like (law_like0 K a _) (fun cdv A outer s H E F0 H0 fp0 kv hr => bd__law_like T (dn_none F__law_like b__law_like) cdv A outer s H E F0 H0 fp0 kv (Nat.zero_le _) hr)
  have Dl1 : Dn P w K mg base a._law_like 2 (sp_like 1) := dn_of kp__law_like F__law_like sc__law_like b__law_like (law_likeS 0 K a) (fun cdv A outer s H E F0 H0 fp0 kv hr => bd__law_like T Dl0 cdv A outer s H E F0 H0 fp0 kv (Nat.zero_le _) hr)
  have D__law_like : Dn P w K mg base a._law_like 3 (sp_like 2) := dn_of kp__law_like F__law_like sc__law_like b__law_like (law_likeS 1 K a) (fun cdv A outer s H E F0 H0 fp0 kv hr => bd__law_like T Dl1 cdv A outer s H E F0 H0 fp0 kv (Nat.zero_le _) hr)
  exact dn_fn kp_law F_law sc_law (law_law K a) (fun cdv A outer s H E F0 H0 fp0 kv hr => bd_law (kk := 0) T D_read_steps D__law_draw D__law_pick D__law_words D__law_like D__law_refused D__law_read D__law_bent cdv A outer s H E F0 H0 fp0 kv hr)
theorem walk {l : PySem.W.OpenLaw} {q : Program} {loose : List Str} {XP : (Str → Option Value) → Heap → Prop} {YP : World → Heap → Prop} {d : DefRec} {K : Params → PySem.W.Frag} (hn : l.most = some 63) (hdf : d.params.defaults = [])
    (hY : ∀ (w : World) (h : Heap), YP w h → (K w.params).In h)
    (F : ∀ (w : World) (mg : Str → Option Value) (fa : Addr) (h : Heap), (K w.params).In h → h.Ns mainGlobals mg → mg d.name = some (.ref fa) →
      ∃ fd : FuncData, (∀ (s : Shared) (u : Value), BindsTo s fd ⟨[u], []⟩ [("_law_script", u)]) ∧ ∀ base : Heap, (K w.params).In base → base.Ns mainGlobals mg → FnOk l.prog w (K w.params) mg base (L2.CX l.prog w) 6 fa fd ["_law_script"] (spOf (K w.params) sp_law)) :
    PySem.W.WalkO q loose XP YP l.row.toRowW d [] (fun f vs => PySem.call f vs) :=
  L2.walk_of (n := 63) (k := 6) (x := "_law_script") (CX := fun w => L2.CX l.prog w) (sp := fun w => spOf (K w.params) sp_law) hn (by decide) hdf ⟨rfl, by decide, by decide⟩ hY F (fun w H a ns hl _ hS => by
    refine ⟨H, [.lst .k (ns.map D.int)], fun b => Nil b ∨ Nil b, fun d _ => d = .bl true, fun _ _ _ => False, fun _ _ z => z, ⟨.ref a, [], Nil, Nil, rfl, rfl, fun _ z => z.elim, own_nil ⟨a, ns.map V.int, rfl, hS, ints_rep ns⟩ rfl, rfl, rfl⟩, ⟨ns, rfl, fun _ => rfl⟩, fun F' H' r v outs f g _ ow _ _ _ e => ?_, fun _ _ _ _ _ _ _ _ _ _ _ z => z.elim⟩
    subst e
    exact ow.2) fun w H s e s' z => by
    obtain ⟨_, _, _, _, _, _, _, _, _, _, _, _, z⟩ := z
    exact z

end K81

open PySem PySem.W PyProof.Rows
set_option maxRecDepth 100000 in
set_option maxHeartbeats 0 in
theorem PySem.Challenge.cw_doublerings_k81_steps_read_holds : PySem.Challenge.rw_doublerings_k81_steps_read.Holds := by
  w_on; o_law; k_head; (case hw => w_witness2)
  k_fill
  refine K81.walk (l := PySem.Challenge.rw_doublerings_k81_steps_read) rfl rfl (fun w h Y => PySem.W.kIn_of Y) ?F
  case F =>
    intro w mg fa h KX G hmg
    refine' K81.all_mk KX G hmg ?a_SwapError ?a_NoBook ?a_NoPage ?a_NoName ?a_NoHouse ?a_NotWanted ?a_Taken ?a_TooMany ?a_Clash ?a_NoRow ?a_Unfit ?a_NoText ?a_is_word ?l_is_word ?c_is_word ?k_is_word ?a_need ?l_need ?c_need ?k_need ?a_read_steps ?l_read_steps ?c_read_steps ?k_read_steps ?a__law_draw ?l__law_draw ?c__law_draw ?k__law_draw ?a__law_pick ?l__law_pick ?c__law_pick ?k__law_pick ?a__law_words ?l__law_words ?c__law_words ?k__law_words ?a__law_like ?l__law_like ?c__law_like ?k__law_like ?a__law_refused ?l__law_refused ?c__law_refused ?k__law_refused ?a__law_is_word ?l__law_is_word ?c__law_is_word ?k__law_is_word ?a__law_read ?l__law_read ?c__law_read ?k__law_read ?a__law_bent ?l__law_bent ?c__law_bent ?k__law_bent ?a_law ?l_law ?c_law ?k_law ?a_LETTERS ?a_LONGEST_WORD ?z_ValueError ?z_abs ?z_all ?z_bool ?z_int ?z_isinstance ?z_len ?z_list ?z_range ?z_str ?z_tuple ?z_zip ?xL ?xR ?xsa ?xeC ?xtC ?xkC ?xi ?xti ?l_init ?c_init ?k_init ?xno ?ks1 ?ks2 ?ks3 ?ks4 ?ks5 ?kve ?kc_NoBook ?kt_NoBook ?kf_NoBook ?kc_NoPage ?kt_NoPage ?kf_NoPage ?kc_NoHouse ?kt_NoHouse ?kf_NoHouse ?kc_NotWanted ?kt_NotWanted ?kf_NotWanted ?kc_Taken ?kt_Taken ?kf_Taken ?kc_TooMany ?kt_TooMany ?kf_TooMany ?kc_Clash ?kt_Clash ?kf_Clash ?kc_NoRow ?kt_NoRow ?kf_NoRow ?kc_Unfit ?kt_Unfit ?kf_Unfit ?kc_NoName ?kt_NoName ?kf_NoName ?kcl ?kga ?kgt ?kca ?ksp ?ktk ?kmo ?khd
    (case a_SwapError => k_is)
    (case a_NoBook => k_is)
    (case a_NoPage => k_is)
    (case a_NoName => k_is)
    (case a_NoHouse => k_is)
    (case a_NotWanted => k_is)
    (case a_Taken => k_is)
    (case a_TooMany => k_is)
    (case a_Clash => k_is)
    (case a_NoRow => k_is)
    (case a_Unfit => k_is)
    (case a_NoText => k_is)
    (case a_is_word => k_is)
    (case l_is_word => k_is)
    (case c_is_word => k_is)
    (case k_is_word => k_is)
    (case a_need => k_is)
    (case l_need => k_is)
    (case c_need => k_is)
    (case k_need => k_is)
    (case a_read_steps => k_is)
    (case l_read_steps => k_is)
    (case c_read_steps => k_is)
    (case k_read_steps => k_is)
    (case a__law_draw => k_is)
    (case l__law_draw => k_is)
    (case c__law_draw => k_is)
    (case k__law_draw => k_is)
    (case a__law_pick => k_is)
    (case l__law_pick => k_is)
    (case c__law_pick => k_is)
    (case k__law_pick => k_is)
    (case a__law_words => k_is)
    (case l__law_words => k_is)
    (case c__law_words => k_is)
    (case k__law_words => k_is)
    (case a__law_like => k_is)
    (case l__law_like => k_is)
    (case c__law_like => k_is)
    (case k__law_like => k_is)
    (case a__law_refused => k_is)
    (case l__law_refused => k_is)
    (case c__law_refused => k_is)
    (case k__law_refused => k_is)
    (case a__law_is_word => k_is)
    (case l__law_is_word => k_is)
    (case c__law_is_word => k_is)
    (case k__law_is_word => k_is)
    (case a__law_read => k_is)
    (case l__law_read => k_is)
    (case c__law_read => k_is)
    (case k__law_read => k_is)
    (case a__law_bent => k_is)
    (case l__law_bent => k_is)
    (case c__law_bent => k_is)
    (case k__law_bent => k_is)
    (case a_law => k_is)
    (case l_law => k_is)
    (case c_law => k_is)
    (case k_law => k_is)
    (case a_LETTERS => k_is)
    (case a_LONGEST_WORD => k_is)
    (case z_ValueError => k_is)
    (case z_abs => k_is)
    (case z_all => k_is)
    (case z_bool => k_is)
    (case z_int => k_is)
    (case z_isinstance => k_is)
    (case z_len => k_is)
    (case z_list => k_is)
    (case z_range => k_is)
    (case z_str => k_is)
    (case z_tuple => k_is)
    (case z_zip => k_is)
    (case xL => k_is)
    (case xR => first | decide +kernel | kernel_rfl | rfl)
    (case xsa => k_is)
    (case xeC => k_is)
    (case xtC => k_is)
    (case xkC => k_is)
    (case xi => k_is)
    (case xti => k_is)
    (case l_init => k_is)
    (case c_init => k_is)
    (case k_init => k_is)
    (case xno => k_is)
    (case ks1 => k_is)
    (case ks2 => k_is)
    (case ks3 => k_is)
    (case ks4 => k_is)
    (case ks5 => k_is)
    (case kve => k_is)
    (case kc_NoBook => k_is)
    (case kt_NoBook => k_is)
    (case kf_NoBook => k_is)
    (case kc_NoPage => k_is)
    (case kt_NoPage => k_is)
    (case kf_NoPage => k_is)
    (case kc_NoHouse => k_is)
    (case kt_NoHouse => k_is)
    (case kf_NoHouse => k_is)
    (case kc_NotWanted => k_is)
    (case kt_NotWanted => k_is)
    (case kf_NotWanted => k_is)
    (case kc_Taken => k_is)
    (case kt_Taken => k_is)
    (case kf_Taken => k_is)
    (case kc_TooMany => k_is)
    (case kt_TooMany => k_is)
    (case kf_TooMany => k_is)
    (case kc_Clash => k_is)
    (case kt_Clash => k_is)
    (case kf_Clash => k_is)
    (case kc_NoRow => k_is)
    (case kt_NoRow => k_is)
    (case kf_NoRow => k_is)
    (case kc_Unfit => k_is)
    (case kt_Unfit => k_is)
    (case kf_Unfit => k_is)
    (case kc_NoName => k_is)
    (case kt_NoName => k_is)
    (case kf_NoName => k_is)
    (case kcl => k_is)
    (case kga => k_is)
    (case kgt => k_is)
    (case kca => k_is)
    (case ksp => k_is)
    (case ktk => k_is)
    (case kmo => k_is)
    (case khd => k_is)
