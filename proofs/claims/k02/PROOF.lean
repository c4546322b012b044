import PyProof.Rows.All
import Wide.All
import OpenK.AllK
import Wide.FinOn
import KE.KStateDown
import Lean
import HandS.Base
import HandS.Call
import HandS.Ends
import HandS.More
import HandS.Words
import HandS.WordsExc
import HandS.Defaults
import HandS.Head0
import HandS.Head1
import HandS.Head2
import HandS.HeadEnd
import HandS.HeadHook1
import HandS.HeadHook2
import HandS.ForMost
import HandS.Flow
import HandS.IsInst
import HandS.Wide
import HandS.Walk
import HandS.Zip
import HandS.Lambda
import HandS.TupAny
import HandS.TupMul
import HandS.TupLe
import HandS.TryOnly
import HandS.Style
import HandS.Deep
import KE.GoesNew
import KE.KDictZip
import HandS.Keys
import KE.SortData
import KE.KDictCopyH
import KE.KDictSum
import HandS.DictTup
import KE.KAssignIn
import PyProof.ReprBulk
import PyProof.EqAt
import PyProof.EqKinds
import PyProof.TupleCall
import HandS.List
import HandS.Dict
import HandS.Iter
import HandS.Comp
import HandS.Exc
import HandS.ExcCtx
import HandS.Hot
import HandS.HotCalls
import HandS.ClsMeth
import HandS.ExcInit
import HandS.ExcInitHot
import KE.KExcIs
import HandS.ExcField
import HandS.Text
import HandS.ExcOwn
import HandS.HeadWalk
import HandS.HeadHook4
import PySem.Challenge.RW_stayfast_k02_bars_more_and_less
set_option Elab.async false
set_option linter.all false
set_option maxRecDepth 100000
set_option maxHeartbeats 0
set_option exponentiation.threshold 7000
namespace MP
open PySem L2
inductive Vl where
  | fz (d : PyData)
  | ls (xs : List Vl)
  | ob (c : Nat) (xs : List Vl)
  | lk (v : V) (xs : List Vl)
  | hl (v : V)
  | sc (ns : List Int)
  | dt (kvs : List (List L2.Key × PyData))
def clsName : Nat → Str
  | 0 => "Rows" | 1 => "Table" | 2 => "Most" | 3 => "Yard" | _ => "Desk"
def clsFlds : Nat → List Str
  | 0 => ["wide", "basis", "many"]
  | 1 => ["signs", "count", "lines", "base", "scale", "first", "second"]
  | 2 => ["given", "bounds", "wide", "many", "right", "members", "stops", "table", "ends"]
  | 3 => ["now", "former", "later", "pages"]
  | _ => ["yard"]
abbrev FP := Addr → Nat
def one (p : Addr) : FP := fun a => if a = p then 1 else 0
section
variable (K : PySem.W.Frag)
mutual
/-- v is the datum d, in the frozen heap G -/
def Dt (G : Hp) : PyData → V → Prop
  | .none, v => v = .non
  | .bool b, v => v = .bl b
  | .int i, v => v = .int i
  | .str s, v => v = .str s
  | .list ds, v => ∃ a xs, v = .ref a ∧ Rd G a (.lst xs) ∧ DtAll G ds xs
  | .tuple ds, v => ∃ a xs, v = .ref a ∧ SqT K G a xs ∧ DtAll G ds xs
  | .dict _, _ => False
def DtAll (G : Hp) : List PyData → List V → Prop
  | [], vs => vs = []
  | d :: ds, vs => ∃ v r, vs = v :: r ∧ Dt G d v ∧ DtAll G ds r
end
def DtKV (G : Hp) : List (List L2.Key × PyData) → List (List L2.Key × V) → Prop
  | [], r => r = []
  | (k, d) :: kvs, r => ∃ v r', r = (k, v) :: r' ∧ Dt K G d v ∧ DtKV G kvs r'
mutual
/-- v is x, by the footprint F in the heap H -/
def Own (G H : Hp) : Vl → V → FP → Prop
  | .fz d, v, F => Dt K G d v ∧ ∀ a, F a = 0
  | .ls xs, v, F => ∃ p vs F', v = .ref p ∧ H p = some (.lst vs) ∧ OwnAll G H xs vs F' ∧ ∀ a, F a = one p a + F' a
  | .ob c xs, v, F => ∃ p dx vs F', v = .ref p ∧ H p = some (.ins (He.ga K (clsName c)) dx ((clsFlds c).zip vs)) ∧ vs.length ≤ (clsFlds c).length ∧ OwnAll G H xs vs F' ∧ ∀ a, F a = one p a + F' a
  | .hl v0, v, F => v = v0 ∧ ∀ a, F a = 0
  | .lk v0 xs, v, F => v = v0 ∧ ∃ p vs F', v = .ref p ∧ H p = some (.lst vs) ∧ OwnAll G H xs vs F' ∧ ∀ a, F a = one p a + F' a
  | .sc ns, v, F => (∃ a, v = .ref a ∧ SqL K G a (ns.map V.int)) ∧ ∀ a, F a = 0
  | .dt kvs, v, F => ∃ p kvs', v = .ref p ∧ H p = some (.dT kvs') ∧ DtKV K G kvs kvs' ∧ ∀ a, F a = one p a
def OwnAll (G H : Hp) : List Vl → List V → FP → Prop
  | [], vs, F => vs = [] ∧ ∀ a, F a = 0
  | x :: xs, vs, F => ∃ v r F1 F2, vs = v :: r ∧ Own G H x v F1 ∧ OwnAll G H xs r F2 ∧ ∀ a, F a = F1 a + F2 a
end
end
abbrev Sl := List (Option Vl)
def OwnE (K : PySem.W.Frag) (G H : Hp) : Sl → St → FP → Prop
  | [], _, F => ∀ a, F a = 0
  | none :: ρ, σ, F => ∃ s r, σ = s :: r ∧ OwnE K G H ρ r F
  | some x :: ρ, σ, F => ∃ v r F1 F2, σ = some v :: r ∧ Own K G H x v F1 ∧ OwnE K G H ρ r F2 ∧ ∀ a, F a = F1 a + F2 a
class LamT where
  T : List (Addr × Str)
instance (priority := low) noLam : LamT := ⟨[]⟩
variable [LamT]
def TabG (G : Hp) (ps : Array Value) (q : Str) : Prop := TriplesOk ps.toList ∧ ∀ (pos : Pos) (cv : Value), codeAmong pos ps.toList = some cv → ∃ c, cv = .ref c ∧ G c = some (LamX.CodeO c q)
structure Ok (G : Hp) (H : Hp) (F : FP) : Prop where
  le : ∀ a o, G a = some o → H a = some o
  nd : ∀ a, F a ≤ 1
  dj : ∀ a, F a ≠ 0 → G a = none
  kn : ∀ a, F a ≠ 0 → H a ≠ none
  tu : ∀ a xs, H a = some (.tup xs) → G a = some (.tup xs)
  nt : ∀ a ps, H a = some (.tbl ps) → F a = 0 ∧ G a = none
  tb : ∀ p ∈ LamT.T, ∃ ps, H p.1 = some (.tbl ps) ∧ TabG G ps p.2
  cd : ∀ a f, H a = some (.ext f) → G a = some (.ext f)
def Vac (H : Hp) (a : Addr) : Prop := H a = none ∨ ∃ ps, H a = some (.tbl ps)
theorem vac_not {H : Hp} {a : Addr} {o : HO} (h : H a = some o) (n : ∀ ps, o ≠ .tbl ps) : ¬ Vac H a := fun z => by
  rcases z with z | ⟨ps, z⟩
  · rw [h] at z; cases z
  · rw [h] at z; exact n ps (Option.some.inj z)
theorem vac_ex {H : Hp} {a : Addr} (h : ¬ Vac H a) : ∃ o, H a = some o ∧ ∀ ps, o ≠ .tbl ps := by
  cases q : H a with
  | none => exact absurd (.inl q) h
  | some o => exact ⟨o, rfl, fun ps e => h (.inr ⟨ps, by rw [q, e]⟩)⟩
structure Fr (G H : Hp) (F : FP) (G' H' : Hp) (F' : FP) : Prop where
  g : ∀ a o, G a = some o → G' a = some o
  h : ∀ a o, H a = some o → F a = 0 → (∀ ps, o ≠ .tbl ps) → H' a = some o
  f : ∀ a, F' a ≠ 0 → F a ≠ 0 ∨ Vac H a
  gf : ∀ a, G' a ≠ none → G a ≠ none ∨ F a ≠ 0 ∨ Vac H a
  al : ∀ a, ¬ Vac H a → ¬ Vac H' a
theorem rd_mono {G G' : Hp} {a : Addr} {u : HO} (g : ∀ a o, G a = some o → G' a = some o) (h : Rd G a u) : Rd G' a u := by
  rcases h with h | ⟨o, h⟩
  · exact .inl (g _ _ h)
  · exact .inr ⟨o, g _ _ h⟩
theorem sqL_mono {K : PySem.W.Frag} {G G' : Hp} {a : Addr} {xs : List V} (g : ∀ a o, G a = some o → G' a = some o) (h : SqL K G a xs) : SqL K G' a xs := by
  rcases h with h | h
  · exact .inl (rd_mono g h)
  · exact .inr h
theorem sqT_mono {K : PySem.W.Frag} {G G' : Hp} {a : Addr} {xs : List V} (g : ∀ a o, G a = some o → G' a = some o) (h : SqT K G a xs) : SqT K G' a xs := by
  rcases h with h | h
  · exact .inl (rd_mono g h)
  · exact .inr h
section
variable {K : PySem.W.Frag} {G G' H H' : Hp}
mutual
theorem Dt.mono (g : ∀ a o, G a = some o → G' a = some o) : ∀ (d : PyData) (v : V), Dt K G d v → Dt K G' d v
  | .none, _, h => h
  | .bool _, _, h => h
  | .int _, _, h => h
  | .str _, _, h => h
  | .list ds, v, h => by
    simp only [Dt] at h ⊢
    obtain ⟨a, xs, e, q, r⟩ := h
    exact ⟨a, xs, e, rd_mono g q, DtAll.mono g ds xs r⟩
  | .tuple ds, v, h => by
    simp only [Dt] at h ⊢
    obtain ⟨a, xs, e, q, r⟩ := h
    exact ⟨a, xs, e, sqT_mono g q, DtAll.mono g ds xs r⟩
  | .dict _, _, h => h
theorem DtAll.mono (g : ∀ a o, G a = some o → G' a = some o) : ∀ (ds : List PyData) (vs : List V), DtAll K G ds vs → DtAll K G' ds vs
  | [], _, h => h
  | d :: ds, vs, h => by
    simp only [DtAll] at h ⊢
    obtain ⟨v, r, e, h1, h2⟩ := h
    exact ⟨v, r, e, Dt.mono g d v h1, DtAll.mono g ds r h2⟩
end
theorem DtKV.mono (g : ∀ a o, G a = some o → G' a = some o) : ∀ (kvs : List (List L2.Key × PyData)) (r : List (List L2.Key × V)), DtKV K G kvs r → DtKV K G' kvs r
  | [], _, h => h
  | (k, d) :: kvs, r, h => by
    simp only [DtKV] at h ⊢
    obtain ⟨v, r', e, h1, h2⟩ := h
    exact ⟨v, r', e, Dt.mono g d v h1, DtKV.mono g kvs r' h2⟩
theorem one_self (p : Addr) : one p p = 1 := by simp [one]
theorem one_ne {p a : Addr} (h : a ≠ p) : one p a = 0 := by simp [one, h]
mutual
theorem Own.mono (g : ∀ a o, G a = some o → G' a = some o) : ∀ (x : Vl) (v : V) (F : FP), Own K G H x v F → (∀ a, F a ≠ 0 → H' a = H a) → Own K G' H' x v F
  | .fz d, v, F, h, _ => by
    simp only [Own] at h ⊢
    exact ⟨Dt.mono g d v h.1, h.2⟩
  | .ls xs, v, F, h, k => by
    simp only [Own] at h ⊢
    obtain ⟨p, vs, F', e, hp, r, f⟩ := h
    refine ⟨p, vs, F', e, ?_, OwnAll.mono g xs vs F' r fun a ha => k a ?_, f⟩
    · rw [k p (by rw [f, one_self]; omega)]; exact hp
    · rw [f]; omega
  | .ob c xs, v, F, h, k => by
    simp only [Own] at h ⊢
    obtain ⟨p, dx, vs, F', e, hp, hl, r, f⟩ := h
    refine ⟨p, dx, vs, F', e, ?_, hl, OwnAll.mono g xs vs F' r fun a ha => k a ?_, f⟩
    · rw [k p (by rw [f, one_self]; omega)]; exact hp
    · rw [f]; omega
  | .hl v0, v, F, h, _ => by
    simp only [Own] at h ⊢
    exact h
  | .lk v0 xs, v, F, h, k => by
    simp only [Own] at h ⊢
    obtain ⟨e0, p, vs, F', e, hp, r, f⟩ := h
    refine ⟨e0, p, vs, F', e, ?_, OwnAll.mono g xs vs F' r fun a ha => k a ?_, f⟩
    · rw [k p (by rw [f, one_self]; omega)]; exact hp
    · rw [f]; omega
  | .sc ns, v, F, h, _ => by
    simp only [Own] at h ⊢
    obtain ⟨⟨a, e, q⟩, f⟩ := h
    exact ⟨⟨a, e, sqL_mono g q⟩, f⟩
  | .dt kvs, v, F, h, k => by
    simp only [Own] at h ⊢
    obtain ⟨p, kvs', e, hp, r, f⟩ := h
    refine ⟨p, kvs', e, ?_, DtKV.mono g kvs kvs' r, f⟩
    rw [k p (by rw [f, one_self]; omega)]; exact hp
theorem OwnAll.mono (g : ∀ a o, G a = some o → G' a = some o) : ∀ (xs : List Vl) (vs : List V) (F : FP), OwnAll K G H xs vs F → (∀ a, F a ≠ 0 → H' a = H a) → OwnAll K G' H' xs vs F
  | [], _, _, h, _ => by simp only [OwnAll] at h ⊢; exact h
  | x :: xs, vs, F, h, k => by
    simp only [OwnAll] at h ⊢
    obtain ⟨v, r, F1, F2, e, h1, h2, f⟩ := h
    exact ⟨v, r, F1, F2, e, Own.mono g x v F1 h1 fun a ha => k a (by rw [f]; omega), OwnAll.mono g xs r F2 h2 fun a ha => k a (by rw [f]; omega), f⟩
end
theorem OwnE.mono (g : ∀ a o, G a = some o → G' a = some o) : ∀ (ρ : Sl) (σ : St) (F : FP), OwnE K G H ρ σ F → (∀ a, F a ≠ 0 → H' a = H a) → OwnE K G' H' ρ σ F
  | [], _, _, h, _ => h
  | none :: ρ, σ, F, h, k => by
    obtain ⟨s, r, e, h⟩ := h
    exact ⟨s, r, e, OwnE.mono g ρ r F h k⟩
  | some x :: ρ, σ, F, h, k => by
    obtain ⟨v, r, F1, F2, e, h1, h2, f⟩ := h
    exact ⟨v, r, F1, F2, e, Own.mono g x v F1 h1 fun a ha => k a (by rw [f]; omega), OwnE.mono g ρ r F2 h2 fun a ha => k a (by rw [f]; omega), f⟩
mutual
theorem Own.kn : ∀ (x : Vl) (v : V) (F : FP), Own K G H x v F → ∀ a, F a ≠ 0 → H a ≠ none
  | .fz d, v, F, h, a, ha => by simp only [Own] at h; exact absurd (h.2 a) ha
  | .ls xs, v, F, h, a, ha => by
    simp only [Own] at h
    obtain ⟨p, vs, F', e, hp, r, f⟩ := h
    by_cases hap : a = p
    · subst hap; rw [hp]; simp
    · rw [f, one_ne hap] at ha
      exact OwnAll.kn xs vs F' r a (by omega)
  | .ob c xs, v, F, h, a, ha => by
    simp only [Own] at h
    obtain ⟨p, dx, vs, F', e, hp, hl, r, f⟩ := h
    by_cases hap : a = p
    · subst hap; rw [hp]; simp
    · rw [f, one_ne hap] at ha
      exact OwnAll.kn xs vs F' r a (by omega)
  | .hl v0, v, F, h, a, ha => by simp only [Own] at h; exact absurd (h.2 a) ha
  | .lk v0 xs, v, F, h, a, ha => by
    simp only [Own] at h
    obtain ⟨e0, p, vs, F', e, hp, r, f⟩ := h
    by_cases hap : a = p
    · subst hap; rw [hp]; simp
    · rw [f, one_ne hap] at ha
      exact OwnAll.kn xs vs F' r a (by omega)
  | .sc ns, v, F, h, a, ha => by simp only [Own] at h; exact absurd (h.2 a) ha
  | .dt kvs, v, F, h, a, ha => by
    simp only [Own] at h
    obtain ⟨p, kvs', e, hp, r, f⟩ := h
    by_cases hap : a = p
    · subst hap; rw [hp]; simp
    · rw [f, one_ne hap] at ha
      exact absurd rfl ha
theorem OwnAll.kn : ∀ (xs : List Vl) (vs : List V) (F : FP), OwnAll K G H xs vs F → ∀ a, F a ≠ 0 → H a ≠ none
  | [], _, _, h, a, ha => by simp only [OwnAll] at h; exact absurd (h.2 a) ha
  | x :: xs, vs, F, h, a, ha => by
    simp only [OwnAll] at h
    obtain ⟨v, r, F1, F2, e, h1, h2, f⟩ := h
    rw [f] at ha
    by_cases h0 : F1 a = 0
    · exact OwnAll.kn xs r F2 h2 a (by omega)
    · exact Own.kn x v F1 h1 a h0
end
end
mutual
@[simp] def erase : Vl → Option PyData
  | .fz d => some d
  | .ls xs => (eraseAll xs).map PyData.list
  | .ob _ _ => none
  | .lk _ _ => none
  | .hl _ => none
  | .sc _ => none
  | .dt _ => none
@[simp] def eraseAll : List Vl → Option (List PyData)
  | [] => some []
  | x :: xs => match erase x, eraseAll xs with
    | some d, some ds => some (d :: ds)
    | _, _ => none
end
section
variable {K : PySem.W.Frag} {G G' H : Hp}
mutual
theorem Own.frz (g : ∀ a o, G a = some o → G' a = some o) : ∀ (x : Vl) (v : V) (F : FP) (d : PyData), Own K G H x v F → erase x = some d → (∀ a, F a ≠ 0 → G' a = H a) → Dt K G' d v
  | .fz d, v, F, d', h, e, _ => by
    simp only [erase, Option.some.injEq] at e
    simp only [Own] at h
    subst e
    exact Dt.mono g d v h.1
  | .ls xs, v, F, d', h, e, k => by
    simp only [erase] at e
    cases q : eraseAll xs with
    | none => rw [q] at e; cases e
    | some ds =>
      rw [q] at e
      simp only [Option.map_some, Option.some.injEq] at e
      subst e
      simp only [Own] at h
      obtain ⟨p, vs, F', rfl, hp, r, f⟩ := h
      simp only [Dt]
      refine ⟨p, vs, rfl, .inl ?_, OwnAll.frz g xs vs F' ds r q fun a ha => k a (by rw [f]; omega)⟩
      rw [k p (by rw [f, one_self]; omega)]; exact hp
  | .ob _ _, _, _, _, _, e, _ => by simp [erase] at e
  | .lk _ _, _, _, _, _, e, _ => by simp [erase] at e
  | .hl _, _, _, _, _, e, _ => by simp [erase] at e
  | .sc _, _, _, _, _, e, _ => by simp [erase] at e
  | .dt _, _, _, _, _, e, _ => by simp [erase] at e
theorem OwnAll.frz (g : ∀ a o, G a = some o → G' a = some o) : ∀ (xs : List Vl) (vs : List V) (F : FP) (ds : List PyData), OwnAll K G H xs vs F → eraseAll xs = some ds → (∀ a, F a ≠ 0 → G' a = H a) → DtAll K G' ds vs
  | [], vs, F, ds, h, e, _ => by
    simp only [eraseAll, Option.some.injEq] at e
    subst e
    simp only [OwnAll] at h
    simp only [DtAll]
    exact h.1
  | x :: xs, vs, F, ds, h, e, k => by
    simp only [eraseAll] at e
    cases q1 : erase x with
    | none => rw [q1] at e; cases e
    | some d =>
      cases q2 : eraseAll xs with
      | none => rw [q1, q2] at e; cases e
      | some ds' =>
        rw [q1, q2] at e
        simp only [Option.some.injEq] at e
        subst e
        simp only [OwnAll] at h
        obtain ⟨v, r, F1, F2, rfl, h1, h2, f⟩ := h
        simp only [DtAll]
        exact ⟨v, r, rfl, Own.frz g x v F1 d h1 q1 fun a ha => k a (by rw [f]; omega), OwnAll.frz g xs r F2 ds' h2 q2 fun a ha => k a (by rw [f]; omega)⟩
end
end
section
variable {K : PySem.W.Frag} {G G' G'' H H' H'' : Hp} {F F' F'' F1 F2 : FP}
theorem TabG.mono {G G' : Hp} {ps : Array Value} {q : Str} (g : ∀ a o, G a = some o → G' a = some o) (h : TabG G ps q) : TabG G' ps q := by
  refine ⟨h.1, fun pos cv hc => ?_⟩
  obtain ⟨c, e1, e2⟩ := h.2 pos cv hc
  exact ⟨c, e1, g _ _ e2⟩
theorem Ok.congr {G : Hp} (h : Ok G H F) (e : ∀ a, F' a = F a) : Ok G H F' :=
  ⟨h.le, fun a => by rw [e]; exact h.nd a, fun a q => h.dj a (by rw [← e]; exact q), fun a q => h.kn a (by rw [← e]; exact q), h.tu, fun a ps q => by rw [e]; exact h.nt a ps q, h.tb, h.cd⟩
theorem Fr.congr {G G' : Hp} (h : Fr G H F G' H' F') (e : ∀ a, F1 a = F a) (e' : ∀ a, F2 a = F' a) : Fr G H F1 G' H' F2 :=
  ⟨h.g, fun a o q z => h.h a o q (by rw [← e]; exact z), fun a q => by rw [e]; exact h.f a (by rw [← e']; exact q), fun a q => by rw [e]; exact h.gf a q, h.al⟩
theorem Fr.refl {G : Hp} (ok : Ok G H F) : Fr G H F G H F :=
  ⟨fun _ _ h => h, fun _ _ h _ _ => h, fun _ h => .inl h, fun _ h => .inl h, fun _ h => h⟩
theorem Fr.trans {G G' G'' : Hp} (a : Fr G H F G' H' F') (b : Fr G' H' F' G'' H'' F'') : Fr G H F G'' H'' F'' where
  g := fun x o h => b.g x o (a.g x o h)
  h := fun x o h z n => by
    refine b.h x o (a.h x o h z n) ?_ n
    by_cases q : F' x = 0
    · exact q
    · rcases a.f x q with r | r
      · exact absurd z r
      · exact absurd r (vac_not h n)
  f := fun x q => by
    rcases b.f x q with r | r
    · exact a.f x r
    · by_cases z : Vac H x
      · exact .inr z
      · exact absurd r (a.al x z)
  gf := fun x q => by
    rcases b.gf x q with r | r | r
    · exact a.gf x r
    · rcases a.f x r with z | z
      · exact .inr (.inl z)
      · exact .inr (.inr z)
    · by_cases z : Vac H x
      · exact .inr (.inr z)
      · exact absurd r (a.al x z)
  al := fun x h => b.al x (a.al x h)
theorem Ok.notb {G : Hp} (ok : Ok G H F) {a : Addr} (h : F a ≠ 0) {o : HO} (e : H a = some o) : ∀ ps, o ≠ .tbl ps := fun ps z => by
  subst z
  exact h (ok.nt a ps e).1
theorem Ok.novac {G : Hp} (ok : Ok G H F) {a : Addr} (h : F a ≠ 0) : ¬ Vac H a := fun z => by
  rcases z with z | ⟨ps, z⟩
  · exact ok.kn a h z
  · exact h (ok.nt a ps z).1
theorem Fr.side {G G' : Hp} (a : Fr G H F G' H' F') (ok : Ok G H (fun x => F1 x + F x)) (ok' : Ok G' H' F') : Ok G' H' (fun x => F1 x + F' x) ∧ Fr G H (fun x => F1 x + F x) G' H' (fun x => F1 x + F' x) ∧ ∀ x, F1 x ≠ 0 → H' x = H x := by
  have key : ∀ x, F1 x ≠ 0 → F x = 0 ∧ F' x = 0 ∧ H x ≠ none ∧ G x = none := fun x h => by
    have h1 := ok.nd x
    have h2 := ok.kn x (show F1 x + F x ≠ 0 by omega)
    have h3 := ok.dj x (show F1 x + F x ≠ 0 by omega)
    refine ⟨by omega, ?_, h2, h3⟩
    by_cases q : F' x = 0
    · exact q
    · rcases a.f x q with r | r
      · omega
      · exact absurd r (ok.novac (show F1 x + F x ≠ 0 by omega))
  have hk : ∀ x, F1 x ≠ 0 → H' x = H x := fun x h => by
    obtain ⟨h1, h2, h3, h4⟩ := key x h
    cases q : H x with
    | none => exact absurd q h3
    | some o => exact a.h x o q h1 (ok.notb (show F1 x + F x ≠ 0 by omega) q)
  refine ⟨⟨ok'.le, fun x => ?_, fun x h => ?_, fun x h => ?_, ok'.tu, fun x ps e => ?_, ok'.tb, ok'.cd⟩, ⟨a.g, fun x o h z n => ?_, fun x h => ?_, fun x h => ?_, a.al⟩, hk⟩
  · by_cases q : F1 x = 0
    · simp only [q, Nat.zero_add]; exact ok'.nd x
    · obtain ⟨h1, h2, h3, h4⟩ := key x q
      have h5 := ok.nd x
      omega
  · skip
    by_cases q : F1 x = 0
    · exact ok'.dj x (by omega)
    · obtain ⟨h1, h2, h3, h4⟩ := key x q
      by_cases z : G' x = none
      · exact z
      · rcases a.gf x z with r | r | r
        · exact absurd h4 r
        · exact absurd h1 r
        · exact absurd r (ok.novac (show F1 x + F x ≠ 0 by omega))
  · skip
    by_cases q : F1 x = 0
    · exact ok'.kn x (by omega)
    · rw [hk x q]; exact (key x q).2.2.1
  · obtain ⟨h1, h2⟩ := ok'.nt x ps e
    refine ⟨?_, h2⟩
    by_cases q : F1 x = 0
    · show F1 x + F' x = 0
      omega
    · rw [hk x q] at e
      have := (ok.nt x ps e).1
      exact absurd (show F1 x = 0 by omega) q
  · exact a.h x o h (by omega) n
  · skip
    by_cases q : F1 x = 0
    · rcases a.f x (by omega) with r | r
      · exact .inl (by omega)
      · exact .inr r
    · exact .inl (by omega)
  · rcases a.gf x h with r | r | r
    · exact .inl r
    · exact .inr (.inl (by omega))
    · exact .inr (.inr r)
def thaw (G : Hp) (H : Hp) (F1 : FP) : Hp := fun a => if F1 a = 0 then G a else H a
theorem thaw_eq {G : Hp} (a : Addr) : thaw G H F1 a = if F1 a = 0 then G a else H a := rfl
theorem thaw_le {G : Hp} (ok : Ok G H (fun x => F1 x + F x)) : ∀ a o, G a = some o → thaw G H F1 a = some o := fun a o h => by
  rw [thaw_eq]
  split
  · exact h
  · exact ok.le a o h
theorem thaw_at {G : Hp} : ∀ a, F1 a ≠ 0 → thaw G H F1 a = H a := fun a h => by
  rw [thaw_eq, if_neg h]
theorem thaw_ok {G : Hp} (ok : Ok G H (fun x => F1 x + F x)) : Ok (thaw G H F1) H F ∧ Fr G H (fun x => F1 x + F x) (thaw G H F1) H F := by
  refine ⟨⟨fun a o h => ?_, fun a => ?_, fun a h => ?_, fun a h => ok.kn a (by omega), fun a xs h => thaw_le ok a _ (ok.tu a xs h), fun a ps e => ?_, fun p hp => ?_, fun a f h => thaw_le ok a _ (ok.cd a f h)⟩, ⟨thaw_le ok, fun _ _ h _ _ => h, fun a h => .inl (by omega), fun a h => ?_, fun _ h => h⟩⟩
  · rw [thaw_eq] at h
    split at h
    · exact ok.le a o h
    · exact h
  · have := ok.nd a; omega
  · have h1 := ok.nd a
    rw [thaw_eq, if_pos (by omega)]
    exact ok.dj a (by omega)
  · obtain ⟨h1, h2⟩ := ok.nt a ps e
    refine ⟨by omega, ?_⟩
    rw [thaw_eq, if_pos (by omega)]
    exact h2
  · obtain ⟨ps, h1, h2⟩ := ok.tb p hp
    exact ⟨ps, h1, h2.mono (thaw_le ok)⟩
  · rw [thaw_eq] at h
    split at h
    · exact .inl h
    · exact .inr (.inl (by omega))
end
end MP
namespace MP
open PySem L2
variable [LamT]
theorem bind_some {α β : Type} {o : Option α} {f : α → Option β} {r : β} (h : o.bind f = some r) : ∃ a, o = some a ∧ f a = some r := by
  cases o with
  | none => cases h
  | some a => exact ⟨a, rfl, h⟩
section
variable {K : PySem.W.Frag} {G G' H H' : Hp} {F F' F1 F2 : FP}
theorem OwnAll.congr : ∀ {xs : List Vl} {vs : List V}, OwnAll K G H xs vs F → (∀ a, F' a = F a) → OwnAll K G H xs vs F'
  | [], _, h, e => by
    simp only [OwnAll] at h ⊢
    exact ⟨h.1, fun a => by rw [e]; exact h.2 a⟩
  | x :: xs, vs, h, e => by
    simp only [OwnAll] at h ⊢
    obtain ⟨v, r, A, B, a, b, c, f⟩ := h
    exact ⟨v, r, A, B, a, b, c, fun x => by rw [e]; exact f x⟩
theorem OwnE.congr : ∀ {ρ : Sl} {σ : St}, OwnE K G H ρ σ F → (∀ a, F' a = F a) → OwnE K G H ρ σ F'
  | [], _, h, e => fun a => by rw [e]; exact h a
  | none :: ρ, σ, h, e => by
    obtain ⟨s, r, q, h⟩ := h
    exact ⟨s, r, q, h.congr e⟩
  | some x :: ρ, σ, h, e => by
    obtain ⟨v, r, A, B, a, b, c, f⟩ := h
    exact ⟨v, r, A, B, a, b, c, fun x => by rw [e]; exact f x⟩
theorem OwnE.take : ∀ {ρ : Sl} {σ : St} {F : FP} {i : Nat} {x : Vl}, OwnE K G H ρ σ F → ρ[i]? = some (some x) →
    ∃ v F1 F2, σ[i]? = some (some v) ∧ Own K G H x v F1 ∧ OwnE K G H (ρ.set i none) σ F2 ∧ ∀ a, F a = F1 a + F2 a
  | [], _, _, i, _, _, e => by simp at e
  | none :: ρ, σ, F, 0, x, _, e => by simp at e
  | some y :: ρ, σ, F, 0, x, h, e => by
    simp at e
    subst e
    obtain ⟨v, r, A, B, rfl, b, c, f⟩ := h
    exact ⟨v, A, B, rfl, b, ⟨some v, r, rfl, c⟩, f⟩
  | none :: ρ, σ, F, i + 1, x, h, e => by
    obtain ⟨s, r, rfl, h⟩ := h
    obtain ⟨v, A, B, h1, h2, h3, f⟩ := h.take (i := i) (x := x) (by simpa using e)
    exact ⟨v, A, B, by simpa using h1, h2, ⟨s, r, rfl, h3⟩, f⟩
  | some y :: ρ, σ, F, i + 1, x, h, e => by
    obtain ⟨w, r, P, Q, rfl, b, c, f⟩ := h
    obtain ⟨v, A, B, h1, h2, h3, g⟩ := c.take (i := i) (x := x) (by simpa using e)
    refine ⟨v, A, fun a => P a + B a, by simpa using h1, h2, ⟨w, r, P, B, rfl, b, h3, fun _ => rfl⟩, fun a => ?_⟩
    show F a = A a + (P a + B a)
    rw [f, g]; omega
theorem OwnE.put : ∀ {ρ : Sl} {σ : St} {F : FP} {i : Nat} {x : Vl} {v : V} {F1 : FP}, OwnE K G H ρ σ F → ρ[i]? = some none → σ[i]? = some (some v) → Own K G H x v F1 →
    OwnE K G H (ρ.set i (some x)) σ (fun a => F1 a + F a)
  | [], _, _, i, _, _, _, _, e, _, _ => by simp at e
  | none :: ρ, σ, F, 0, x, v, F1, h, _, e, o => by
    obtain ⟨s, r, rfl, h⟩ := h
    simp at e
    subst e
    exact ⟨v, r, F1, F, rfl, o, h, fun _ => rfl⟩
  | some y :: ρ, σ, F, 0, x, v, F1, h, e, _, _ => by simp at e
  | none :: ρ, σ, F, i + 1, x, v, F1, h, e, e2, o => by
    obtain ⟨s, r, rfl, h⟩ := h
    exact ⟨s, r, rfl, h.put (i := i) (by simpa using e) (by simpa using e2) o⟩
  | some y :: ρ, σ, F, i + 1, x, v, F1, h, e, e2, o => by
    obtain ⟨w, r, P, Q, rfl, b, c, f⟩ := h
    refine ⟨w, r, P, fun a => F1 a + Q a, rfl, b, c.put (i := i) (by simpa using e) (by simpa using e2) o, fun a => ?_⟩
    show F1 a + F a = P a + (F1 a + Q a)
    rw [f]; omega
theorem OwnE.setS : ∀ {ρ : Sl} {σ : St} {F : FP} {i : Nat} {x : Vl} {v : V} {F1 : FP}, OwnE K G H ρ σ F → i < ρ.length → Own K G H x v F1 →
    ∃ F2 : FP, (∀ a, F2 a ≤ F a) ∧ OwnE K G H (ρ.set i (some x)) (σ.set i (some v)) (fun a => F1 a + F2 a)
  | [], _, _, i, _, _, _, _, e, _ => by simp at e
  | none :: ρ, σ, F, 0, x, v, F1, h, _, o => by
    obtain ⟨s, r, rfl, h⟩ := h
    exact ⟨F, fun _ => Nat.le_refl _, v, r, F1, F, rfl, o, h, fun _ => rfl⟩
  | some y :: ρ, σ, F, 0, x, v, F1, h, e, o => by
    obtain ⟨w, r, P, Q, rfl, b, c, f⟩ := h
    exact ⟨Q, fun a => by rw [f]; omega, v, r, F1, Q, rfl, o, c, fun _ => rfl⟩
  | none :: ρ, σ, F, i + 1, x, v, F1, h, e, o => by
    obtain ⟨s, r, rfl, h⟩ := h
    obtain ⟨F2, l, q⟩ := h.setS (i := i) (by simpa using e) o
    exact ⟨F2, l, s, _, rfl, q⟩
  | some y :: ρ, σ, F, i + 1, x, v, F1, h, e, o => by
    obtain ⟨w, r, P, Q, rfl, b, c, f⟩ := h
    obtain ⟨F2, l, q⟩ := c.setS (i := i) (by simpa using e) o
    refine ⟨fun a => P a + F2 a, fun a => ?_, w, _, P, fun a => F1 a + F2 a, rfl, b, q, fun a => ?_⟩
    · have := l a; rw [f]; show P a + F2 a ≤ _; omega
    · show F1 a + (P a + F2 a) = P a + (F1 a + F2 a); omega
theorem OwnE.drop : ∀ {ρ : Sl} {σ : St} {F : FP} (i : Nat) (s : Option V), OwnE K G H ρ σ F → ∃ F2 : FP, (∀ a, F2 a ≤ F a) ∧ OwnE K G H (ρ.set i none) (σ.set i s) F2
  | [], _, F, i, s, h => ⟨F, fun _ => Nat.le_refl _, h⟩
  | none :: ρ, σ, F, 0, s, h => by
    obtain ⟨q, r, rfl, h⟩ := h
    exact ⟨F, fun _ => Nat.le_refl _, s, r, rfl, h⟩
  | some y :: ρ, σ, F, 0, s, h => by
    obtain ⟨w, r, P, Q, rfl, b, c, f⟩ := h
    exact ⟨Q, fun a => by rw [f]; omega, s, r, rfl, c⟩
  | none :: ρ, σ, F, i + 1, s, h => by
    obtain ⟨q, r, rfl, h⟩ := h
    obtain ⟨F2, l, z⟩ := h.drop i s
    exact ⟨F2, l, q, _, rfl, z⟩
  | some y :: ρ, σ, F, i + 1, s, h => by
    obtain ⟨w, r, P, Q, rfl, b, c, f⟩ := h
    obtain ⟨F2, l, z⟩ := c.drop i s
    refine ⟨fun a => P a + F2 a, fun a => ?_, w, _, P, F2, rfl, b, z, fun _ => rfl⟩
    have := l a; rw [f]; show P a + F2 a ≤ _; omega
theorem Ok.sub {G : Hp} (h : Ok G H F) (l : ∀ a, F' a ≤ F a) : Ok G H F' :=
  ⟨h.le, fun a => Nat.le_trans (l a) (h.nd a), fun a q => h.dj a (by have := l a; omega), fun a q => h.kn a (by have := l a; omega), h.tu, fun a ps q => by have := l a; have := h.nt a ps q; exact ⟨by omega, this.2⟩, h.tb, h.cd⟩
theorem Fr.sub {G G' : Hp} (h : Fr G H F G' H' F1) (l : ∀ a, F2 a ≤ F1 a) : Fr G H F G' H' F2 :=
  ⟨h.g, h.h, fun a q => h.f a (by have := l a; omega), h.gf, h.al⟩
theorem Own.fzF {d : PyData} {v : V} (h : Own K G H (.fz d) v F) : Dt K G d v := by simp only [Own] at h; exact h.1
theorem Own.fz0 {d : PyData} {v : V} (h : Own K G H (.fz d) v F) : ∀ a, F a = 0 := by simp only [Own] at h; exact h.2
theorem Own.ofD {d : PyData} {v : V} (h : Dt K G d v) : Own K G H (.fz d) v (fun _ => 0) := by simp only [Own]; exact ⟨h, fun _ => trivial⟩
end
abbrev M := Sl → Option (Vl × Sl)
def Sim (K : PySem.W.Frag) (t : TE) (f : M) : Prop :=
  ∀ (σ : St) (ρ : Sl) (F : FP) (G : Hp) (H : Hp), OwnE K G H ρ σ F → Ok G H F → ∀ x ρ', f ρ = some (x, ρ') → ∀ Q : VK,
    (∀ v Fx F' (G' : Hp) H', Own K G' H' x v Fx → OwnE K G' H' ρ' σ F' → Ok G' H' (fun a => Fx a + F' a) → Fr G H F G' H' (fun a => Fx a + F' a) → Q v H') → t σ H Q
inductive Ag where
  | tm (x : Vl)
  | rf (i : Nat)
  | nf (i c k : Nat) (v : V)
def AgOk (K : PySem.W.Frag) (G H : Hp) (σ : St) : List Ag → List V → FP → Prop
  | [], vs, F => vs = [] ∧ ∀ a, F a = 0
  | .tm x :: us, vs, F => ∃ v r F1 F2, vs = v :: r ∧ Own K G H x v F1 ∧ AgOk K G H σ us r F2 ∧ ∀ a, F a = F1 a + F2 a
  | .rf i :: us, vs, F => ∃ v r, vs = v :: r ∧ σ[i]? = some (some v) ∧ AgOk K G H σ us r F
  | .nf _ _ _ v0 :: us, vs, F => ∃ v r, vs = v :: r ∧ v = v0 ∧ AgOk K G H σ us r F
abbrev MA := Sl → Option (List Ag × Sl)
def SimA (K : PySem.W.Frag) (t : TA) (f : MA) : Prop :=
  ∀ (σ : St) (ρ : Sl) (F : FP) (G : Hp) (H : Hp), OwnE K G H ρ σ F → Ok G H F → ∀ us ρ', f ρ = some (us, ρ') → ∀ Q : List V → Hp → Prop,
    (∀ vs Fa F' (G' : Hp) H', AgOk K G' H' σ us vs Fa → OwnE K G' H' ρ' σ F' → Ok G' H' (fun a => Fa a + F' a) → Fr G H F G' H' (fun a => Fa a + F' a) → Q vs H') → t σ H Q
theorem AgOk.mono {K : PySem.W.Frag} {G G' H H' : Hp} {σ : St} (g : ∀ a o, G a = some o → G' a = some o) : ∀ (us : List Ag) (vs : List V) (F : FP), AgOk K G H σ us vs F → (∀ a, F a ≠ 0 → H' a = H a) → AgOk K G' H' σ us vs F
  | [], _, _, h, _ => h
  | .tm x :: us, vs, F, h, k => by
    obtain ⟨v, r, F1, F2, e, h1, h2, f⟩ := h
    exact ⟨v, r, F1, F2, e, Own.mono g x v F1 h1 fun a ha => k a (by rw [f]; omega), AgOk.mono g us r F2 h2 fun a ha => k a (by rw [f]; omega), f⟩
  | .rf i :: us, vs, F, h, k => by
    obtain ⟨v, r, e, h1, h2⟩ := h
    exact ⟨v, r, e, h1, AgOk.mono g us r F h2 k⟩
  | .nf _ _ _ v0 :: us, vs, F, h, k => by
    obtain ⟨v, r, e, h1, h2⟩ := h
    exact ⟨v, r, e, h1, AgOk.mono g us r F h2 k⟩
@[simp] def aNil : MA := fun ρ => some ([], ρ)
@[simp] def aEx (f : M) (r : MA) : MA := fun ρ => (f ρ).bind fun p => (r p.2).bind fun q => some (.tm p.1 :: q.1, q.2)
@[simp] def aNm (i : Nat) (r : MA) : MA := fun ρ => match ρ[i]? with
  | some (some (.fz d)) => (r ρ).bind fun q => some (.tm (.fz d) :: q.1, q.2)
  | some (some _) => (r ρ).bind fun q => some (.rf i :: q.1, q.2)
  | _ => none
section
variable {K : PySem.W.Frag}
theorem sa_nil : SimA K tNil aNil := by
  intro σ ρ F G H hE ok us ρ' e Q k
  simp only [aNil, Option.some.injEq, Prod.mk.injEq] at e
  obtain ⟨rfl, rfl⟩ := e
  exact k [] (fun _ => 0) F G H ⟨rfl, fun _ => rfl⟩ hE (ok.congr fun a => by simp) ((Fr.refl ok).congr (fun _ => rfl) fun a => by simp)
theorem sa_ex {t : TE} {ta : TA} {f : M} {r : MA} (h : Sim K t f) (hr : SimA K ta r) : SimA K (tCons t ta) (aEx f r) := by
  intro σ ρ F G H hE ok us ρ' e Q k
  obtain ⟨⟨x, ρ1⟩, e1, e⟩ := bind_some e
  obtain ⟨⟨us1, ρ2⟩, e2, e⟩ := bind_some e
  simp only [Option.some.injEq, Prod.mk.injEq] at e
  obtain ⟨rfl, rfl⟩ := e
  refine h σ ρ F G H hE ok x ρ1 e1 _ fun v Fx F1 G1 H1 o1 E1 ok1 fr1 => ?_
  refine hr σ ρ1 F1 G1 H1 E1 (ok1.sub fun a => by omega) us1 _ e2 _ fun vs Fa F2 G2 H2 o2 E2 ok2 fr2 => ?_
  obtain ⟨ok3, fr3, st⟩ := fr2.side (F1 := Fx) ok1 ok2
  refine k (v :: vs) (fun a => Fx a + Fa a) F2 G2 H2 ⟨v, vs, Fx, Fa, rfl, Own.mono fr2.g x v Fx o1 st, o2, fun _ => rfl⟩ E2 (ok3.congr fun a => by omega) ((fr1.trans fr3).congr (fun _ => rfl) fun a => by omega)
theorem sa_nm {i : Nat} {ta : TA} {r : MA} (hr : SimA K ta r) : SimA K (tCons (tVar i) ta) (aNm i r) := by
  intro σ ρ F G H hE ok us ρ' e Q k
  unfold aNm at e
  have key : ∀ x, ρ[i]? = some (some x) → ∃ v, σ[i]? = some (some v) ∧ ((∃ d, x = .fz d) → Own K G H x v fun _ => 0) := fun x q => by
    obtain ⟨v, A, B, h1, h2, _, _⟩ := hE.take q
    refine ⟨v, h1, fun ⟨d, e⟩ => ?_⟩
    subst e
    exact Own.ofD h2.fzF
  cases q : ρ[i]? with
  | none => rw [q] at e; cases e
  | some o =>
    cases o with
    | none => rw [q] at e; cases e
    | some x =>
      obtain ⟨v, hv, ho⟩ := key x q
      cases x with
      | fz d =>
        rw [q] at e
        obtain ⟨⟨us1, ρ2⟩, e2, e⟩ := bind_some e
        simp only [Option.some.injEq, Prod.mk.injEq] at e
        obtain ⟨rfl, rfl⟩ := e
        have o1 := ho ⟨d, rfl⟩
        refine ⟨v, hv, ?_⟩
        refine hr σ ρ F G H hE ok us1 _ e2 _ fun vs Fa F2 G2 H2 o2 E2 ok2 fr2 => ?_
        refine k (v :: vs) Fa F2 G2 H2 ⟨v, vs, fun _ => 0, Fa, rfl, Own.mono fr2.g _ v _ o1 fun a ha => absurd rfl ha, o2, fun a => by show Fa a = 0 + Fa a; omega⟩ E2 ok2 fr2
      | ls xs =>
        rw [q] at e
        obtain ⟨⟨us1, ρ2⟩, e2, e⟩ := bind_some e
        simp only [Option.some.injEq, Prod.mk.injEq] at e
        obtain ⟨rfl, rfl⟩ := e
        refine ⟨v, hv, ?_⟩
        exact hr σ ρ F G H hE ok us1 _ e2 _ fun vs Fa F2 G2 H2 o2 E2 ok2 fr2 => k (v :: vs) Fa F2 G2 H2 ⟨v, vs, rfl, hv, o2⟩ E2 ok2 fr2
      | ob c fs =>
        rw [q] at e
        obtain ⟨⟨us1, ρ2⟩, e2, e⟩ := bind_some e
        simp only [Option.some.injEq, Prod.mk.injEq] at e
        obtain ⟨rfl, rfl⟩ := e
        refine ⟨v, hv, ?_⟩
        exact hr σ ρ F G H hE ok us1 _ e2 _ fun vs Fa F2 G2 H2 o2 E2 ok2 fr2 => k (v :: vs) Fa F2 G2 H2 ⟨v, vs, rfl, hv, o2⟩ E2 ok2 fr2
      | lk v0 fs =>
        rw [q] at e
        obtain ⟨⟨us1, ρ2⟩, e2, e⟩ := bind_some e
        simp only [Option.some.injEq, Prod.mk.injEq] at e
        obtain ⟨rfl, rfl⟩ := e
        refine ⟨v, hv, ?_⟩
        exact hr σ ρ F G H hE ok us1 _ e2 _ fun vs Fa F2 G2 H2 o2 E2 ok2 fr2 => k (v :: vs) Fa F2 G2 H2 ⟨v, vs, rfl, hv, o2⟩ E2 ok2 fr2
      | hl v0 =>
        rw [q] at e
        obtain ⟨⟨us1, ρ2⟩, e2, e⟩ := bind_some e
        simp only [Option.some.injEq, Prod.mk.injEq] at e
        obtain ⟨rfl, rfl⟩ := e
        refine ⟨v, hv, ?_⟩
        exact hr σ ρ F G H hE ok us1 _ e2 _ fun vs Fa F2 G2 H2 o2 E2 ok2 fr2 => k (v :: vs) Fa F2 G2 H2 ⟨v, vs, rfl, hv, o2⟩ E2 ok2 fr2
      | sc ns =>
        rw [q] at e
        obtain ⟨⟨us1, ρ2⟩, e2, e⟩ := bind_some e
        simp only [Option.some.injEq, Prod.mk.injEq] at e
        obtain ⟨rfl, rfl⟩ := e
        refine ⟨v, hv, ?_⟩
        exact hr σ ρ F G H hE ok us1 _ e2 _ fun vs Fa F2 G2 H2 o2 E2 ok2 fr2 => k (v :: vs) Fa F2 G2 H2 ⟨v, vs, rfl, hv, o2⟩ E2 ok2 fr2
      | dt kvs =>
        rw [q] at e
        obtain ⟨⟨us1, ρ2⟩, e2, e⟩ := bind_some e
        simp only [Option.some.injEq, Prod.mk.injEq] at e
        obtain ⟨rfl, rfl⟩ := e
        refine ⟨v, hv, ?_⟩
        exact hr σ ρ F G H hE ok us1 _ e2 _ fun vs Fa F2 G2 H2 o2 E2 ok2 fr2 => k (v :: vs) Fa F2 G2 H2 ⟨v, vs, rfl, hv, o2⟩ E2 ok2 fr2
end
@[simp] def fldOf (ρ : Sl) (i c k : Nat) : Option Vl := match ρ[i]? with
  | some (some (.ob c' xs)) => if c' = c then xs[k]? else none
  | _ => none
@[simp] def setFld (ρ : Sl) (i k : Nat) (y : Vl) : Sl := match ρ[i]? with
  | some (some (.ob c' xs)) => ρ.set i (some (.ob c' (xs.set k y)))
  | _ => ρ
section
variable {K : PySem.W.Frag} {G H : Hp}
theorem OwnAll.focus : ∀ {xs : List Vl} {vs : List V} {F : FP} {k : Nat} {x : Vl}, OwnAll K G H xs vs F → xs[k]? = some x → ∃ (w : V) (F1 F2 : FP), vs[k]? = some w ∧ Own K G H x w F1 ∧ (∀ a, F a = F1 a + F2 a) ∧
    ∀ (G' H' : Hp) (y : Vl) (F1' : FP), (∀ a o, G a = some o → G' a = some o) → (∀ a, F2 a ≠ 0 → H' a = H a) → Own K G' H' y w F1' → OwnAll K G' H' (xs.set k y) vs (fun a => F1' a + F2 a)
  | [], _, _, k, x, _, e => by simp at e
  | z :: xs, vs, F, 0, x, h, e => by
    simp only [List.getElem?_cons_zero, Option.some.injEq] at e
    subst e
    simp only [OwnAll] at h
    obtain ⟨v, r, A, B, rfl, h1, h2, f⟩ := h
    refine ⟨v, A, B, rfl, h1, f, fun G' H' y F1' g k o => ?_⟩
    simp only [List.set_cons_zero, OwnAll]
    exact ⟨v, r, F1', B, rfl, o, OwnAll.mono g _ _ _ h2 k, fun _ => rfl⟩
  | z :: xs, vs, F, k + 1, x, h, e => by
    simp only [List.getElem?_cons_succ] at e
    simp only [OwnAll] at h
    obtain ⟨v, r, A, B, rfl, h1, h2, f⟩ := h
    obtain ⟨w, F1, F2, a1, a2, a3, a4⟩ := h2.focus e
    refine ⟨w, F1, fun a => A a + F2 a, by simpa using a1, a2, fun a => by have := f a; have := a3 a; show F a = F1 a + (A a + F2 a); omega, fun G' H' y F1' g k' o => ?_⟩
    simp only [List.set_cons_succ, OwnAll]
    exact ⟨v, r, A, fun a => F1' a + F2 a, rfl, Own.mono g _ _ _ h1 fun a ha => k' a (show A a + F2 a ≠ 0 by omega), a4 G' H' y F1' g (fun a ha => k' a (show A a + F2 a ≠ 0 by omega)) o, fun a => by show F1' a + (A a + F2 a) = A a + (F1' a + F2 a); omega⟩
theorem zip_lookup : ∀ {ns : List Str} {vs : List V} {k : Nat} {f : Str} {w : V}, ns.Nodup → ns[k]? = some f → vs[k]? = some w → (ns.zip vs).lookup f = some w
  | [], _, _, _, _, _, e, _ => by simp at e
  | n :: ns, [], _, _, _, _, _, e => by simp at e
  | n :: ns, v :: vs, 0, f, w, hd, e1, e2 => by
    simp only [List.getElem?_cons_zero, Option.some.injEq] at e1 e2
    subst e1 e2
    simp [List.lookup]
  | n :: ns, v :: vs, k + 1, f, w, hd, e1, e2 => by
    simp only [List.getElem?_cons_succ] at e1 e2
    have hn : n ≠ f := fun z => by
      subst z
      exact (List.nodup_cons.mp hd).1 (List.mem_of_getElem? e1)
    have hb : (f == n) = false := by
      cases q : f == n with
      | false => rfl
      | true => exact absurd (eq_of_beq q).symm hn
    simp only [List.zip_cons_cons, List.lookup, hb]
    exact zip_lookup (List.nodup_cons.mp hd).2 e1 e2
theorem OwnE.fld {ρ : Sl} {σ : St} {F : FP} {i c k : Nat} {x : Vl} (h : OwnE K G H ρ σ F) (e : fldOf ρ i c k = some x) : ∃ (p dx : Addr) (fs : List (Str × V)) (w : V) (F1 F2 : FP), σ[i]? = some (some (.ref p)) ∧ H p = some (.ins (He.ga K (clsName c)) dx fs) ∧ (∀ f, (clsFlds c).Nodup → (clsFlds c)[k]? = some f → fs.lookup f = some w) ∧
    Own K G H x w F1 ∧ (∀ a, F a = F1 a + F2 a) ∧ ∀ (G' H' : Hp) (y : Vl) (F1' : FP), (∀ a o, G a = some o → G' a = some o) → (∀ a, F2 a ≠ 0 → H' a = H a) → Own K G' H' y w F1' → OwnE K G' H' (setFld ρ i k y) σ (fun a => F1' a + F2 a) := by
  have e0 := e
  unfold fldOf at e
  split at e
  · rename_i c' xs q
    split at e
    · rename_i hc
      clear e0
      subst hc
      obtain ⟨v, A, B, h1, h2, h3, f⟩ := h.take q
      simp only [Own] at h2
      obtain ⟨p, dx, vs, F', rfl, hp, hl, hx, fA⟩ := h2
      obtain ⟨w, F1, F3, a1, a2, a3, a4⟩ := hx.focus e
      refine ⟨p, dx, _, w, F1, fun a => one p a + F3 a + B a, h1, hp, fun f hn hf => zip_lookup hn hf a1, a2, fun a => ?_, fun G' H' y F1' g kk o => ?_⟩
      · have := f a; have := fA a; have := a3 a
        show F a = F1 a + (one p a + F3 a + B a)
        omega
      · have hx' := a4 G' H' y F1' g (fun a ha => kk a (show one p a + F3 a + B a ≠ 0 by omega)) o
        have ho : Own K G' H' (.ob c' (xs.set k y)) (.ref p) (fun a => one p a + (F1' a + F3 a)) := by
          simp only [Own]
          refine ⟨p, dx, vs, _, rfl, ?_, hl, hx', fun _ => rfl⟩
          rw [kk p (show one p p + F3 p + B p ≠ 0 by rw [one_self]; omega)]
          exact hp
        have hE := OwnE.put (OwnE.mono g _ _ _ h3 fun a ha => kk a (show one p a + F3 a + B a ≠ 0 by omega)) (by
          have := (List.getElem?_eq_some_iff.mp q).1
          rw [List.getElem?_set_self this]) h1 ho
        rw [List.set_set] at hE
        have es : setFld ρ i k y = ρ.set i (some (.ob c' (xs.set k y))) := by
          unfold setFld
          rw [q]
        rw [es]
        exact hE.congr fun a => by show F1' a + (one p a + F3 a + B a) = one p a + (F1' a + F3 a) + B a; omega
    · cases e
  · cases e
end
@[simp] def relock (v : V) : Vl → Vl
  | .ls xs => .lk v xs
  | y => y
theorem relock_ok {K : PySem.W.Frag} {G H : Hp} {y : Vl} {v : V} {F : FP} (h : Own K G H y v F) : Own K G H (relock v y) v F := by
  cases y with
  | ls xs =>
    simp only [relock, Own] at h ⊢
    exact ⟨trivial, h⟩
  | fz d => exact h
  | ob c xs => exact h
  | lk v0 xs => exact h
  | hl v0 => exact h
  | sc ns => exact h
  | dt kvs => exact h
open Classical in
@[simp] noncomputable def takeA : List Ag → Sl → Option (List Vl × Sl)
  | [], ρ => some ([], ρ)
  | .tm x :: us, ρ => (takeA us ρ).bind fun q => some (x :: q.1, q.2)
  | .rf i :: us, ρ => match ρ[i]? with
    | some (some x) => (takeA us (ρ.set i none)).bind fun q => some (x :: q.1, q.2)
    | _ => none
  | .nf i c k v0 :: us, ρ => match fldOf ρ i c k with
    | some (.lk v ys) => if v = v0 then (takeA us (setFld ρ i k (.hl v0))).bind fun q => some (.ls ys :: q.1, q.2) else none
    | _ => none
open Classical in
@[simp] noncomputable def putA : List Ag → List Vl → Sl → Option Sl
  | [], [], ρ => some ρ
  | .tm _ :: us, _ :: ys, ρ => putA us ys ρ
  | .rf i :: us, y :: ys, ρ => (putA us ys ρ).bind fun ρ' => match ρ'[i]? with
    | some none => some (ρ'.set i (some y))
    | _ => none
  | .nf i c k v0 :: us, y :: ys, ρ => (putA us ys ρ).bind fun ρ' => match fldOf ρ' i c k with
    | some (.hl v) => if v = v0 then some (setFld ρ' i k (relock v0 y)) else none
    | _ => none
  | _, _, _ => none
def AgV (σ : St) : Ag → V → Prop
  | .tm _, _ => True
  | .rf i, v => σ[i]? = some (some v)
  | .nf _ _ _ v0, v => v = v0
section
variable {K : PySem.W.Frag} {G H : Hp} {σ : St}
theorem take_ok : ∀ {us : List Ag} {vs : List V} {Fa F : FP} {ρ ρ' : Sl} {xs : List Vl}, AgOk K G H σ us vs Fa → OwnE K G H ρ σ F → takeA us ρ = some (xs, ρ') →
    ∃ Fx F' : FP, OwnAll K G H xs vs Fx ∧ OwnE K G H ρ' σ F' ∧ (∀ a, Fa a + F a = Fx a + F' a) ∧ (∀ (j : Nat) a, us[j]? = some a → ∃ v, vs[j]? = some v ∧ AgV σ a v)
  | [], vs, Fa, F, ρ, ρ', xs, h, hE, e => by
    simp only [takeA, Option.some.injEq, Prod.mk.injEq] at e
    obtain ⟨rfl, rfl⟩ := e
    obtain ⟨rfl, f⟩ := h
    refine ⟨Fa, F, ?_, hE, fun _ => rfl, fun j a q => by simp at q⟩
    simp only [OwnAll]
    exact ⟨trivial, f⟩
  | .tm x :: us, vs, Fa, F, ρ, ρ', xs, h, hE, e => by
    obtain ⟨v, r, F1, F2, rfl, h1, h2, f⟩ := h
    obtain ⟨⟨xs1, ρ2⟩, e2, e⟩ := bind_some e
    simp only [Option.some.injEq, Prod.mk.injEq] at e
    obtain ⟨rfl, rfl⟩ := e
    obtain ⟨Fx, F', a1, a2, a3, a4⟩ := take_ok h2 hE e2
    refine ⟨fun a => F1 a + Fx a, F', ?_, a2, fun a => ?_, fun j u q => ?_⟩
    · simp only [OwnAll]
      exact ⟨v, r, F1, Fx, rfl, h1, a1, fun _ => rfl⟩
    · have := a3 a; rw [f]; show _ = F1 a + Fx a + F' a; omega
    · cases j with
      | zero =>
        simp only [List.getElem?_cons_zero, Option.some.injEq] at q
        subst q
        exact ⟨v, rfl, trivial⟩
      | succ j => exact a4 j u (by simpa using q)
  | .rf i :: us, vs, Fa, F, ρ, ρ', xs, h, hE, e => by
    obtain ⟨v, r, rfl, h1, h2⟩ := h
    unfold takeA at e
    cases q : ρ[i]? with
    | none => rw [q] at e; cases e
    | some o =>
      cases o with
      | none => rw [q] at e; cases e
      | some x =>
        rw [q] at e
        obtain ⟨⟨xs1, ρ2⟩, e2, e⟩ := bind_some e
        simp only [Option.some.injEq, Prod.mk.injEq] at e
        obtain ⟨rfl, rfl⟩ := e
        obtain ⟨v', A, B, b1, b2, b3, b4⟩ := hE.take q
        rw [h1] at b1
        have ev : v = v' := by simpa using b1
        subst ev
        obtain ⟨Fx, F', a1, a2, a3, a4⟩ := take_ok h2 b3 e2
        refine ⟨fun a => A a + Fx a, F', ?_, a2, fun a => ?_, fun j i' q' => ?_⟩
        · simp only [OwnAll]
          exact ⟨v, r, A, Fx, rfl, b2, a1, fun _ => rfl⟩
        · have := a3 a; have := b4 a; show _ = A a + Fx a + F' a; omega
        · cases j with
          | zero =>
            simp only [List.getElem?_cons_zero, Option.some.injEq] at q'
            subst q'
            exact ⟨v, rfl, h1⟩
          | succ j => exact a4 j i' (by simpa using q')
  | .nf i c k v0 :: us, vs, Fa, F, ρ, ρ', xs, h, hE, e => by
    obtain ⟨v, r, rfl, rfl, h2⟩ := h
    unfold takeA at e
    split at e
    · rename_i v' ys q
      split at e
      · rename_i hv
        subst hv
        obtain ⟨⟨xs1, ρ2⟩, e2, e⟩ := bind_some e
        simp only [Option.some.injEq, Prod.mk.injEq] at e
        obtain ⟨rfl, rfl⟩ := e
        obtain ⟨p, dx, fs, w, F1, F2, b1, b2, b3, b4, b5, b6⟩ := hE.fld q
        simp only [Own] at b4
        obtain ⟨rfl, b4⟩ := b4
        have hl : Own K G H (.hl w) w (fun _ => 0) := by
          simp only [Own]
          exact ⟨trivial, fun _ => trivial⟩
        have hE2 := b6 G H (.hl w) (fun _ => 0) (fun _ _ z => z) (fun _ _ => rfl) hl
        obtain ⟨Fx, F', a1, a2, a3, a4⟩ := take_ok h2 hE2 e2
        refine ⟨fun a => F1 a + Fx a, F', ?_, a2, fun a => ?_, fun j u q' => ?_⟩
        · simp only [OwnAll]
          refine ⟨w, r, F1, Fx, rfl, ?_, a1, fun _ => rfl⟩
          simp only [Own]
          exact b4
        · have t1 := a3 a
          have t2 := b5 a
          simp only [Nat.zero_add] at t1
          show _ = F1 a + Fx a + F' a
          omega
        · cases j with
          | zero =>
            simp only [List.getElem?_cons_zero, Option.some.injEq] at q'
            subst q'
            exact ⟨w, rfl, rfl⟩
          | succ j => exact a4 j u (by simpa using q')
      · cases e
    · cases e
theorem put_ok : ∀ {us : List Ag} {vs : List V} {ys : List Vl} {Fy F : FP} {ρ ρ' : Sl}, OwnAll K G H ys vs Fy → OwnE K G H ρ σ F → putA us ys ρ = some ρ' →
    (∀ (j : Nat) a, us[j]? = some a → ∃ v, vs[j]? = some v ∧ AgV σ a v) → ∃ F' : FP, OwnE K G H ρ' σ F' ∧ ∀ a, F' a ≤ Fy a + F a
  | [], vs, [], Fy, F, ρ, ρ', h, hE, e, k => by
    simp only [putA, Option.some.injEq] at e
    subst e
    exact ⟨F, hE, fun a => by omega⟩
  | [], vs, _ :: _, _, _, _, _, _, _, e, _ => by simp [putA] at e
  | .tm x :: us, vs, [], Fy, F, ρ, ρ', h, hE, e, k => by simp [putA] at e
  | .tm x :: us, vs, y :: ys, Fy, F, ρ, ρ', h, hE, e, k => by
    simp only [OwnAll] at h
    obtain ⟨v, r, F1, F2, rfl, h1, h2, f⟩ := h
    obtain ⟨F', a1, a2⟩ := put_ok (us := us) h2 hE e fun j u q => by
      obtain ⟨v', q1, q2⟩ := k (j + 1) u (by simpa using q)
      exact ⟨v', by simpa using q1, q2⟩
    exact ⟨F', a1, fun a => by have := a2 a; rw [f]; omega⟩
  | .rf i :: us, vs, [], Fy, F, ρ, ρ', h, hE, e, k => by simp [putA] at e
  | .rf i :: us, vs, y :: ys, Fy, F, ρ, ρ', h, hE, e, k => by
    simp only [OwnAll] at h
    obtain ⟨v, r, F1, F2, rfl, h1, h2, f⟩ := h
    unfold putA at e
    obtain ⟨ρ1, e1, e⟩ := bind_some e
    obtain ⟨F', a1, a2⟩ := put_ok (us := us) h2 hE e1 fun j u q => by
      obtain ⟨v', q1, q2⟩ := k (j + 1) u (by simpa using q)
      exact ⟨v', by simpa using q1, q2⟩
    obtain ⟨v', q1, q2⟩ := k 0 (.rf i) rfl
    simp at q1
    subst q1
    cases q : ρ1[i]? with
    | none => rw [q] at e; cases e
    | some o =>
      cases o with
      | some z => rw [q] at e; cases e
      | none =>
        rw [q] at e
        simp only [Option.some.injEq] at e
        subst e
        refine ⟨_, a1.put q q2 h1, fun a => ?_⟩
        have := a2 a; rw [f]; show F1 a + F' a ≤ _; omega
  | .nf i c k0 v0 :: us, vs, [], Fy, F, ρ, ρ', h, hE, e, k => by simp [putA] at e
  | .nf i c k0 v0 :: us, vs, y :: ys, Fy, F, ρ, ρ', h, hE, e, k => by
    simp only [OwnAll] at h
    obtain ⟨v, r, F1, F2, rfl, h1, h2, f⟩ := h
    unfold putA at e
    obtain ⟨ρ1, e1, e⟩ := bind_some e
    obtain ⟨F', a1, a2⟩ := put_ok (us := us) h2 hE e1 fun j u q => by
      obtain ⟨v', q1, q2⟩ := k (j + 1) u (by simpa using q)
      exact ⟨v', by simpa using q1, q2⟩
    obtain ⟨v', q1, q2⟩ := k 0 (.nf i c k0 v0) rfl
    simp only [List.getElem?_cons_zero, Option.some.injEq] at q1
    subst q1
    obtain rfl : v = v0 := q2
    split at e
    · rename_i v1 q
      split at e
      · rename_i hv
        subst hv
        simp only [Option.some.injEq] at e
        subst e
        obtain ⟨p, dx, fs, w, A, B, b1, b2, b3, b4, b5, b6⟩ := a1.fld q
        simp only [Own] at b4
        obtain ⟨rfl, b4⟩ := b4
        refine ⟨_, b6 G H _ F1 (fun _ _ z => z) (fun _ _ => rfl) (relock_ok h1), fun a => ?_⟩
        have := a2 a; have := b5 a; have := b4 a; rw [f]; show F1 a + B a ≤ _; omega
      · cases e
    · cases e
end
abbrev Φ := List Vl → Option (Vl × List Vl)
abbrev RN := List V → Hp → VK → Prop
def OpSem (K : PySem.W.Frag) (r : RN) (φ : Φ) : Prop :=
  ∀ (vs : List V) (xs : List Vl) (F : FP) (G : Hp) (H : Hp), OwnAll K G H xs vs F → Ok G H F → ∀ x ys, φ xs = some (x, ys) → ∀ Q : VK,
    (∀ v Fx F' (G' : Hp) H', Own K G' H' x v Fx → OwnAll K G' H' ys vs F' → Ok G' H' (fun a => Fx a + F' a) → Fr G H F G' H' (fun a => Fx a + F' a) → Q v H') → r vs H Q
@[simp] noncomputable def mOp (φ : Φ) (as : MA) : M := fun ρ => (as ρ).bind fun p => (takeA p.1 p.2).bind fun q => (φ q.1).bind fun z => (putA p.1 z.2 q.2).bind fun ρ' => some (z.1, ρ')
def tN (r : RN) (ta : TA) : TE := fun σ H Q => ta σ H fun vs H1 => r vs H1 Q
theorem sim_op {K : PySem.W.Frag} {r : RN} {φ : Φ} {ta : TA} {as : MA} (ho : OpSem K r φ) (ha : SimA K ta as) : Sim K (tN r ta) (mOp φ as) := by
  intro σ ρ F G H hE ok x ρ' e Q k
  obtain ⟨⟨us, ρ1⟩, e1, e⟩ := bind_some e
  obtain ⟨⟨xs, ρ2⟩, e2, e⟩ := bind_some e
  obtain ⟨⟨x', ys⟩, e3, e⟩ := bind_some e
  obtain ⟨ρ3, e4, e⟩ := bind_some e
  simp only [Option.some.injEq, Prod.mk.injEq] at e
  obtain ⟨rfl, rfl⟩ := e
  refine ha σ ρ F G H hE ok us ρ1 e1 _ fun vs Fa F1 G1 H1 o1 E1 ok1 fr1 => ?_
  obtain ⟨Fx, F2, a1, a2, a3, a4⟩ := take_ok o1 E1 e2
  have ok2 : Ok G1 H1 (fun a => F2 a + Fx a) := ok1.congr fun a => by have := a3 a; show F2 a + Fx a = Fa a + F1 a; omega
  refine ho vs xs Fx G1 H1 a1 (ok2.sub fun a => by omega) x' ys e3 _ fun v Fv F3 G3 H3 b1 b2 b3 b4 => ?_
  obtain ⟨ok4, fr4, st⟩ := b4.side (F1 := F2) ok2 b3
  obtain ⟨F5, c1, c2⟩ := put_ok b2 (OwnE.mono b4.g ρ2 σ F2 a2 st) e4 a4
  have l : ∀ a, Fv a + F5 a ≤ F2 a + (Fv a + F3 a) := fun a => by have := c2 a; omega
  refine k v Fv F5 G3 H3 b1 c1 (ok4.sub l) ((fr1.trans (fr4.congr (fun a => ?_) fun _ => rfl)).sub l)
  have := a3 a; show Fa a + F1 a = F2 a + Fx a; omega
end MP
namespace MP
open PySem L2
variable [LamT]
section
variable (K : PySem.W.Frag)
def ShD (G H : Hp) : PyData → V → Prop
  | .list ds, v => ∃ p ws, v = .ref p ∧ Rd H p (.lst ws) ∧ DtAll K G ds ws
  | d, v => Dt K G d v
def ShAll (G H : Hp) : List PyData → List V → Prop
  | [], vs => vs = []
  | d :: ds, vs => ∃ v r, vs = v :: r ∧ ShD K G H d v ∧ ShAll G H ds r
end
@[simp] def shal : Vl → Vl
  | .ls xs => match eraseAll xs with
    | some ds => .ls (ds.map .fz)
    | none => .ls xs
  | x => x
section
variable {K : PySem.W.Frag} {G H : Hp}
theorem ownAll_fz : ∀ {ds : List PyData} {vs : List V}, DtAll K G ds vs → OwnAll K G H (ds.map .fz) vs (fun _ => 0)
  | [], vs, h => by
    simp only [DtAll] at h
    simp only [List.map_nil, OwnAll]
    exact ⟨h, fun _ => trivial⟩
  | d :: ds, vs, h => by
    simp only [DtAll] at h
    obtain ⟨v, r, rfl, h1, h2⟩ := h
    simp only [List.map_cons, OwnAll]
    exact ⟨v, r, fun _ => 0, fun _ => 0, rfl, Own.ofD h1, ownAll_fz h2, fun _ => by simp⟩
theorem shal_ok : ∀ {x : Vl} {v : V} {F : FP} {d : PyData}, Own K G H x v F → erase x = some d → ∃ FR FI : FP, (∀ a, F a = FR a + FI a) ∧
    ∀ G1 : Hp, (∀ a o, G a = some o → G1 a = some o) → (∀ a o, G1 a = some o → H a = some o) → (∀ a, FI a ≠ 0 → G1 a = H a) → Own K G1 H (shal x) v FR ∧ ShD K G1 H d v
  | .fz d, v, F, d', h, e => by
    simp only [erase, Option.some.injEq] at e
    subst e
    refine ⟨F, fun _ => 0, fun a => by simp, fun G1 g gl _ => ⟨Own.mono g _ v F h fun _ _ => rfl, ?_⟩⟩
    have h1 := Dt.mono g d v h.fzF
    cases d with
    | list ds =>
      simp only [Dt] at h1
      obtain ⟨p, ws, e, q, r⟩ := h1
      exact ⟨p, ws, e, rd_mono gl q, r⟩
    | none => exact h1
    | bool _ => exact h1
    | int _ => exact h1
    | str _ => exact h1
    | tuple _ => exact h1
    | dict _ => exact h1
  | .ls xs, v, F, d', h, e => by
    simp only [erase] at e
    cases q : eraseAll xs with
    | none => rw [q] at e; cases e
    | some ds =>
      rw [q] at e
      simp only [Option.map_some, Option.some.injEq] at e
      subst e
      simp only [Own] at h
      obtain ⟨p, vs, F', rfl, hp, r, f⟩ := h
      refine ⟨one p, F', f, fun G1 g gl k => ?_⟩
      have hd := OwnAll.frz g xs vs F' ds r q k
      refine ⟨?_, p, vs, rfl, .inl hp, hd⟩
      simp only [shal, q, Own]
      exact ⟨p, vs, fun _ => 0, rfl, hp, ownAll_fz hd, fun a => by simp⟩
  | .ob _ _, _, _, _, _, e => by simp [erase] at e
  | .lk _ _, _, _, _, _, e => by simp [erase] at e
  | .hl _, _, _, _, _, e => by simp [erase] at e
  | .dt _, _, _, _, _, e => by simp [erase] at e
  | .sc _, _, _, _, _, e => by simp [erase] at e
theorem shalAll_ok : ∀ {xs : List Vl} {vs : List V} {F : FP} {ds : List PyData}, OwnAll K G H xs vs F → eraseAll xs = some ds → ∃ FR FI : FP, (∀ a, F a = FR a + FI a) ∧
    ∀ G1 : Hp, (∀ a o, G a = some o → G1 a = some o) → (∀ a o, G1 a = some o → H a = some o) → (∀ a, FI a ≠ 0 → G1 a = H a) → OwnAll K G1 H (xs.map shal) vs FR ∧ ShAll K G1 H ds vs
  | [], vs, F, ds, h, e => by
    simp only [eraseAll, Option.some.injEq] at e
    subst e
    simp only [OwnAll] at h
    refine ⟨F, fun _ => 0, fun a => by simp, fun G1 _ _ _ => ⟨?_, h.1⟩⟩
    simp only [List.map_nil, OwnAll]
    exact h
  | x :: xs, vs, F, ds, h, e => by
    simp only [eraseAll] at e
    cases q1 : erase x with
    | none => rw [q1] at e; cases e
    | some d =>
      cases q2 : eraseAll xs with
      | none => rw [q1, q2] at e; cases e
      | some ds' =>
        rw [q1, q2] at e
        simp only [Option.some.injEq] at e
        subst e
        simp only [OwnAll] at h
        obtain ⟨v, r, F1, F2, rfl, h1, h2, f⟩ := h
        obtain ⟨A, B, f1, k1⟩ := shal_ok h1 q1
        obtain ⟨C, D, f2, k2⟩ := shalAll_ok h2 q2
        refine ⟨fun a => A a + C a, fun a => B a + D a, fun a => ?_, fun G1 g gl k => ?_⟩
        · have := f a; have := f1 a; have := f2 a; show F a = A a + C a + (B a + D a); omega
        · obtain ⟨a1, a2⟩ := k1 G1 g gl fun a ha => k a (show B a + D a ≠ 0 by omega)
          obtain ⟨b1, b2⟩ := k2 G1 g gl fun a ha => k a (show B a + D a ≠ 0 by omega)
          refine ⟨?_, v, r, rfl, a2, b2⟩
          simp only [List.map_cons, OwnAll]
          exact ⟨v, r, A, C, rfl, a1, b1, fun _ => rfl⟩
end
inductive Res where
  | dat (d : PyData)
  | nls (ds : List PyData)
  | ntp (ds : List PyData)
@[simp] def Res.vl : Res → Vl
  | .dat d => .fz d
  | .nls ds => .ls (ds.map .fz)
  | .ntp ds => .fz (.tuple ds)
def ResPost (K : PySem.W.Frag) (G H : Hp) (res : Res) (Q : VK) : Prop :=
  match res with
  | .dat d => ∀ v, Dt K G d v → Q v H
  | .nls ds => ∀ p ws, H p = none → DtAll K G ds ws → Q (.ref p) (upd H p (.lst ws))
  | .ntp ds => ∀ p ws, H p = none → DtAll K G ds ws → Q (.ref p) (upd H p (.tup ws))
section
variable {K : PySem.W.Frag} {G H : Hp} {F : FP} {p : Addr} {o : HO}
theorem upd_al (H : Hp) (p : Addr) (o : HO) (a : Addr) (h : H a ≠ none) : upd H p o a ≠ none := by
  unfold upd
  split
  · simp
  · exact h
theorem tb_upd {G : Hp} {G2 : Hp} (ok : Ok G H F) (hp : ∀ ps, H p ≠ some (.tbl ps)) (g : ∀ a u, G a = some u → G2 a = some u) : ∀ q ∈ LamT.T, ∃ ps, upd H p o q.1 = some (.tbl ps) ∧ TabG G2 ps q.2 := fun q hq => by
  obtain ⟨ps, h1, h2⟩ := ok.tb q hq
  exact ⟨ps, by rw [upd_ne (fun e => by subst e; exact hp ps h1)]; exact h1, h2.mono g⟩
theorem vac_upd {H : Hp} {p : Addr} {o : HO} (hb : ∀ ps, o ≠ .tbl ps) (a : Addr) (h : ¬ Vac H a) : ¬ Vac (upd H p o) a := by
  by_cases e : a = p
  · subst e; exact vac_not upd_same hb
  · intro z
    refine h ?_
    unfold Vac at z ⊢
    rwa [upd_ne e] at z
theorem no_tb (hp : H p = none) : ∀ ps, H p ≠ some (.tbl ps) := fun ps h => by rw [hp] at h; cases h
theorem ok_own {G : Hp} (ok : Ok G H F) (hp : H p = none) (ho : ∀ xs, o ≠ .tup xs := by intro xs h; cases h) (hb : ∀ ps, o ≠ .tbl ps := by intro ps h; cases h) (hc : ∀ f, o ≠ .ext f := by intro f h; cases h) : Ok G (upd H p o) (fun a => one p a + F a) ∧ Fr G H F G (upd H p o) (fun a => one p a + F a) ∧ ∀ a, F a ≠ 0 → upd H p o a = H a := by
  have np : ∀ a, F a ≠ 0 → a ≠ p := fun a h e => by subst e; exact ok.kn _ h hp
  have gp : ∀ a u, G a = some u → a ≠ p := fun a u h e => by subst e; rw [ok.le _ _ h] at hp; cases hp
  refine ⟨⟨fun a u h => ?_, fun a => ?_, fun a h => ?_, fun a h => ?_, fun a xs h => ?_, fun a ps h => ?_, tb_upd ok (no_tb hp) fun _ _ h => h, fun a f h => by
    by_cases e : a = p
    · subst e; rw [upd_same] at h; exact absurd (Option.some.inj h) (hc f)
    · rw [upd_ne e] at h; exact ok.cd a f h⟩, ⟨fun _ _ h => h, fun a u h _ _ => ?_, fun a h => ?_, fun a h => .inl h, vac_upd hb⟩, fun a h => upd_ne (np a h)⟩
  · rw [upd_ne (gp a u h)]; exact ok.le a u h
  · by_cases e : a = p
    · subst e
      have : F a = 0 := by
        by_cases q : F a = 0
        · exact q
        · exact absurd rfl (np a q)
      rw [one_self, this]; omega
    · rw [one_ne e]; have := ok.nd a; omega
  · by_cases e : a = p
    · subst e
      cases q : G a with
      | none => rfl
      | some u => exact absurd rfl (gp a u q)
    · rw [one_ne e] at h; exact ok.dj a (by omega)
  · by_cases e : a = p
    · subst e; rw [upd_same]; simp
    · rw [one_ne e] at h
      rw [upd_ne e]; exact ok.kn a (by omega)
  · by_cases e : a = p
    · subst e; rw [upd_same] at h; exact absurd (Option.some.inj h) (ho xs)
    · rw [upd_ne e] at h; exact ok.tu a xs h
  · by_cases e : a = p
    · subst e; rw [upd_same] at h; exact absurd (Option.some.inj h) (hb ps)
    · rw [upd_ne e] at h
      rw [one_ne e]
      have := ok.nt a ps h
      exact ⟨by omega, this.2⟩
  · rw [upd_ne (fun e => by subst e; rw [h] at hp; cases hp)]; exact h
  · by_cases e : a = p
    · subst e; exact .inr (.inl hp)
    · rw [one_ne e] at h; exact .inl (by omega)
theorem ok_new {G : Hp} (ok : Ok G H F) (hp : H p = none) (hb : ∀ ps, o ≠ .tbl ps := by intro ps h; cases h) (hc : ∀ f, o ≠ .ext f := by intro f h; cases h) : Ok (upd G p o) (upd H p o) F ∧ Fr G H F (upd G p o) (upd H p o) F ∧ (∀ a, F a ≠ 0 → upd H p o a = H a) := by
  have np : ∀ a, F a ≠ 0 → a ≠ p := fun a h e => by subst e; exact ok.kn _ h hp
  have gp : ∀ a u, G a = some u → a ≠ p := fun a u h e => by subst e; rw [ok.le _ _ h] at hp; cases hp
  have gg : ∀ a u, G a = some u → upd G p o a = some u := fun a u h => by rw [upd_ne (gp a u h)]; exact h
  refine ⟨⟨fun a u (h : upd G p o a = some u) => ?_, ok.nd, fun a h => show upd G p o a = none from ?_, fun a h => ?_, fun a xs h => show upd G p o a = _ from ?_, fun a ps h => ?_, tb_upd (G := G) (G2 := upd G p o) ok (no_tb hp) gg, fun a f h => show upd G p o a = _ by
    by_cases e : a = p
    · subst e; rw [upd_same] at h; exact absurd (Option.some.inj h) (hc f)
    · rw [upd_ne e] at h ⊢; exact ok.cd a f h⟩, ⟨gg, fun a u h _ _ => ?_, fun a h => .inl h, fun a (h : upd G p o a ≠ none) => ?_, vac_upd hb⟩, fun a h => upd_ne (np a h)⟩
  · by_cases e : a = p
    · subst e; rw [upd_same] at h ⊢; exact h
    · rw [upd_ne e] at h ⊢; exact ok.le a u h
  · rw [upd_ne (np a h)]; exact ok.dj a h
  · rw [upd_ne (np a h)]; exact ok.kn a h
  · by_cases e : a = p
    · subst e; rw [upd_same] at h ⊢; exact h
    · rw [upd_ne e] at h ⊢; exact ok.tu a xs h
  · by_cases e : a = p
    · subst e; rw [upd_same] at h; exact absurd (Option.some.inj h) (hb ps)
    · rw [upd_ne e] at h
      have := ok.nt a ps h
      exact ⟨this.1, show upd G p o a = none by rw [upd_ne e]; exact this.2⟩
  · rw [upd_ne (fun e => by subst e; rw [h] at hp; cases hp)]; exact h
  · by_cases e : a = p
    · subst e; exact .inr (.inr (.inl hp))
    · rw [upd_ne e] at h; exact .inl h
theorem res_step {G : Hp} {ys : List Vl} {vs : List V} {res : Res} {Q : VK} {G0 : Hp} {F0 : FP} {H0 : Hp} (ok : Ok G H F) (fr : Fr G0 H0 F0 G H F) (hy : OwnAll K G H ys vs F)
    (k : ∀ v Fx F' (G' : Hp) H', Own K G' H' res.vl v Fx → OwnAll K G' H' ys vs F' → Ok G' H' (fun a => Fx a + F' a) → Fr G0 H0 F0 G' H' (fun a => Fx a + F' a) → Q v H') : ResPost K G H res Q := by
  cases res with
  | dat d =>
    intro v hv
    exact k v (fun _ => 0) F G H (Own.ofD hv) hy (ok.congr fun a => by simp) (fr.congr (fun _ => rfl) fun a => by simp)
  | nls ds =>
    intro p ws hp hd
    obtain ⟨a1, a2, a3⟩ := ok_own (o := .lst ws) ok hp
    refine k (.ref p) (one p) F G _ ?_ (OwnAll.mono (fun _ _ h => h) ys vs F hy a3) a1 (fr.trans a2)
    simp only [Res.vl, Own]
    exact ⟨p, ws, fun _ => 0, rfl, upd_same, ownAll_fz hd, fun a => by simp⟩
  | ntp ds =>
    intro p ws hp hd
    obtain ⟨a1, a2, a3⟩ := ok_new (o := .tup ws) ok hp
    refine k (.ref p) (fun _ => 0) F _ _ (Own.ofD ?_) (OwnAll.mono a2.g ys vs F hy a3) (a1.congr fun a => by simp) ((fr.trans a2).congr (fun _ => rfl) fun a => by simp)
    simp only [Dt]
    exact ⟨p, ws, rfl, .inl (.inl upd_same), DtAll.mono a2.g ds ws hd⟩
end
def OpD (K : PySem.W.Frag) (r : RN) (h : List PyData → Option Res) : Prop :=
  ∀ (ds : List PyData) (vs : List V) (G H : Hp), (∀ a o, G a = some o → H a = some o) → ShAll K G H ds vs → ∀ res, h ds = some res → ∀ Q : VK, ResPost K G H res Q → r vs H Q
def OpK (K : PySem.W.Frag) (r : RN) (h : List PyData → Option Res) : Prop :=
  ∀ (ds : List PyData) (vs : List V) (G H : Hp), (∀ a o, G a = some o → H a = some o) → DtAll K G ds vs → ∀ res, h ds = some res → ∀ Q : VK, ResPost K G H res Q → r vs H Q
@[simp] def φD (h : List PyData → Option Res) : Φ := fun xs => (eraseAll xs).bind fun ds => (h ds).bind fun res => some (res.vl, xs.map shal)
@[simp] def φK (h : List PyData → Option Res) : Φ := fun xs => (eraseAll xs).bind fun ds => (h ds).bind fun res => some (res.vl, ds.map .fz)
theorem opD {K : PySem.W.Frag} {r : RN} {h : List PyData → Option Res} (o : OpD K r h) : OpSem K r (φD h) := by
  intro vs xs F G H ho ok x ys e Q k
  obtain ⟨ds, e1, e⟩ := bind_some e
  obtain ⟨res, e2, e⟩ := bind_some e
  simp only [Option.some.injEq, Prod.mk.injEq] at e
  obtain ⟨rfl, rfl⟩ := e
  obtain ⟨FR, FI, f, z⟩ := shalAll_ok ho e1
  have ok1 : Ok G H (fun a => FI a + FR a) := ok.congr fun a => by have := f a; show FI a + FR a = F a; omega
  obtain ⟨ok2, fr2⟩ := thaw_ok ok1
  obtain ⟨y1, y2⟩ := z (thaw G H FI) (thaw_le ok1) ok2.le thaw_at
  refine o ds vs (thaw G H FI) H ok2.le y2 res e2 Q (res_step ok2 (fr2.congr (fun a => ?_) fun _ => rfl) y1 k)
  have := f a; show F a = FI a + FR a; omega
theorem opK {K : PySem.W.Frag} {r : RN} {h : List PyData → Option Res} (o : OpK K r h) : OpSem K r (φK h) := by
  intro vs xs F G H ho ok x ys e Q k
  obtain ⟨ds, e1, e⟩ := bind_some e
  obtain ⟨res, e2, e⟩ := bind_some e
  simp only [Option.some.injEq, Prod.mk.injEq] at e
  obtain ⟨rfl, rfl⟩ := e
  have ok1 : Ok G H (fun a => F a + (fun _ => 0 : FP) a) := ok.congr fun a => by simp
  obtain ⟨ok2, fr2⟩ := thaw_ok ok1
  have hd := OwnAll.frz (thaw_le ok1) xs vs F ds ho e1 thaw_at
  exact o ds vs (thaw G H F) H ok2.le hd res e2 Q (res_step ok2 (fr2.congr (fun a => by simp) fun _ => rfl) (ownAll_fz hd) k)
end MP
namespace MP
section
open PySem PySem.Spec PyProof.Rows L2
variable [LamT]
variable {X : Cx}
def mulOk (a b : Int) : Bool := decide (a.natAbs.log2 + b.natAbs.log2 < 134000000)
theorem mulOk_ok {i j : Int} (h : mulOk i j = true) : IntMulOk i j := by
  have b : ∀ x : Int, Builtin.Int.intBits x ≤ x.natAbs.log2 + 1 := fun x => by
    unfold Builtin.Int.intBits
    split <;> omega
  have h1 := b i
  have h2 := b j
  have h3 : i.natAbs.log2 + j.natAbs.log2 < 134000000 := of_decide_eq_true h
  have e : bitsLine = 134217728 := by decide
  unfold IntMulOk
  intro z
  rw [Bool.and_eq_true] at z
  have z2 := z.2
  unfold Builtin.Int.intTooBig at z2
  have z3 := of_decide_eq_true z2
  rw [e] at z3
  omega
abbrev rMulI : R2 := rI (fun a b => mulOk a b = true) (fun i j => .int (i * j))
theorem op_mulI : OpR X (binaryOp .Mult) rMulI := opI fun _ _ _ _ _ _ _ hc q => PyProof.Rows.mul_int q (mulOk_ok hc)
def divOk (a b : Int) : Bool := b != 0 && !Builtin.divisionGoesByPylong a b
abbrev rDivI : R2 := rI (fun a b => divOk a b = true) (fun i j => .int (i.fdiv j))
theorem op_divI : OpR X (binaryOp .FloorDiv) rDivI := opI fun i j _ _ _ _ _ hc q => by
  have hc' : (j != 0 && !Builtin.divisionGoesByPylong i j) = true := hc
  simp only [Bool.and_eq_true, bne_iff_ne, ne_eq, Bool.not_eq_true'] at hc'
  exact PyProof.Rows.floordiv_int hc'.1 q (.inl hc'.2)
abbrev rModI : R2 := rI (fun _ j => j ≠ 0) fun i j => .int (i.fmod j)
def rCatL : R2 := fun x y H Q => ∃ l b xs zs, x = .ref l ∧ y = .ref b ∧ Rd H l (.lst xs) ∧ Rd H b (.lst zs) ∧ xs.length + zs.length ≤ sizeLine ∧ ∀ p, H p = none → Q (.ref p) (upd H p (.lst (xs ++ zs)))
theorem op_catL : OpR X (binaryOp .Add) rCatL := by
  intro pins s σ H x y v u Q I rx ry h
  obtain ⟨l, b, xs, zs, rfl, rfl, hH, hB, hz, q⟩ := h
  cases rx
  cases ry
  obtain ⟨z, its, n, r, e⟩ := hH.ok I.hok
  obtain ⟨z2, its2, n2, r2, e2⟩ := hB.ok I.hok
  have hl := r.length
  have hl2 := r2.length
  refine PySem.P.add_list e e2 ?_ (by rw [List.size_toArray, List.size_toArray]; omega)
  have ea : its.toArray ++ its2.toArray = (its ++ its2).toArray := by simp
  rw [ea]
  exact ⟨.ref _, _, I.lnew (t' := s.toks) (r.append r2) (by rw [List.length_append]; omega), rfl, q _ I.fresh⟩
def rRepL : R2 := fun x y H Q => ∃ l k xs, x = .ref l ∧ y = .int k ∧ Rd H l (.lst xs) ∧ -(2 ^ 63) ≤ k ∧ k < 2 ^ 63 ∧ xs.length * k.toNat ≤ sizeLine ∧
  ∀ p, H p = none → Q (.ref p) (upd H p (.lst (List.replicate k.toNat xs).flatten))
theorem op_repL : OpR X (binaryOp .Mult) rRepL := by
  intro pins s σ H x y v u Q I rx ry h
  obtain ⟨l, k, xs, rfl, rfl, hH, h1, h2, hz, q⟩ := h
  cases rx
  obtain ⟨t, rfl⟩ := ry
  obtain ⟨z, its, n, r, e⟩ := hH.ok I.hok
  have hl := r.length
  have hlen : its.toArray.size * k.toNat ≤ sizeLine := by rw [List.size_toArray, ← hl]; exact hz
  have hcap : ¬ its.toArray.size * k.toNat > (2 ^ 63 - 1) / 8 := by
    have : (sizeLine : Nat) ≤ (2 ^ 63 - 1) / 8 := by decide
    omega
  have hfit : ¬ (!Builtin.List.listFitsIndex k) = true := by
    rw [fitsIndex_both h1 h2]
    exact Bool.false_ne_true
  have hlong : ¬ Builtin.List.listTooLong (its.toArray.size * k.toNat) = true := by
    rw [notLongL hlen]
    exact Bool.false_ne_true
  have hnew : List.foldl (fun x1 x2 => x1 ++ x2) #[] (List.replicate (if its.toArray.isEmpty = true then 0 else k.toNat) its.toArray) = (List.replicate k.toNat its).flatten.toArray := by
    have f0 : ∀ m : Nat, List.foldl (fun x1 x2 => x1 ++ x2) #[] (List.replicate m its.toArray) = (List.replicate m its).flatten.toArray := fun m => by
      have := foldl_rep its m []
      rw [List.nil_append] at this
      exact this
    rw [f0]
    cases its with
    | nil => simp
    | cons a r' => rw [if_neg (by simp)]
  refine wpAny_binaryOp_repeat_ref (T := "list") (U := "int") (by decide) ⟨_, e, rfl⟩ (fun s' => typeIs_int s' k t) noFill_list_mul F.fills_int_mul F.slot_int_rmul repeat_list F.slot_int_index.lookup
    (call_meets F.slot_int_rmul (typeIs_int s k t) F.entry_int_rmul (F.args_int_rmul_2 _ _) (int___rmul___int_list k t l its.toArray n)
      ⟨e, rfl, ⟨_, e, rfl⟩, call_meets F.slot_list_mul ⟨_, e, rfl⟩ F.entry_list_mul (F.args_list_mul_2 _ _) (AutoListH.list___mul___list_int_3 l its.toArray n k t hfit hcap hlong) ⟨e, ?_⟩⟩)
  rw [hnew]
  exact ⟨.ref _, _, I.lnew (t' := s.toks) (r.rep k.toNat) (by rw [PyProof.Rows.lm_len_rep_flat, Nat.mul_comm]; exact hz), rfl, q _ I.fresh⟩
theorem tuple_mulS (l : Addr) (items : Array Value) (n : Nat) (dd : Option Addr) (sl : Array (Option Value)) (x : Int) (u : Tok) (c0 : (decide (x < -(2 ^ 63)) || decide (x ≥ 2 ^ 63)) = false) (c1 : (items.isEmpty || x == 1) = true) :
    Meets (Builtin.«tuple.__mul__» ⟨[.ref l, .int x u], []⟩) (fun _ R s => s.heap.get? l = some { cls := .type "tuple", dict := dd, data := .seq items n, slots := sl } ∧ R (.ok (.ret (Value.ref l))) { s with heap := s.heap, toks := s.toks }) :=
  .of_wp fun prog w A R s h => by
    obtain ⟨hp, g, d, tk, os⟩ := s
    obtain ⟨hl, h⟩ := h
    have f1 := AutoSeq1.idx_int
    wp_walk using wpAny_loadPart' hl
    repeat (first
      | (refine wpAny_ite_false (decide_eq_false (by rw [c0]; exact Bool.false_ne_true)) ?_; wp_walk using wpAny_loadPart' hl)
      | (refine wpAny_ite_true (decide_eq_true c1) ?_; wp_walk using wpAny_loadPart' hl))
    exact ⟨_, rfl, h⟩
theorem tuple_mul0 (l : Addr) (items : Array Value) (n : Nat) (dd : Option Addr) (sl : Array (Option Value)) (x : Int) (u : Tok) (c0 : (decide (x < -(2 ^ 63)) || decide (x ≥ 2 ^ 63)) = false) (c1 : (items.isEmpty || x == 1) = false) (c2 : (decide (x ≤ 0) || items.isEmpty) = true) :
    Meets (Builtin.«tuple.__mul__» ⟨[.ref l, .int x u], []⟩) (fun _ R s => s.heap.get? l = some { cls := .type "tuple", dict := dd, data := .seq items n, slots := sl } ∧
      R (.ok (.ret (Value.ref s.heap.objs.size))) { s with heap := s.heap.push { cls := Value.type "tuple", data := Data.seq #[] }, toks := s.toks }) :=
  .of_wp fun prog w A R s h => by
    obtain ⟨hp, g, d, tk, os⟩ := s
    obtain ⟨hl, h⟩ := h
    have f1 := AutoSeq1.idx_int
    wp_walk using wpAny_loadPart' hl
    repeat (first
      | (refine wpAny_ite_false (decide_eq_false (by rw [c0]; exact Bool.false_ne_true)) ?_; wp_walk using wpAny_loadPart' hl)
      | (refine wpAny_ite_false (decide_eq_false (by rw [c1]; exact Bool.false_ne_true)) ?_; wp_walk using wpAny_loadPart' hl)
      | (refine wpAny_ite_true (decide_eq_true c2) ?_; wp_walk using wpAny_loadPart' hl))
    exact ⟨_, rfl, h⟩
def rRepTA (K : PySem.W.Frag) : R2 := fun x y H Q => ∃ l k xs, x = .ref l ∧ y = .int k ∧ SqT K H l xs ∧ -1000 ≤ k ∧ k ≤ 1000 ∧ xs.length ≤ 1000 ∧ (xs = [] ∨ k = 1 → Q (.ref l) H) ∧
  (xs ≠ [] → k ≠ 1 → ∀ p, H p = none → Q (.ref p) (upd H p (.tup (List.replicate k.toNat xs).flatten)))
theorem op_repTA : OpR X (binaryOp .Mult) (rRepTA X.K) := by
  intro pins s σ H x y v u Q I rx ry h
  obtain ⟨l, k, xs, rfl, rfl, hT, h0, h2, hz, q1, q2⟩ := h
  by_cases hk : xs ≠ [] ∧ 2 ≤ k
  · exact op_repT pins s σ H _ _ v u Q I rx ry ⟨l, k, xs, rfl, rfl, hT, hk.1, hk.2, h2, hz, q2 hk.1 (by omega)⟩
  · cases rx
    obtain ⟨t, rfl⟩ := ry
    obtain ⟨its, r, ⟨⟨cls, dd, data, sl⟩, ho, hc, n, hd⟩, hs⟩ := I.tuple hT
    simp only at hc hd
    subst hc hd
    have c0 : (decide (k < -(2 ^ 63)) || decide (k ≥ 2 ^ 63)) = false := by
      rw [decide_eq_false (by omega), decide_eq_false (by omega)] <;> rfl
    by_cases hsame : xs = [] ∨ k = 1
    · have c1 : (its.toArray.isEmpty || k == 1) = true := by
        rcases hsame with e | e
        · subst e
          cases r
          rfl
        · subst e
          simp
      exact wpAny_binaryOp_repeat_ref (T := "tuple") (U := "int") (by decide) ⟨_, ho, rfl⟩ (fun s' => typeIs_int s' k t) noFill_tuple_mul F.fills_int_mul F.slot_int_rmul repeat_tuple F.slot_int_index.lookup
        (call_meets F.slot_int_rmul (typeIs_int s k t) F.entry_int_rmul (F.args_int_rmul_2 _ _) (int_rmul_tuple k t l its.toArray n dd sl)
          ⟨ho, rfl, ⟨_, ho, rfl⟩, call_meets F.slot_tuple_mul ⟨_, ho, rfl⟩ F.entry_tuple_mul (F.args_tuple_mul_2 _ _) (tuple_mulS l its.toArray n dd sl k t c0 c1) ⟨ho, ⟨.ref l, H, I, rfl, q1 hsame⟩⟩⟩)
    · have hne : xs ≠ [] := fun e => hsame (.inl e)
      have hk1 : k ≠ 1 := fun e => hsame (.inr e)
      have hk0 : k ≤ 0 := by
        by_cases z : 2 ≤ k
        · exact absurd ⟨hne, z⟩ hk
        · omega
      have hi : its.toArray.isEmpty = false := by
        cases r with
        | nil => exact absurd rfl hne
        | cons _ _ => rfl
      have c1 : (its.toArray.isEmpty || k == 1) = false := by
        rw [hi, Bool.false_or]
        exact beq_eq_false_iff_ne.mpr hk1
      have c2 : (decide (k ≤ 0) || its.toArray.isEmpty) = true := by
        rw [decide_eq_true hk0]; rfl
      refine wpAny_binaryOp_repeat_ref (T := "tuple") (U := "int") (by decide) ⟨_, ho, rfl⟩ (fun s' => typeIs_int s' k t) noFill_tuple_mul F.fills_int_mul F.slot_int_rmul repeat_tuple F.slot_int_index.lookup
        (call_meets F.slot_int_rmul (typeIs_int s k t) F.entry_int_rmul (F.args_int_rmul_2 _ _) (int_rmul_tuple k t l its.toArray n dd sl)
          ⟨ho, rfl, ⟨_, ho, rfl⟩, call_meets F.slot_tuple_mul ⟨_, ho, rfl⟩ F.entry_tuple_mul (F.args_tuple_mul_2 _ _) (tuple_mul0 l its.toArray n dd sl k t c0 c1 c2) ⟨ho, ?_⟩⟩)
      have e0 : (List.replicate k.toNat xs).flatten = [] := by
        rw [show k.toNat = 0 by omega]; rfl
      have q3 := q2 hne hk1 _ (I.hok.fresh (Nat.le_refl _))
      rw [e0] at q3
      refine ⟨.ref s.heap.objs.size, _, I.laid (t' := s.toks) (o := .tup []) (fun b ob q => Heap.get?_push_of_some _ q) (Nat.le_refl _) ?_, rfl, q3⟩
      exact ⟨Nat.zero_le _, [], .nil, IsTup.new _ _⟩
end
section
open PySem L2
variable {K : PySem.W.Frag} {G H : Hp}
mutual
theorem Dt.dp (le : ∀ a o, G a = some o → H a = some o) : ∀ (d : PyData) (v : V), Dt K G d v → Dp K H v d
  | .none, v, h => by simp only [Dt] at h; subst h; exact .non
  | .bool b, v, h => by simp only [Dt] at h; subst h; exact .bl b
  | .int i, v, h => by simp only [Dt] at h; subst h; exact .int i
  | .str x, v, h => by simp only [Dt] at h; subst h; exact .str x
  | .list ds, v, h => by
    simp only [Dt] at h
    obtain ⟨a, xs, rfl, q, r⟩ := h
    exact .lst (.inl (rd_mono le q)) (DtAll.dp le ds xs r)
  | .tuple ds, v, h => by
    simp only [Dt] at h
    obtain ⟨a, xs, rfl, q, r⟩ := h
    exact .tup (sqT_mono le q) (DtAll.dp le ds xs r)
  | .dict _, _, h => by simp only [Dt] at h
theorem DtAll.dp (le : ∀ a o, G a = some o → H a = some o) : ∀ (ds : List PyData) (vs : List V), DtAll K G ds vs → DpAll K H vs ds
  | [], vs, h => by simp only [DtAll] at h; subst h; exact .nil
  | d :: ds, vs, h => by
    simp only [DtAll] at h
    obtain ⟨v, r, rfl, h1, h2⟩ := h
    exact .cons (Dt.dp le d v h1) (DtAll.dp le ds r h2)
end
theorem ShD.dp (le : ∀ a o, G a = some o → H a = some o) {d : PyData} {v : V} (h : ShD K G H d v) : Dp K H v d := by
  cases d with
  | list ds =>
    obtain ⟨p, ws, rfl, q, r⟩ := h
    exact .lst (.inl q) (DtAll.dp le ds ws r)
  | none => exact Dt.dp le _ v h
  | bool _ => exact Dt.dp le _ v h
  | int _ => exact Dt.dp le _ v h
  | str _ => exact Dt.dp le _ v h
  | tuple _ => exact Dt.dp le _ v h
  | dict _ => exact Dt.dp le _ v h
theorem sh1 {d : PyData} {vs : List V} (h : ShAll K G H [d] vs) : ∃ v, vs = [v] ∧ ShD K G H d v := by
  obtain ⟨v, r, rfl, h1, h2⟩ := h
  cases h2
  exact ⟨v, rfl, h1⟩
theorem sh2 {d e : PyData} {vs : List V} (h : ShAll K G H [d, e] vs) : ∃ v w, vs = [v, w] ∧ ShD K G H d v ∧ ShD K G H e w := by
  obtain ⟨v, r, rfl, h1, h2⟩ := h
  obtain ⟨w, rfl, h3⟩ := sh1 h2
  exact ⟨v, w, rfl, h1, h3⟩
theorem shInt {i : Int} {v : V} (h : ShD K G H (.int i) v) : v = .int i := by simpa only [ShD, Dt] using h
theorem shBool {b : Bool} {v : V} (h : ShD K G H (.bool b) v) : v = .bl b := by simpa only [ShD, Dt] using h
theorem shStr {b : Str} {v : V} (h : ShD K G H (.str b) v) : v = .str b := by simpa only [ShD, Dt] using h
theorem shNone {v : V} (h : ShD K G H .none v) : v = .non := by simpa only [ShD, Dt] using h
theorem shList {ds : List PyData} {v : V} (h : ShD K G H (.list ds) v) : ∃ p ws, v = .ref p ∧ Rd H p (.lst ws) ∧ DtAll K G ds ws := h
theorem shTup (le : ∀ a o, G a = some o → H a = some o) {ds : List PyData} {v : V} (h : ShD K G H (.tuple ds) v) : ∃ p ws, v = .ref p ∧ SqT K H p ws ∧ DtAll K G ds ws := by
  simp only [ShD, Dt] at h
  obtain ⟨p, ws, e, q, r⟩ := h
  exact ⟨p, ws, e, sqT_mono le q, r⟩
theorem dtInt {i : Int} : Dt K G (.int i) (.int i) := by simp only [Dt]
theorem dtBool {b : Bool} : Dt K G (.bool b) (.bl b) := by simp only [Dt]
theorem dtStr {b : Str} : Dt K G (.str b) (.str b) := by simp only [Dt]
theorem dtNone : Dt K G .none .non := by simp only [Dt]
theorem DtAll.len : ∀ {ds : List PyData} {vs : List V}, DtAll K G ds vs → ds.length = vs.length
  | [], vs, h => by simp only [DtAll] at h; subst h; rfl
  | d :: ds, vs, h => by
    simp only [DtAll] at h
    obtain ⟨v, r, rfl, _, h2⟩ := h
    simp only [List.length_cons, h2.len]
theorem DtAll.append : ∀ {ds es : List PyData} {vs ws : List V}, DtAll K G ds vs → DtAll K G es ws → DtAll K G (ds ++ es) (vs ++ ws)
  | [], es, vs, ws, h, k => by simp only [DtAll] at h; subst h; exact k
  | d :: ds, es, vs, ws, h, k => by
    simp only [DtAll] at h
    obtain ⟨v, r, rfl, h1, h2⟩ := h
    simp only [List.cons_append, DtAll]
    exact ⟨v, r ++ ws, rfl, h1, h2.append k⟩
theorem DtAll.get : ∀ {ds : List PyData} {vs : List V} {i : Nat} {d : PyData}, DtAll K G ds vs → ds[i]? = some d → ∃ v, vs[i]? = some v ∧ Dt K G d v
  | [], vs, i, d, h, e => by simp at e
  | x :: ds, vs, 0, d, h, e => by
    simp at e
    subst e
    simp only [DtAll] at h
    obtain ⟨v, r, rfl, h1, h2⟩ := h
    exact ⟨v, rfl, h1⟩
  | x :: ds, vs, i + 1, d, h, e => by
    simp only [DtAll] at h
    obtain ⟨v, r, rfl, h1, h2⟩ := h
    obtain ⟨w, e1, h3⟩ := h2.get (i := i) (by simpa using e)
    exact ⟨w, by simpa using e1, h3⟩
theorem DtAll.drop : ∀ {ds : List PyData} {vs : List V} (n : Nat), DtAll K G ds vs → DtAll K G (ds.drop n) (vs.drop n)
  | _, _, 0, h => h
  | [], vs, n + 1, h => by simp only [DtAll] at h; subst h; simp [DtAll]
  | d :: ds, vs, n + 1, h => by
    simp only [DtAll] at h
    obtain ⟨v, r, rfl, h1, h2⟩ := h
    exact h2.drop n
theorem DtAll.take : ∀ {ds : List PyData} {vs : List V} (n : Nat), DtAll K G ds vs → DtAll K G (ds.take n) (vs.take n)
  | _, _, 0, h => by simp [DtAll]
  | [], vs, n + 1, h => by simp only [DtAll] at h; subst h; simp [DtAll]
  | d :: ds, vs, n + 1, h => by
    simp only [DtAll] at h
    obtain ⟨v, r, rfl, h1, h2⟩ := h
    simp only [List.take_succ_cons, DtAll]
    exact ⟨v, _, rfl, h1, h2.take n⟩
theorem DtAll.rep {ds : List PyData} {vs : List V} (h : DtAll K G ds vs) : ∀ n : Nat, DtAll K G (List.replicate n ds).flatten (List.replicate n vs).flatten
  | 0 => by simp [DtAll]
  | n + 1 => by
    rw [List.replicate_succ, List.flatten_cons, List.replicate_succ, List.flatten_cons]
    exact h.append (DtAll.rep h n)
def intsOf : List PyData → Option (List Int)
  | [] => some []
  | .int i :: ds => (intsOf ds).map (i :: ·)
  | _ :: _ => none
theorem DtAll.ints : ∀ {ds : List PyData} {vs : List V} {ns : List Int}, DtAll K G ds vs → intsOf ds = some ns → vs = ns.map V.int
  | [], vs, ns, h, e => by
    simp only [intsOf, Option.some.injEq] at e
    subst e
    simp only [DtAll] at h
    exact h
  | .int i :: ds, vs, ns, h, e => by
    simp only [intsOf] at e
    cases q : intsOf ds with
    | none => rw [q] at e; cases e
    | some ms =>
      rw [q] at e
      simp only [Option.map_some, Option.some.injEq] at e
      subst e
      simp only [DtAll, Dt] at h
      obtain ⟨v, r, rfl, rfl, h2⟩ := h
      rw [h2.ints q]; rfl
  | .none :: _, _, _, _, e => by simp [intsOf] at e
  | .bool _ :: _, _, _, _, e => by simp [intsOf] at e
  | .str _ :: _, _, _, _, e => by simp [intsOf] at e
  | .list _ :: _, _, _, _, e => by simp [intsOf] at e
  | .tuple _ :: _, _, _, _, e => by simp [intsOf] at e
  | .dict _ :: _, _, _, _, e => by simp [intsOf] at e
def bolsOf : List PyData → Option (List Bool)
  | [] => some []
  | .bool i :: ds => (bolsOf ds).map (i :: ·)
  | _ :: _ => none
theorem DtAll.bols : ∀ {ds : List PyData} {vs : List V} {ns : List Bool}, DtAll K G ds vs → bolsOf ds = some ns → vs = ns.map V.bl
  | [], vs, ns, h, e => by
    simp only [bolsOf, Option.some.injEq] at e
    subst e
    simp only [DtAll] at h
    exact h
  | .bool i :: ds, vs, ns, h, e => by
    simp only [bolsOf] at e
    cases q : bolsOf ds with
    | none => rw [q] at e; cases e
    | some ms =>
      rw [q] at e
      simp only [Option.map_some, Option.some.injEq] at e
      subst e
      simp only [DtAll, Dt] at h
      obtain ⟨v, r, rfl, rfl, h2⟩ := h
      rw [h2.bols q]; rfl
  | .none :: _, _, _, _, e => by simp [bolsOf] at e
  | .int _ :: _, _, _, _, e => by simp [bolsOf] at e
  | .str _ :: _, _, _, _, e => by simp [bolsOf] at e
  | .list _ :: _, _, _, _, e => by simp [bolsOf] at e
  | .tuple _ :: _, _, _, _, e => by simp [bolsOf] at e
  | .dict _ :: _, _, _, _, e => by simp [bolsOf] at e
end
end MP
namespace MP
open PySem L2
variable [LamT]
abbrev HD := List PyData → Option Res
def small (n : Nat) : Bool := decide (n ≤ 1000000)
theorem small_line {n : Nat} (h : small n = true) : n ≤ sizeLine := by
  have : n ≤ 1000000 := of_decide_eq_true h
  rw [sizeLine_eq]; omega
def hCatT : List PyData → List PyData → Res
  | [], ys => .dat (.tuple ys)
  | x :: xs, [] => .dat (.tuple (x :: xs))
  | x :: xs, y :: ys => .ntp (x :: xs ++ y :: ys)
@[simp] def hAdd : HD
  | [.int a, .int b] => some (.dat (.int (a + b)))
  | [.str a, .str b] => if small (a.length + b.length) then some (.dat (.str (a ++ b))) else none
  | [.list xs, .list ys] => if small (xs.length + ys.length) then some (.nls (xs ++ ys)) else none
  | [.tuple xs, .tuple ys] => if small (xs.length + ys.length) then some (hCatT xs ys) else none
  | _ => none
def r2 (r : R2) : RN := fun vs H Q => match vs with
  | [x, y] => r x y H Q
  | _ => False
def r1 (r : V → Hp → VK → Prop) : RN := fun vs H Q => match vs with
  | [x] => r x H Q
  | _ => False
abbrev rAddI : R2 := rI0 fun i j => .int (i + j)
abbrev rAddS : R2 := fun x y H Q => ∃ i j, x = .str i ∧ y = .str j ∧ i.length + j.length ≤ sizeLine ∧ Q (.str (i ++ j)) H
def rAddA (K : PySem.W.Frag) : R2 := fun x y H Q => rAddI x y H Q ∨ rAddS x y H Q ∨ rCatL x y H Q ∨ rCatA K x y H Q
section
variable {X : Cx} {K : PySem.W.Frag}
theorem op_addA : OpR X (binaryOp .Add) (rAddA X.K) := op_add.or (op_add_str.or (op_catL.or op_catA))
theorem od_add : OpD K (r2 (rAddA K)) hAdd := by
  intro ds vs G H le hs res e Q k
  unfold hAdd at e
  split at e
  · cases e
    obtain ⟨v, w, rfl, h1, h2⟩ := sh2 hs
    exact .inl ⟨_, _, shInt h1, shInt h2, k _ dtInt⟩
  · rename_i a b
    obtain ⟨v, w, rfl, h1, h2⟩ := sh2 hs
    split at e
    · rename_i hz
      cases e
      exact .inr (.inl ⟨_, _, shStr h1, shStr h2, small_line hz, k _ dtStr⟩)
    · cases e
  · obtain ⟨v, w, rfl, h1, h2⟩ := sh2 hs
    split at e
    · rename_i hz
      cases e
      obtain ⟨p, ws, rfl, q1, d1⟩ := shList h1
      obtain ⟨p2, ws2, rfl, q2, d2⟩ := shList h2
      refine .inr (.inr (.inl ⟨p, p2, ws, ws2, rfl, rfl, q1, q2, ?_, fun q hq => k q _ hq (d1.append d2)⟩))
      rw [← d1.len, ← d2.len]; exact small_line hz
    · cases e
  · rename_i xs ys
    obtain ⟨v, w, rfl, h1, h2⟩ := sh2 hs
    split at e
    · rename_i hz
      cases e
      have h1' := h1
      have h2' := h2
      obtain ⟨p, ws, rfl, q1, d1⟩ := shTup le h1
      obtain ⟨p2, ws2, rfl, q2, d2⟩ := shTup le h2
      refine .inr (.inr (.inr ⟨p, p2, ws, ws2, rfl, rfl, q1, q2, ?_, fun z => ?_, fun z z2 => ?_, fun z z2 q hq => ?_⟩))
      · rw [← d1.len, ← d2.len]; exact small_line hz
      · have : xs = [] := List.eq_nil_of_length_eq_zero (by rw [d1.len, z]; rfl)
        subst this
        exact k _ h2'
      · have : ys = [] := List.eq_nil_of_length_eq_zero (by rw [d2.len, z2]; rfl)
        subst this
        cases xs with
        | nil => exact absurd (List.eq_nil_of_length_eq_zero d1.len.symm) z
        | cons a b => exact k _ h1'
      · cases xs with
        | nil => exact absurd (List.eq_nil_of_length_eq_zero d1.len.symm) z
        | cons a b =>
          cases ys with
          | nil => exact absurd (List.eq_nil_of_length_eq_zero d2.len.symm) z2
          | cons c d => exact k q _ hq (d1.append d2)
    · cases e
  · cases e
@[simp] def hSub : HD
  | [.int a, .int b] => some (.dat (.int (a - b)))
  | _ => none
abbrev rSubI : R2 := rI0 fun i j => .int (i - j)
theorem od_sub : OpD K (r2 rSubI) hSub := by
  intro ds vs G H le hs res e Q k
  unfold hSub at e
  split at e
  · cases e
    obtain ⟨v, w, rfl, h1, h2⟩ := sh2 hs
    exact ⟨_, _, shInt h1, shInt h2, k _ dtInt⟩
  · cases e
def hRepT (xs : List PyData) (k : Int) : Res := match xs with
  | [] => .dat (.tuple [])
  | x :: r => if k = 1 then .dat (.tuple (x :: r)) else .ntp (List.replicate k.toNat (x :: r)).flatten
@[simp] def hMul : HD
  | [.int a, .int b] => if mulOk a b then some (.dat (.int (a * b))) else none
  | [.list xs, .int k] => if decide (-1000 ≤ k ∧ k ≤ 1000 ∧ xs.length ≤ 1000) then some (.nls (List.replicate k.toNat xs).flatten) else none
  | [.tuple xs, .int k] => if decide (-1000 ≤ k ∧ k ≤ 1000 ∧ xs.length ≤ 1000) then some (hRepT xs k) else none
  | _ => none
def rMulA (K : PySem.W.Frag) : R2 := fun x y H Q => rMulI x y H Q ∨ rRepL x y H Q ∨ rRepTA K x y H Q
theorem op_mulA : OpR X (binaryOp .Mult) (rMulA X.K) := op_mulI.or (op_repL.or op_repTA)
theorem od_mul : OpD K (r2 (rMulA K)) hMul := by
  intro ds vs G H le hs res e Q k
  unfold hMul at e
  split at e
  · obtain ⟨v, w, rfl, h1, h2⟩ := sh2 hs
    split at e
    · rename_i hz
      cases e
      exact .inl ⟨_, _, shInt h1, shInt h2, hz, k _ dtInt⟩
    · cases e
  · obtain ⟨v, w, rfl, h1, h2⟩ := sh2 hs
    split at e
    · rename_i hz
      cases e
      obtain ⟨p, ws, rfl, q1, d1⟩ := shList h1
      obtain ⟨z1, z2, z3⟩ := of_decide_eq_true hz
      refine .inr (.inl ⟨p, _, ws, rfl, shInt h2, q1, by omega, by omega, ?_, fun q hq => k q _ hq (d1.rep _)⟩)
      rw [← d1.len, sizeLine_eq]
      exact Nat.le_trans (Nat.mul_le_mul z3 (show _ ≤ 1000 by omega)) (by decide)
    · cases e
  · rename_i xs kk
    obtain ⟨v, w, rfl, h1, h2⟩ := sh2 hs
    split at e
    · rename_i hz
      cases e
      have h1' := h1
      obtain ⟨p, ws, rfl, q1, d1⟩ := shTup le h1
      obtain ⟨z1, z2, z3⟩ := of_decide_eq_true hz
      refine .inr (.inr ⟨p, kk, ws, rfl, shInt h2, q1, z1, z2, by rw [← d1.len]; exact z3, fun z => ?_, fun z1 z2 q hq => ?_⟩)
      · cases xs with
        | nil => exact k _ h1'
        | cons a b =>
          rcases z with z | z
          · subst z; have := d1.len; simp at this
          · subst z
            simp only [hRepT, if_true] at k
            exact k _ h1'
      · cases xs with
        | nil => exact absurd (List.eq_nil_of_length_eq_zero d1.len.symm) z1
        | cons a b =>
          simp only [hRepT, if_neg z2] at k
          exact k q _ hq (d1.rep _)
    · cases e
  · cases e
@[simp] def hMod : HD
  | [.int a, .int b] => if b = 0 then none else some (.dat (.int (a.fmod b)))
  | _ => none
theorem od_mod : OpD K (r2 rModI) hMod := by
  intro ds vs G H le hs res e Q k
  unfold hMod at e
  split at e
  · obtain ⟨v, w, rfl, h1, h2⟩ := sh2 hs
    split at e
    · cases e
    · rename_i hz
      cases e
      exact ⟨_, _, shInt h1, shInt h2, hz, k _ dtInt⟩
  · cases e
@[simp] def hDiv : HD
  | [.int a, .int b] => if divOk a b then some (.dat (.int (a.fdiv b))) else none
  | _ => none
theorem od_div : OpD K (r2 rDivI) hDiv := by
  intro ds vs G H le hs res e Q k
  unfold hDiv at e
  split at e
  · obtain ⟨v, w, rfl, h1, h2⟩ := sh2 hs
    split at e
    · rename_i hz
      cases e
      exact ⟨_, _, shInt h1, shInt h2, hz, k _ dtInt⟩
    · cases e
  · cases e
@[simp] def hPow : HD
  | [.int a, .int b] => if decide (0 ≤ b ∧ b ≤ 1000000 ∧ a.natAbs < 2 ^ 64) then some (.dat (.int (a ^ b.toNat))) else none
  | _ => none
abbrev rPowI : R2 := rI CPow fun i j => .int (i ^ j.toNat)
theorem od_pow : OpD K (r2 rPowI) hPow := by
  intro ds vs G H le hs res e Q k
  unfold hPow at e
  split at e
  · obtain ⟨v, w, rfl, h1, h2⟩ := sh2 hs
    split at e
    · rename_i hz
      cases e
      exact ⟨_, _, shInt h1, shInt h2, (of_decide_eq_true hz : _ ∧ _ ∧ _), k _ dtInt⟩
    · cases e
  · cases e
@[simp] def hNeg : HD
  | [.int a] => some (.dat (.int (-a)))
  | _ => none
abbrev rNegI : V → Hp → VK → Prop := rU fun i => .int (-i)
theorem od_neg : OpD K (r1 rNegI) hNeg := by
  intro ds vs G H le hs res e Q k
  unfold hNeg at e
  split at e
  · cases e
    obtain ⟨v, rfl, h1⟩ := sh1 hs
    exact ⟨_, shInt h1, k _ dtInt⟩
  · cases e
@[simp] def hEq (neg : Bool) : HD
  | [d, e] => if SeqAt.shaped d && SeqAt.shaped e then some (.dat (.bool (if neg then !PyData.eqv d e else PyData.eqv d e))) else none
  | _ => none
theorem od_eq : OpD K (r2 (rEqD K)) (hEq false) := by
  intro ds vs G H le hs res e Q k
  unfold hEq at e
  split at e
  · obtain ⟨v, w, rfl, h1, h2⟩ := sh2 hs
    split at e
    · rename_i hz
      cases e
      rw [Bool.and_eq_true] at hz
      exact ⟨_, _, h1.dp le, h2.dp le, hz.1, hz.2, k _ dtBool⟩
    · cases e
  · cases e
theorem od_ne : OpD K (r2 (rNeD K)) (hEq true) := by
  intro ds vs G H le hs res e Q k
  unfold hEq at e
  split at e
  · obtain ⟨v, w, rfl, h1, h2⟩ := sh2 hs
    split at e
    · rename_i hz
      cases e
      rw [Bool.and_eq_true] at hz
      exact ⟨_, _, h1.dp le, h2.dp le, hz.1, hz.2, k _ dtBool⟩
    · cases e
  · cases e
@[simp] def hCmp (p : Int → Int → Bool) : HD
  | [.int a, .int b] => some (.dat (.bool (p a b)))
  | _ => none
theorem od_cmp {p : Int → Int → Bool} : OpD K (r2 (rI0 fun i j => .bl (p i j))) (hCmp p) := by
  intro ds vs G H le hs res e Q k
  unfold hCmp at e
  split at e
  · cases e
    obtain ⟨v, w, rfl, h1, h2⟩ := sh2 hs
    exact ⟨_, _, shInt h1, shInt h2, k _ dtBool⟩
  · cases e
@[simp] def hLt : HD
  | [.int a, .int b] => some (.dat (.bool (decide (a < b))))
  | [.tuple xs, .tuple ys] => (intsOf xs).bind fun ns => (intsOf ys).bind fun ms => some (.dat (.bool (HT.lexLt ns ms)))
  | _ => none
def rLtA (K : PySem.W.Frag) : R2 := fun x y H Q => rI0 (fun i j => .bl (decide (i < j))) x y H Q ∨ rLtT K x y H Q
theorem op_ltA (hu : X.A.units < cLine) : OpR X (compareOp .Lt) (rLtA X.K) := op_lt.or (op_ltT hu)
theorem od_lt : OpD K (r2 (rLtA K)) hLt := by
  intro ds vs G H le hs res e Q k
  unfold hLt at e
  split at e
  · cases e
    obtain ⟨v, w, rfl, h1, h2⟩ := sh2 hs
    exact .inl ⟨_, _, shInt h1, shInt h2, k _ dtBool⟩
  · obtain ⟨v, w, rfl, h1, h2⟩ := sh2 hs
    obtain ⟨ns, e1, e⟩ := bind_some e
    obtain ⟨ms, e2, e⟩ := bind_some e
    cases e
    obtain ⟨p, ws, rfl, q1, d1⟩ := shTup le h1
    obtain ⟨p2, ws2, rfl, q2, d2⟩ := shTup le h2
    rw [d1.ints e1] at q1
    rw [d2.ints e2] at q2
    exact .inr ⟨p, p2, ns, ms, rfl, rfl, q1, q2, k _ dtBool⟩
  · cases e
def leB (ns ms : List Int) : Bool := Ob.lexAt (fun j => decide (ns.getD j 0 = ms.getD j 0)) (fun j => decide (ns.getD j 0 ≤ ms.getD j 0)) (decide (ns.length ≤ ms.length)) 0 (min ns.length ms.length)
@[simp] def hLe : HD
  | [.int a, .int b] => some (.dat (.bool (decide (a ≤ b))))
  | [.tuple xs, .tuple ys] => (intsOf xs).bind fun ns => (intsOf ys).bind fun ms => some (.dat (.bool (leB ns ms)))
  | _ => none
def rLeA (K : PySem.W.Frag) : R2 := fun x y H Q => rI0 (fun i j => .bl (decide (i ≤ j))) x y H Q ∨ rLeT K x y H Q
theorem op_leA (hu : X.A.units < cLine) : OpR X (compareOp .LtE) (rLeA X.K) := op_le.or (op_leT hu)
theorem od_le : OpD K (r2 (rLeA K)) hLe := by
  intro ds vs G H le hs res e Q k
  unfold hLe at e
  split at e
  · cases e
    obtain ⟨v, w, rfl, h1, h2⟩ := sh2 hs
    exact .inl ⟨_, _, shInt h1, shInt h2, k _ dtBool⟩
  · obtain ⟨v, w, rfl, h1, h2⟩ := sh2 hs
    obtain ⟨ns, e1, e⟩ := bind_some e
    obtain ⟨ms, e2, e⟩ := bind_some e
    cases e
    obtain ⟨p, ws, rfl, q1, d1⟩ := shTup le h1
    obtain ⟨p2, ws2, rfl, q2, d2⟩ := shTup le h2
    rw [d1.ints e1] at q1
    rw [d2.ints e2] at q2
    exact .inr ⟨p, p2, ns, ms, rfl, rfl, q1, q2, k _ dtBool⟩
  · cases e
def hIsB (neg : Bool) : HD
  | [.bool a, .bool b] => some (.dat (.bool (if neg then !decide (a = b) else decide (a = b))))
  | _ => none
def rIsB (neg : Bool) : R2 := fun x y H Q => ∃ a b, x = .bl a ∧ y = .bl b ∧ Q (.bl (if neg then !decide (a = b) else decide (a = b))) H
theorem op_isBf : OpR X (compareOp .Is) (rIsB false) := op_is_bl
theorem op_isBt : OpR X (compareOp .IsNot) (rIsB true) := op_isnot_bl
theorem od_isB {neg : Bool} : OpD K (r2 (rIsB neg)) (hIsB neg) := by
  intro ds vs G H le hs res e Q k
  unfold hIsB at e
  split at e
  · cases e
    obtain ⟨v, w, rfl, h1, h2⟩ := sh2 hs
    exact ⟨_, _, shBool h1, shBool h2, k _ dtBool⟩
  · cases e
def isNone : PyData → Bool
  | .none => true
  | _ => false
def hIsN (neg : Bool) : HD
  | [d] => some (.dat (.bool (if neg then !isNone d else isNone d)))
  | _ => none
theorem shNonB {K : PySem.W.Frag} {G H : Hp} {d : PyData} {v : V} (h : ShD K G H d v) : decide (v = .non) = isNone d := by
  cases d with
  | none => rw [shNone h]; rfl
  | bool b => rw [shBool h]; rfl
  | int b => rw [shInt h]; rfl
  | str b => rw [shStr h]; rfl
  | list ds => obtain ⟨p, ws, rfl, _⟩ := shList h; rfl
  | tuple ds =>
    simp only [ShD, Dt] at h
    obtain ⟨p, ws, rfl, _⟩ := h
    rfl
  | dict ds => simp only [ShD, Dt] at h
def rIsN (neg : Bool) : V → Hp → VK → Prop := fun x H Q => Q (.bl (if neg then !decide (x = .non) else decide (x = .non))) H
theorem od_isN {neg : Bool} : OpD K (r1 (rIsN neg)) (hIsN neg) := by
  intro ds vs G H le hs res e Q k
  unfold hIsN at e
  split at e
  · cases e
    obtain ⟨v, rfl, h1⟩ := sh1 hs
    have := k _ dtBool
    rw [← shNonB h1] at this
    exact this
  · cases e
@[simp] def hIx : HD
  | [.list ds, .int i] => (atI ds i).map .dat
  | [.tuple ds, .int i] => (atI ds i).map .dat
  | [.str z, .int i] => if small z.length then (atI z.cps.toList i).map fun c => .dat (.str ⟨#[c]⟩) else none
  | _ => none
theorem atI_all {K : PySem.W.Frag} {G : Hp} {ds : List PyData} {vs : List V} {i : Int} {d : PyData} (h : DtAll K G ds vs) (e : atI ds i = some d) : ∃ v, atI vs i = some v ∧ Dt K G d v := by
  unfold atI at e ⊢
  obtain ⟨j, e1, e2⟩ := bind_some e
  obtain ⟨v, e3, h3⟩ := h.get e2
  refine ⟨v, ?_, h3⟩
  rw [← h.len, e1]
  exact e3
theorem od_ix : OpD K (r2 (rIx K)) hIx := by
  intro ds vs G H le hs res e Q k
  unfold hIx at e
  split at e
  · obtain ⟨v, w, rfl, h1, h2⟩ := sh2 hs
    obtain ⟨p, ws, rfl, q1, d1⟩ := shList h1
    rw [Option.map_eq_some_iff] at e
    obtain ⟨d, e, rfl⟩ := e
    obtain ⟨v, e1, h3⟩ := atI_all d1 e
    exact .inl ⟨p, ws, _, v, rfl, shInt h2, .inl q1, e1, k _ h3⟩
  · obtain ⟨v, w, rfl, h1, h2⟩ := sh2 hs
    obtain ⟨p, ws, rfl, q1, d1⟩ := shTup le h1
    rw [Option.map_eq_some_iff] at e
    obtain ⟨d, e, rfl⟩ := e
    obtain ⟨v, e1, h3⟩ := atI_all d1 e
    exact .inr (.inl ⟨p, ws, _, v, rfl, shInt h2, q1, e1, k _ h3⟩)
  · obtain ⟨v, w, rfl, h1, h2⟩ := sh2 hs
    split at e
    · rename_i hz
      rw [Option.map_eq_some_iff] at e
      obtain ⟨c, e, rfl⟩ := e
      exact .inr (.inr ⟨_, _, c, shStr h1, shInt h2, small_line hz, e, k _ dtStr⟩)
    · cases e
  · cases e
def cutD (xs : List PyData) (lo hi : Option Int) : List PyData := (xs.drop (HT.sIx xs.length 0 lo)).take (HT.sIx xs.length xs.length hi - HT.sIx xs.length 0 lo)
theorem DtAll.cut {K : PySem.W.Frag} {G : Hp} {ds : List PyData} {vs : List V} (h : DtAll K G ds vs) (lo hi : Option Int) : DtAll K G (cutD ds lo hi) (cutV vs lo hi) := by
  unfold cutD cutV
  rw [h.len]
  exact (h.drop _).take _
def hSl (l h : Option Int) : HD
  | [.list xs] => some (.nls (cutD xs l h))
  | [.tuple xs] => if HT.sIx xs.length 0 l = 0 ∧ HT.sIx xs.length xs.length h = xs.length then some (.dat (.tuple xs)) else some (.ntp (cutD xs l h))
  | [.str z] => if small z.length then some (.dat (.str (cutS z l h))) else none
  | _ => none
def rSlAll (K : PySem.W.Frag) : V → Option Int → Option Int → Hp → VK → Prop := fun x lo hi H Q => rSlL K x lo hi H Q ∨ rSlA K x lo hi H Q ∨ rSlS x lo hi H Q
theorem sl_all : SlR X (rSlAll X.K) := sl_list.or (sl_tupA.or sl_str)
theorem od_sl {l h : Option Int} : OpD K (r1 fun x H Q => rSlAll K x l h H Q) (hSl l h) := by
  intro ds vs G H le hs res e Q k
  unfold hSl at e
  split at e
  · cases e
    obtain ⟨v, rfl, h1⟩ := sh1 hs
    obtain ⟨p, ws, rfl, q1, d1⟩ := shList h1
    exact .inl ⟨p, ws, rfl, .inl q1, fun q hq => k q _ hq (d1.cut l h)⟩
  · rename_i xs
    obtain ⟨v, rfl, h1⟩ := sh1 hs
    have h1' := h1
    obtain ⟨p, ws, rfl, q1, d1⟩ := shTup le h1
    refine .inr (.inl ⟨p, ws, rfl, q1, fun z => ?_, fun z q hq => ?_⟩)
    · rw [← d1.len] at z
      rw [if_pos z] at e
      cases e
      exact k _ h1'
    · rw [← d1.len] at z
      rw [if_neg z] at e
      cases e
      exact k q _ hq (d1.cut l h)
  · obtain ⟨v, rfl, h1⟩ := sh1 hs
    split at e
    · rename_i hz
      cases e
      exact .inr (.inr ⟨_, shStr h1, small_line hz, k _ dtStr⟩)
    · cases e
  · cases e
@[simp] def hTup : HD := fun ds => if small ds.length then some (.ntp ds) else none
@[simp] def hLst : HD := fun ds => if small ds.length then some (.nls ds) else none
def rTup : RN := fun vs H Q => vs.length ≤ sizeLine ∧ ∀ p, H p = none → Q (.ref p) (upd H p (.tup vs))
def rLst : RN := fun vs H Q => vs.length ≤ sizeLine ∧ ∀ p, H p = none → Q (.ref p) (upd H p (.lst vs))
theorem ok_tup : OpK K rTup hTup := by
  intro ds vs G H le hs res e Q k
  unfold hTup at e
  split at e
  · rename_i hz
    cases e
    exact ⟨by rw [← hs.len]; exact small_line hz, fun p hp => k p vs hp hs⟩
  · cases e
theorem ok_lst : OpK K rLst hLst := by
  intro ds vs G H le hs res e Q k
  unfold hLst at e
  split at e
  · rename_i hz
    cases e
    exact ⟨by rw [← hs.len]; exact small_line hz, fun p hp => k p vs hp hs⟩
  · cases e
@[simp] def hLen : HD
  | [.list ds] => some (.dat (.int ds.length))
  | [.tuple ds] => some (.dat (.int ds.length))
  | [.str z] => if small z.length then some (.dat (.int z.length)) else none
  | _ => none
def rLenA (K : PySem.W.Frag) : RN := fun xs H Q => (∃ p ys, xs = [.ref p] ∧ (SqL K H p ys ∨ SqT K H p ys) ∧ Q (.int ys.length) H) ∨ (∃ z, xs = [.str z] ∧ z.length ≤ sizeLine ∧ Q (.int z.length) H)
theorem cr_len : CallR X (.builtin "len") (rLenA X.K) := call_len_seq.or call_len_str
theorem od_len : OpD K (rLenA K) hLen := by
  intro ds vs G H le hs res e Q k
  unfold hLen at e
  split at e
  · cases e
    obtain ⟨v, rfl, h1⟩ := sh1 hs
    obtain ⟨p, ws, rfl, q1, d1⟩ := shList h1
    refine .inl ⟨p, ws, rfl, .inl (.inl q1), ?_⟩
    rw [← d1.len]; exact k _ dtInt
  · cases e
    obtain ⟨v, rfl, h1⟩ := sh1 hs
    obtain ⟨p, ws, rfl, q1, d1⟩ := shTup le h1
    refine .inl ⟨p, ws, rfl, .inr q1, ?_⟩
    rw [← d1.len]; exact k _ dtInt
  · obtain ⟨v, rfl, h1⟩ := sh1 hs
    split at e
    · rename_i hz
      cases e
      exact .inr ⟨_, by rw [shStr h1], small_line hz, k _ dtInt⟩
    · cases e
  · cases e
@[simp] def hSum : HD
  | [.list ds] => (intsOf ds).map fun ns => .dat (.int ns.sum)
  | _ => none
theorem od_sum : OpD K (rSum K) hSum := by
  intro ds vs G H le hs res e Q k
  unfold hSum at e
  split at e
  · obtain ⟨v, rfl, h1⟩ := sh1 hs
    obtain ⟨p, ws, rfl, q1, d1⟩ := shList h1
    rw [Option.map_eq_some_iff] at e
    obtain ⟨ns, e, rfl⟩ := e
    rw [d1.ints e] at q1
    exact ⟨p, ns, rfl, .inl q1, k _ dtInt⟩
  · cases e
def hAny (all : Bool) : HD
  | [.list ds] => (bolsOf ds).map fun bs => .dat (.bool (if all then bs.all id else bs.any id))
  | _ => none
theorem od_any : OpD K (rAny K) (hAny false) := by
  intro ds vs G H le hs res e Q k
  unfold hAny at e
  split at e
  · obtain ⟨v, rfl, h1⟩ := sh1 hs
    obtain ⟨p, ws, rfl, q1, d1⟩ := shList h1
    rw [Option.map_eq_some_iff] at e
    obtain ⟨ns, e, rfl⟩ := e
    rw [d1.bols e] at q1
    exact ⟨p, ns, rfl, .inl q1, k _ dtBool⟩
  · cases e
theorem od_all : OpD K (rAll K) (hAny true) := by
  intro ds vs G H le hs res e Q k
  unfold hAny at e
  split at e
  · obtain ⟨v, rfl, h1⟩ := sh1 hs
    obtain ⟨p, ws, rfl, q1, d1⟩ := shList h1
    rw [Option.map_eq_some_iff] at e
    obtain ⟨ns, e, rfl⟩ := e
    rw [d1.bols e] at q1
    exact ⟨p, ns, rfl, .inl q1, k _ dtBool⟩
  · cases e
def hAbs : HD
  | [.int i] => some (.dat (.int (if i < 0 then -i else i)))
  | _ => none
abbrev rAbs : RN := fun xs H Q => ∃ i, xs = [.int i] ∧ Q (.int (if i < 0 then -i else i)) H
theorem od_abs : OpD K rAbs hAbs := by
  intro ds vs G H le hs res e Q k
  unfold hAbs at e
  split at e
  · cases e
    obtain ⟨v, rfl, h1⟩ := sh1 hs
    exact ⟨_, by rw [shInt h1], k _ dtInt⟩
  · cases e
@[simp] def hMax : HD
  | [.int i, .int j] => some (.dat (.int (if j > i then j else i)))
  | _ => none
@[simp] def hMin : HD
  | [.int i, .int j] => some (.dat (.int (if j < i then j else i)))
  | _ => none
abbrev rMax2 : RN := fun xs H Q => ∃ i j, xs = [.int i, .int j] ∧ Q (.int (if j > i then j else i)) H
abbrev rMin2 : RN := fun xs H Q => ∃ i j, xs = [.int i, .int j] ∧ Q (.int (if j < i then j else i)) H
theorem od_max : OpD K rMax2 hMax := by
  intro ds vs G H le hs res e Q k
  unfold hMax at e
  split at e
  · cases e
    obtain ⟨v, w, rfl, h1, h2⟩ := sh2 hs
    exact ⟨_, _, by rw [shInt h1, shInt h2], k _ dtInt⟩
  · cases e
theorem od_min : OpD K rMin2 hMin := by
  intro ds vs G H le hs res e Q k
  unfold hMin at e
  split at e
  · cases e
    obtain ⟨v, w, rfl, h1, h2⟩ := sh2 hs
    exact ⟨_, _, by rw [shInt h1, shInt h2], k _ dtInt⟩
  · cases e
@[simp] def hInt : HD
  | [.int i] => some (.dat (.int i))
  | [.bool b] => some (.dat (.int (if b then 1 else 0)))
  | _ => none
abbrev rInt : RN := fun xs H Q => (∃ i, xs = [.int i] ∧ Q (.int i) H) ∨ ∃ k, xs = [.bl k] ∧ Q (.int (if k then 1 else 0)) H
theorem od_int : OpD K rInt hInt := by
  intro ds vs G H le hs res e Q k
  unfold hInt at e
  split at e
  · cases e
    obtain ⟨v, rfl, h1⟩ := sh1 hs
    exact .inl ⟨_, by rw [shInt h1], k _ dtInt⟩
  · cases e
    obtain ⟨v, rfl, h1⟩ := sh1 hs
    exact .inr ⟨_, by rw [shBool h1], k _ dtInt⟩
  · cases e
@[simp] def hList : HD
  | [.list ds] => some (.nls ds)
  | [.tuple ds] => some (.nls ds)
  | _ => none
abbrev rListA (K : PySem.W.Frag) : RN := fun xs H Q => ∃ p ys, xs = [.ref p] ∧ (SqL K H p ys ∨ SqT K H p ys) ∧ ∀ l, H l = none → Q (.ref l) (upd H l (.lst ys))
theorem od_list : OpD K (rListA K) hList := by
  intro ds vs G H le hs res e Q k
  unfold hList at e
  split at e
  · cases e
    obtain ⟨v, rfl, h1⟩ := sh1 hs
    obtain ⟨p, ws, rfl, q1, d1⟩ := shList h1
    exact ⟨p, ws, rfl, .inl (.inl q1), fun q hq => k q ws hq d1⟩
  · cases e
    obtain ⟨v, rfl, h1⟩ := sh1 hs
    obtain ⟨p, ws, rfl, q1, d1⟩ := shTup le h1
    exact ⟨p, ws, rfl, .inr q1, fun q hq => k q ws hq d1⟩
  · cases e
@[simp] def hTuple : HD
  | [.list ds] => some (.ntp ds)
  | [.tuple ds] => some (.dat (.tuple ds))
  | _ => none
abbrev rTupleA (K : PySem.W.Frag) : RN := fun xs H Q => ∃ p ys, xs = [.ref p] ∧ ((SqL K H p ys ∧ ∀ l, H l = none → Q (.ref l) (upd H l (.tup ys))) ∨ (SqT K H p ys ∧ Q (.ref p) H))
theorem od_tuple : OpD K (rTupleA K) hTuple := by
  intro ds vs G H le hs res e Q k
  unfold hTuple at e
  split at e
  · cases e
    obtain ⟨v, rfl, h1⟩ := sh1 hs
    obtain ⟨p, ws, rfl, q1, d1⟩ := shList h1
    exact ⟨p, ws, rfl, .inl ⟨.inl q1, fun q hq => k q ws hq d1⟩⟩
  · cases e
    obtain ⟨v, rfl, h1⟩ := sh1 hs
    have h1' := h1
    obtain ⟨p, ws, rfl, q1, d1⟩ := shTup le h1
    exact ⟨p, ws, rfl, .inr ⟨q1, k _ h1'⟩⟩
  · cases e
def tyName : PyData → String
  | .none => "NoneType"
  | .bool _ => "bool"
  | .int _ => "int"
  | .str _ => "str"
  | .list _ => "list"
  | .tuple _ => "tuple"
  | .dict _ => "dict"
theorem shTy {G H : Hp} (le : ∀ a o, G a = some o → H a = some o) {d : PyData} {v : V} (h : ShD K G H d v) : TyX K H v (.type (tyName d)) := by
  cases d with
  | none => rw [shNone h]; exact .base .non
  | bool b => rw [shBool h]; exact .base (.bl b)
  | int b => rw [shInt h]; exact .base (.int b)
  | str b => rw [shStr h]; exact .base (.str b)
  | list ds =>
    obtain ⟨p, ws, rfl, q, _⟩ := shList h
    rcases q with q | ⟨o, q⟩
    · exact .base (.lst q)
    · exact .base (.frz q)
  | tuple ds =>
    obtain ⟨p, ws, rfl, q, _⟩ := shTup le h
    rcases q with (q | ⟨o, q⟩) | ⟨o, its, n, e, c, _⟩
    · exact .base (.tup q)
    · exact .fTuple q
    · exact .kTuple e c
  | dict ds => simp only [ShD, Dt] at h
inductive Cl where
  | int | bool | str | list | tuple
  deriving DecidableEq
def Cl.name : Cl → String
  | .int => "int"
  | .bool => "bool"
  | .str => "str"
  | .list => "list"
  | .tuple => "tuple"
@[simp] def isiB : PyData → Cl → Bool
  | .bool _, .bool => true
  | .bool _, .int => true
  | .int _, .int => true
  | .str _, .str => true
  | .list _, .list => true
  | .tuple _, .tuple => true
  | _, _ => false
theorem isi_kit {d : PyData} {c : Cl} (hd : ∀ kvs, d ≠ .dict kvs) : kitB (tyName d) c.name = some (isiB d c) := by
  cases c <;> cases d <;> first | exact absurd rfl (hd _) | (simp only [tyName, isiB, Cl.name]; decide +kernel)
@[simp] def hIsi (c : Cl) : HD
  | [d] => some (.dat (.bool (isiB d c)))
  | _ => none
def rIsi1 (K : PySem.W.Frag) (c : Cl) : RN := fun vs H Q => match vs with
  | [x] => rIsi K [x, .ty c.name] H Q
  | _ => False
theorem shNoDict {G H : Hp} {d : PyData} {v : V} (h : ShD K G H d v) : ∀ kvs, d ≠ .dict kvs := fun kvs e => by
  subst e
  simp only [ShD, Dt] at h
theorem od_isi {c : Cl} : OpD K (rIsi1 K c) (hIsi c) := by
  intro ds vs G H le hs res e Q k
  unfold hIsi at e
  split at e
  · obtain ⟨v, rfl, h1⟩ := sh1 hs
    cases e
    exact ⟨v, .ty c.name, _, _, _, rfl, .ty c.name, shTy le h1, kit_ty (isi_kit (shNoDict h1)), k _ dtBool⟩
  · cases e
def rIsiA (K : PySem.W.Frag) (cs : List Cl) : RN := fun vs H Q => match vs with
  | [x] => (cs.map fun c => V.ty c.name).length ≤ sizeLine ∧ ∀ p, H p = none → rIsiT K [x, .ref p] (upd H p (.tup (cs.map fun c => V.ty c.name))) Q
  | _ => False
def φIsiA (cs : List Cl) : Φ := fun xs => (eraseAll xs).bind fun ds => match ds with
  | [d] => if small cs.length then some (.fz (.bool (cs.any (isiB d))), xs.map shal) else none
  | _ => none
theorem kitAny_all {d : PyData} (hd : ∀ kvs, d ≠ .dict kvs) : ∀ cs : List Cl, PySem.W.kitAny K (.type (tyName d)) (cs.map fun c => Value.type c.name) = some (cs.any (isiB d))
  | [] => rfl
  | c :: cs => by
    rw [List.map_cons, List.any_cons]
    exact kitAny_cons (b := isiB d c) (kit_ty (isi_kit hd)) (fun e => by rw [e, Bool.false_or]; exact kitAny_all hd cs) fun e => by rw [e]; rfl
theorem clsAll : ∀ cs : List Cl, Paired ClsV (cs.map fun c => V.ty c.name) (cs.map fun c => Value.type c.name)
  | [] => .nil
  | c :: cs => .cons (.ty c.name) (clsAll cs)
theorem os_isiA {cs : List Cl} : OpSem K (rIsiA K cs) (φIsiA cs) := by
  intro vs xs F G H ho ok x ys e Q k
  obtain ⟨ds, e1, e⟩ := bind_some e
  split at e
  · rename_i d
    split at e
    · rename_i hz
      simp only [Option.some.injEq, Prod.mk.injEq] at e
      obtain ⟨rfl, rfl⟩ := e
      obtain ⟨FR, FI, f, z⟩ := shalAll_ok ho e1
      have ok1 : Ok G H (fun a => FI a + FR a) := ok.congr fun a => by have := f a; show FI a + FR a = F a; omega
      obtain ⟨ok2, fr2⟩ := thaw_ok ok1
      obtain ⟨y1, y2⟩ := z (thaw G H FI) (thaw_le ok1) ok2.le thaw_at
      obtain ⟨v, rfl, h1⟩ := sh1 y2
      refine ⟨by rw [List.length_map]; exact small_line hz, fun p hp => ?_⟩
      obtain ⟨a1, a2, a3⟩ := ok_new (o := .tup (cs.map fun c => V.ty c.name)) ok2 hp
      have hty : TyX K (upd H p (.tup (cs.map fun c => V.ty c.name))) v (.type (tyName d)) := by
        refine shTy (G := thaw G H FI) (fun a o h => a1.le a o (a2.g a o h)) ?_
        cases d with
        | list es =>
          obtain ⟨q, ws, rfl, r, dd⟩ := shList h1
          refine ⟨q, ws, rfl, rd_mono (fun a o hh => ?_) r, dd⟩
          rw [upd_ne (fun e => by subst e; rw [hh] at hp; cases hp)]; exact hh
        | none => exact h1
        | bool _ => exact h1
        | int _ => exact h1
        | str _ => exact h1
        | tuple _ => exact h1
        | dict _ => exact h1
      refine ⟨v, p, _, _, _, _, rfl, upd_same, clsAll cs, hty, kitAny_all (shNoDict h1) cs, ?_⟩
      refine k (.bl (cs.any (isiB d))) (fun _ => 0) FR _ _ (Own.ofD dtBool) (OwnAll.mono a2.g _ _ _ y1 a3) ?_ ?_
      · exact a1.sub fun a => show 0 + FR a ≤ FR a by omega
      · refine ((fr2.congr (F1 := F) (fun a => ?_) fun _ => rfl).trans a2).sub fun a => show 0 + FR a ≤ FR a by omega
        have := f a; show F a = FI a + FR a; omega
    · cases e
  · cases e
end
end MP
namespace MP
open PySem L2
variable [LamT]
section
variable {K : PySem.W.Frag}
@[simp] def mC (d : PyData) : M := fun ρ => some (.fz d, ρ)
theorem sim_c {d : PyData} {v : V} (h : Dt K (fun _ => none) d v) : Sim K (tC v) (mC d) := by
  intro σ ρ F G H hE ok x ρ' e Q k
  simp only [mC, Option.some.injEq, Prod.mk.injEq] at e
  obtain ⟨rfl, rfl⟩ := e
  exact k v (fun _ => 0) F G H (Own.ofD (Dt.mono (fun _ _ z => by cases z) d v h)) hE (ok.congr fun a => by simp) ((Fr.refl ok).congr (fun _ => rfl) fun a => by simp)
@[simp] def mVar (i : Nat) : M := fun ρ => match ρ[i]? with
  | some (some x) => (erase x).bind fun d => some (.fz d, ρ.set i (some (.fz d)))
  | _ => none
theorem sim_var {i : Nat} : Sim K (tVar i) (mVar i) := by
  intro σ ρ F G H hE ok x ρ' e Q k
  unfold mVar at e
  cases q : ρ[i]? with
  | none => rw [q] at e; cases e
  | some o =>
    cases o with
    | none => rw [q] at e; cases e
    | some y =>
      rw [q] at e
      obtain ⟨d, e1, e⟩ := bind_some e
      simp only [Option.some.injEq, Prod.mk.injEq] at e
      obtain ⟨rfl, rfl⟩ := e
      obtain ⟨v, F1, F2, h1, h2, h3, f⟩ := hE.take q
      have ok1 : Ok G H (fun a => F1 a + F2 a) := ok.congr fun a => (f a).symm
      obtain ⟨ok2, fr2⟩ := thaw_ok ok1
      have hd := Own.frz (thaw_le ok1) y v F1 d h2 e1 thaw_at
      have hE2 := (OwnE.mono (thaw_le ok1) _ σ F2 h3 fun _ _ => rfl)
      have hi : (ρ.set i none)[i]? = some none := by
        rw [List.getElem?_set_self]
        exact (List.getElem?_eq_some_iff.mp q).1
      have hE3 := hE2.put (x := .fz d) hi h1 (Own.ofD hd)
      rw [List.set_set] at hE3
      refine ⟨v, h1, k v (fun _ => 0) _ (thaw G H F1) H (Own.ofD hd) hE3 (ok2.congr fun a => by simp) ((fr2.congr (fun a => ?_) fun _ => rfl).congr (fun _ => rfl) fun a => by simp)⟩
      exact f a
abbrev MT := Sl → Option (Bool × Sl)
def SimT (K : PySem.W.Frag) (t : TT) (f : MT) : Prop :=
  ∀ (σ : St) (ρ : Sl) (F : FP) (G : Hp) (H : Hp), OwnE K G H ρ σ F → Ok G H F → ∀ b ρ', f ρ = some (b, ρ') → ∀ Q : Bool → Hp → Prop,
    (∀ F' (G' : Hp) H', OwnE K G' H' ρ' σ F' → Ok G' H' F' → Fr G H F G' H' F' → Q b H') → t σ H Q
@[simp] def tru : PyData → Option Bool
  | .none => some false
  | .bool b => some b
  | .int i => some (i != 0)
  | .str z => if small z.length then some ((z.length : Int) != 0) else none
  | .list ds => some (!ds.isEmpty)
  | .tuple ds => some (!ds.isEmpty)
  | .dict _ => none
theorem isEmpty_all {G : Hp} {ds : List PyData} {vs : List V} (h : DtAll K G ds vs) : ds.isEmpty = vs.isEmpty := by
  cases ds with
  | nil => simp only [DtAll] at h; subst h; rfl
  | cons d ds => simp only [DtAll] at h; obtain ⟨v, r, rfl, _⟩ := h; rfl
theorem tru_of {G H : Hp} (le : ∀ a o, G a = some o → H a = some o) {d : PyData} {v : V} {b : Bool} (h : Dt K G d v) (e : tru d = some b) : TruV K v H b := by
  cases d with
  | none => simp only [Dt] at h; subst h; simp only [tru, Option.some.injEq] at e; exact e.symm
  | bool c => simp only [Dt] at h; subst h; simp only [tru, Option.some.injEq] at e; exact e.symm
  | int c => simp only [Dt] at h; subst h; simp only [tru, Option.some.injEq] at e; exact e.symm
  | str z =>
    simp only [Dt] at h; subst h
    simp only [tru] at e
    split at e
    · rename_i hz
      simp only [Option.some.injEq] at e
      exact ⟨small_line hz, e.symm⟩
    · cases e
  | list ds =>
    simp only [Dt] at h
    obtain ⟨p, ws, rfl, q, r⟩ := h
    simp only [tru, Option.some.injEq] at e
    exact .inl ⟨ws, .inl (rd_mono le q), by rw [← e, isEmpty_all r]⟩
  | tuple ds =>
    simp only [Dt] at h
    obtain ⟨p, ws, rfl, q, r⟩ := h
    simp only [tru, Option.some.injEq] at e
    exact .inr (.inl ⟨ws, sqT_mono le q, by rw [← e, isEmpty_all r]⟩)
  | dict _ => simp only [Dt] at h
theorem tru_own {G : Hp} {H : Hp} {F : FP} (ok : Ok G H F) {x : Vl} {v : V} {d : PyData} {b : Bool} {Fx : FP} (h : Own K G H x v Fx) (e1 : erase x = some d) (e : tru d = some b) : TruV K v H b :=
  tru_of (fun _ _ h => h) (Own.frz ok.le x v Fx d h e1 fun _ _ => rfl) e
@[simp] def mTru (f : M) : MT := fun ρ => (f ρ).bind fun p => (erase p.1).bind fun d => (tru d).bind fun b => some (b, p.2)
def tTru (K : PySem.W.Frag) (ta : TE) : TT := fun σ H Q => ta σ H fun x H' => ∃ k, TruV K x H' k ∧ Q k H'
theorem st_tru {t : TE} {f : M} (h : Sim K t f) : SimT K (tTru K t) (mTru f) := by
  intro σ ρ F G H hE ok b ρ' e Q k
  obtain ⟨⟨x, ρ1⟩, e1, e⟩ := bind_some e
  obtain ⟨d, e2, e⟩ := bind_some e
  obtain ⟨b', e3, e⟩ := bind_some e
  simp only [Option.some.injEq, Prod.mk.injEq] at e
  obtain ⟨rfl, rfl⟩ := e
  refine h σ ρ F G H hE ok x ρ1 e1 _ fun v Fx F1 G1 H1 o1 E1 ok1 fr1 => ?_
  refine ⟨b', tru_own ok1 o1 e2 e3, k F1 G1 H1 E1 (ok1.sub fun a => by omega) (fr1.sub fun a => by omega)⟩
@[simp] def mBl (f : M) : MT := fun ρ => (f ρ).bind fun p => match p.1 with
  | .fz (.bool b) => some (b, p.2)
  | _ => none
theorem st_bl {t : TE} {f : M} (h : Sim K t f) : SimT K (tTest t) (mBl f) := by
  intro σ ρ F G H hE ok b ρ' e Q k
  obtain ⟨⟨x, ρ1⟩, e1, e⟩ := bind_some e
  refine h σ ρ F G H hE ok x ρ1 e1 _ fun v Fx F1 G1 H1 o1 E1 ok1 fr1 => ?_
  simp only at e
  split at e
  · simp only [Option.some.injEq, Prod.mk.injEq] at e
    obtain ⟨rfl, rfl⟩ := e
    have hv := o1.fzF
    simp only [Dt] at hv
    exact ⟨_, hv, k F1 G1 H1 E1 (ok1.sub fun a => by omega) (fr1.sub fun a => by omega)⟩
  · cases e
@[simp] def mAnd (f g : MT) : MT := fun ρ => (f ρ).bind fun p => if p.1 then g p.2 else some (false, p.2)
@[simp] def mOr (f g : MT) : MT := fun ρ => (f ρ).bind fun p => if p.1 then some (true, p.2) else g p.2
@[simp] def mNot (f : MT) : MT := fun ρ => (f ρ).bind fun p => some (!p.1, p.2)
theorem st_and {t u : TT} {f g : MT} (h : SimT K t f) (h2 : SimT K u g) : SimT K (tAnd t u) (mAnd f g) := by
  intro σ ρ F G H hE ok b ρ' e Q k
  obtain ⟨⟨c, ρ1⟩, e1, e⟩ := bind_some e
  refine h σ ρ F G H hE ok c ρ1 e1 _ fun F1 G1 H1 E1 ok1 fr1 => ?_
  cases c with
  | true =>
    simp only [if_true] at e ⊢
    exact h2 σ ρ1 F1 G1 H1 E1 ok1 b ρ' e Q fun F2 G2 H2 E2 ok2 fr2 => k F2 G2 H2 E2 ok2 (fr1.trans fr2)
  | false =>
    simp only [Bool.false_eq_true, if_false, Option.some.injEq, Prod.mk.injEq] at e ⊢
    obtain ⟨rfl, rfl⟩ := e
    exact k F1 G1 H1 E1 ok1 fr1
theorem st_or {t u : TT} {f g : MT} (h : SimT K t f) (h2 : SimT K u g) : SimT K (tOr t u) (mOr f g) := by
  intro σ ρ F G H hE ok b ρ' e Q k
  obtain ⟨⟨c, ρ1⟩, e1, e⟩ := bind_some e
  refine h σ ρ F G H hE ok c ρ1 e1 _ fun F1 G1 H1 E1 ok1 fr1 => ?_
  cases c with
  | false =>
    simp only [Bool.false_eq_true, if_false] at e ⊢
    exact h2 σ ρ1 F1 G1 H1 E1 ok1 b ρ' e Q fun F2 G2 H2 E2 ok2 fr2 => k F2 G2 H2 E2 ok2 (fr1.trans fr2)
  | true =>
    simp only [if_true, Option.some.injEq, Prod.mk.injEq] at e ⊢
    obtain ⟨rfl, rfl⟩ := e
    exact k F1 G1 H1 E1 ok1 fr1
theorem st_not {t : TT} {f : MT} (h : SimT K t f) : SimT K (tNot t) (mNot f) := by
  intro σ ρ F G H hE ok b ρ' e Q k
  obtain ⟨⟨c, ρ1⟩, e1, e⟩ := bind_some e
  simp only [Option.some.injEq, Prod.mk.injEq] at e
  obtain ⟨rfl, rfl⟩ := e
  exact h σ ρ F G H hE ok c ρ1 e1 _ fun F1 G1 H1 E1 ok1 fr1 => k F1 G1 H1 E1 ok1 fr1
@[simp] def mIf (t : MT) (f g : M) : M := fun ρ => (t ρ).bind fun p => if p.1 then f p.2 else g p.2
theorem sim_if {t : TT} {ta tb : TE} {c : MT} {f g : M} (h : SimT K t c) (h1 : Sim K ta f) (h2 : Sim K tb g) : Sim K (tIf t ta tb) (mIf c f g) := by
  intro σ ρ F G H hE ok x ρ' e Q k
  obtain ⟨⟨b, ρ1⟩, e1, e⟩ := bind_some e
  refine h σ ρ F G H hE ok b ρ1 e1 _ fun F1 G1 H1 E1 ok1 fr1 => ?_
  cases b with
  | true =>
    simp only [if_true] at e ⊢
    exact h1 σ ρ1 F1 G1 H1 E1 ok1 x ρ' e Q fun v Fx F2 G2 H2 o2 E2 ok2 fr2 => k v Fx F2 G2 H2 o2 E2 ok2 (fr1.trans fr2)
  | false =>
    simp only [Bool.false_eq_true, if_false] at e ⊢
    exact h2 σ ρ1 F1 G1 H1 E1 ok1 x ρ' e Q fun v Fx F2 G2 H2 o2 E2 ok2 fr2 => k v Fx F2 G2 H2 o2 E2 ok2 (fr1.trans fr2)
@[simp] def mAndV (f g : M) : M := fun ρ => (f ρ).bind fun p => (erase p.1).bind fun d => (tru d).bind fun b => if b then g p.2 else some p
@[simp] def mOrV (f g : M) : M := fun ρ => (f ρ).bind fun p => (erase p.1).bind fun d => (tru d).bind fun b => if b then some p else g p.2
@[simp] def mNotV (f : M) : M := fun ρ => (f ρ).bind fun p => (erase p.1).bind fun d => (tru d).bind fun b => some (.fz (.bool (!b)), p.2)
theorem sim_andV {ta tb : TE} {f g : M} (h1 : Sim K ta f) (h2 : Sim K tb g) : Sim K (tAndT K ta tb) (mAndV f g) := by
  intro σ ρ F G H hE ok x ρ' e Q k
  obtain ⟨⟨y, ρ1⟩, e1, e⟩ := bind_some e
  obtain ⟨d, e2, e⟩ := bind_some e
  obtain ⟨b, e3, e⟩ := bind_some e
  refine h1 σ ρ F G H hE ok y ρ1 e1 _ fun v Fx F1 G1 H1 o1 E1 ok1 fr1 => ?_
  refine ⟨b, tru_own ok1 o1 e2 e3, ?_⟩
  cases b with
  | true =>
    simp only [if_true] at e ⊢
    exact h2 σ ρ1 F1 G1 H1 E1 (ok1.sub fun a => by omega) x ρ' e Q fun v2 Fx2 F2 G2 H2 o2 E2 ok2 fr2 => k v2 Fx2 F2 G2 H2 o2 E2 ok2 ((fr1.sub fun a => by omega).trans fr2)
  | false =>
    simp only [Bool.false_eq_true, if_false, Option.some.injEq, Prod.mk.injEq] at e ⊢
    obtain ⟨rfl, rfl⟩ := e
    exact k v Fx F1 G1 H1 o1 E1 ok1 fr1
theorem sim_orV {ta tb : TE} {f g : M} (h1 : Sim K ta f) (h2 : Sim K tb g) : Sim K (tOrT K ta tb) (mOrV f g) := by
  intro σ ρ F G H hE ok x ρ' e Q k
  obtain ⟨⟨y, ρ1⟩, e1, e⟩ := bind_some e
  obtain ⟨d, e2, e⟩ := bind_some e
  obtain ⟨b, e3, e⟩ := bind_some e
  refine h1 σ ρ F G H hE ok y ρ1 e1 _ fun v Fx F1 G1 H1 o1 E1 ok1 fr1 => ?_
  refine ⟨b, tru_own ok1 o1 e2 e3, ?_⟩
  cases b with
  | false =>
    simp only [Bool.false_eq_true, if_false] at e ⊢
    exact h2 σ ρ1 F1 G1 H1 E1 (ok1.sub fun a => by omega) x ρ' e Q fun v2 Fx2 F2 G2 H2 o2 E2 ok2 fr2 => k v2 Fx2 F2 G2 H2 o2 E2 ok2 ((fr1.sub fun a => by omega).trans fr2)
  | true =>
    simp only [if_true, Option.some.injEq, Prod.mk.injEq] at e ⊢
    obtain ⟨rfl, rfl⟩ := e
    exact k v Fx F1 G1 H1 o1 E1 ok1 fr1
theorem sim_notV {ta : TE} {f : M} (h1 : Sim K ta f) : Sim K (tNotT K ta) (mNotV f) := by
  intro σ ρ F G H hE ok x ρ' e Q k
  obtain ⟨⟨y, ρ1⟩, e1, e⟩ := bind_some e
  obtain ⟨d, e2, e⟩ := bind_some e
  obtain ⟨b, e3, e⟩ := bind_some e
  simp only [Option.some.injEq, Prod.mk.injEq] at e
  obtain ⟨rfl, rfl⟩ := e
  refine h1 σ ρ F G H hE ok y ρ1 e1 _ fun v Fx F1 G1 H1 o1 E1 ok1 fr1 => ?_
  refine ⟨b, tru_own ok1 o1 e2 e3, ?_⟩
  exact k _ (fun _ => 0) F1 G1 H1 (Own.ofD dtBool) E1 (ok1.sub fun a => show 0 + F1 a ≤ Fx a + F1 a by omega) (fr1.sub fun a => show 0 + F1 a ≤ Fx a + F1 a by omega)
def mChain (p q : Int → Int → Bool) (f g h : M) : M := fun ρ => (f ρ).bind fun x => (g x.2).bind fun y => match x.1, y.1 with
  | .fz (.int i), .fz (.int j) => if p i j then (h y.2).bind fun z => match z.1 with
      | .fz (.int k) => some (.fz (.bool (q j k)), z.2)
      | _ => none
    else some (.fz (.bool false), y.2)
  | _, _ => none
theorem sim_chain {p q : Int → Int → Bool} {ta tb tc : TE} {f g h : M} (h1 : Sim K ta f) (h2 : Sim K tb g) (h3 : Sim K tc h) :
    Sim K (tChain (rI0 fun i j => .bl (p i j)) (rI0 fun i j => .bl (q i j)) ta tb tc) (mChain p q f g h) := by
  intro σ ρ F G H hE ok x ρ' e Q k
  obtain ⟨⟨x1, ρ1⟩, e1, ea⟩ := bind_some e
  obtain ⟨⟨x2, ρ2⟩, e2, eb⟩ := bind_some ea
  clear e ea
  have e := eb
  clear eb
  simp only at e
  refine h1 σ ρ F G H hE ok x1 ρ1 e1 _ fun v1 Fx F1 G1 H1 o1 E1 ok1 fr1 => ?_
  have ok1' := ok1.sub (F' := F1) fun a => by omega
  have fr1' := fr1.sub (F2 := F1) fun a => by omega
  refine h2 σ ρ1 F1 G1 H1 E1 ok1' x2 ρ2 e2 _ fun v2 Fx2 F2 G2 H2 o2 E2 ok2 fr2 => ?_
  have ok2' := ok2.sub (F' := F2) fun a => by omega
  have fr2' := fr1'.trans (fr2.sub (F2 := F2) fun a => by omega)
  split at e
  · next i j =>
    have a1 := o1.fzF
    have a2 := o2.fzF
    simp only [Dt] at a1 a2
    refine ⟨i, j, a1, a2, p i j, rfl, ?_⟩
    cases hp : p i j with
    | true =>
      rw [hp] at e
      simp only [if_true] at e ⊢
      obtain ⟨⟨x3, ρ3⟩, e3, e⟩ := bind_some e
      refine h3 σ ρ2 F2 G2 H2 E2 ok2' x3 ρ3 e3 _ fun v3 Fx3 F3 G3 H3 o3 E3 ok3 fr3 => ?_
      simp only at e
      split at e
      · simp only [Option.some.injEq, Prod.mk.injEq] at e
        obtain ⟨rfl, rfl⟩ := e
        have a3 := o3.fzF
        simp only [Dt] at a3
        exact ⟨j, _, a2, a3, k _ (fun _ => 0) F3 G3 H3 (Own.ofD dtBool) E3 (ok3.sub fun a => show 0 + F3 a ≤ Fx3 a + F3 a by omega) (fr2'.trans (fr3.sub fun a => show 0 + F3 a ≤ Fx3 a + F3 a by omega))⟩
      · cases e
    | false =>
      rw [hp] at e
      simp only [Bool.false_eq_true, if_false, Option.some.injEq, Prod.mk.injEq] at e ⊢
      obtain ⟨rfl, rfl⟩ := e
      exact k _ (fun _ => 0) F2 G2 H2 (Own.ofD dtBool) E2 (ok2'.congr fun a => by simp) (fr2'.congr (fun _ => rfl) fun a => by simp)
  · cases e
abbrev MO := Sl → Option (Ag × Sl)
def SimO (K : PySem.W.Frag) (t : TE) (f : MO) : Prop :=
  ∀ (σ : St) (ρ : Sl) (F : FP) (G : Hp) (H : Hp), OwnE K G H ρ σ F → Ok G H F → ∀ u ρ', f ρ = some (u, ρ') → ∀ Q : VK,
    (∀ v Fa F' (G' : Hp) H', AgOk K G' H' σ [u] [v] Fa → OwnE K G' H' ρ' σ F' → Ok G' H' (fun a => Fa a + F' a) → Fr G H F G' H' (fun a => Fa a + F' a) → Q v H') → t σ H Q
@[simp] def oEx (f : M) : MO := fun ρ => (f ρ).bind fun p => some (.tm p.1, p.2)
@[simp] def oNm (i : Nat) : MO := fun ρ => (aNm i aNil ρ).bind fun p => match p.1 with
  | [u] => some (u, p.2)
  | _ => none
theorem so_ex {t : TE} {f : M} (h : Sim K t f) : SimO K t (oEx f) := by
  intro σ ρ F G H hE ok u ρ' e Q k
  obtain ⟨⟨x, ρ1⟩, e1, e⟩ := bind_some e
  simp only [Option.some.injEq, Prod.mk.injEq] at e
  obtain ⟨rfl, rfl⟩ := e
  exact h σ ρ F G H hE ok x ρ1 e1 Q fun v Fx F1 G1 H1 o1 E1 ok1 fr1 => k v Fx F1 G1 H1 ⟨v, [], Fx, fun _ => 0, rfl, o1, ⟨rfl, fun _ => rfl⟩, fun a => by simp⟩ E1 ok1 fr1
theorem so_nm {i : Nat} : SimO K (tVar i) (oNm i) := by
  intro σ ρ F G H hE ok u ρ' e Q k
  obtain ⟨⟨us, ρ1⟩, e1, e⟩ := bind_some e
  simp only at e
  split at e
  · rename_i u'
    simp only [Option.some.injEq, Prod.mk.injEq] at e
    obtain ⟨rfl, rfl⟩ := e
    have h := sa_nm (K := K) sa_nil σ ρ F G H hE ok [u'] _ e1 (fun vs H' => ∀ v, vs = [v] → Q v H') fun vs Fa F' G' H' o1 E1 ok1 fr1 v e => by
      subst e
      exact k v Fa F' G' H' o1 E1 ok1 fr1
    obtain ⟨v, hv, h⟩ := h
    exact ⟨v, hv, h v rfl⟩
  · cases e
abbrev MI := Sl → Option (Option Int × Sl)
def SimI (K : PySem.W.Frag) (t : TO) (f : MI) : Prop :=
  ∀ (σ : St) (ρ : Sl) (F : FP) (G : Hp) (H : Hp), OwnE K G H ρ σ F → Ok G H F → ∀ i ρ', f ρ = some (i, ρ') → ∀ Q : Option Int → Hp → Prop,
    (∀ F' (G' : Hp) H', OwnE K G' H' ρ' σ F' → Ok G' H' F' → Fr G H F G' H' F' → Q i H') → t σ H Q
@[simp] def iNo : MI := fun ρ => some (none, ρ)
@[simp] def iSo (f : M) : MI := fun ρ => (f ρ).bind fun p => match p.1 with
  | .fz (.int i) => some (some i, p.2)
  | _ => none
theorem si_no : SimI K tNoPart iNo := by
  intro σ ρ F G H hE ok i ρ' e Q k
  simp only [iNo, Option.some.injEq, Prod.mk.injEq] at e
  obtain ⟨rfl, rfl⟩ := e
  exact k F G H hE ok (Fr.refl ok)
theorem si_so {t : TE} {f : M} (h : Sim K t f) : SimI K (tPart t) (iSo f) := by
  intro σ ρ F G H hE ok i ρ' e Q k
  obtain ⟨⟨x, ρ1⟩, e1, e⟩ := bind_some e
  refine h σ ρ F G H hE ok x ρ1 e1 _ fun v Fx F1 G1 H1 o1 E1 ok1 fr1 => ?_
  simp only at e
  split at e
  · simp only [Option.some.injEq, Prod.mk.injEq] at e
    obtain ⟨rfl, rfl⟩ := e
    have hv := o1.fzF
    simp only [Dt] at hv
    exact ⟨_, hv, k F1 G1 H1 E1 (ok1.sub fun a => by omega) (fr1.sub fun a => by omega)⟩
  · cases e
@[simp] noncomputable def mSl (o : MO) (lo hi : MI) : M := fun ρ => (o ρ).bind fun u => (lo u.2).bind fun l => (hi l.2).bind fun h => (takeA [u.1] h.2).bind fun q => (φD (hSl l.1 h.1) q.1).bind fun z => (putA [u.1] z.2 q.2).bind fun ρ' => some (z.1, ρ')
theorem sim_sl {te : TE} {tl th : TO} {o : MO} {lo hi : MI} (h1 : SimO K te o) (h2 : SimI K tl lo) (h3 : SimI K th hi) : Sim K (tSl (rSlAll K) te tl th) (mSl o lo hi) := by
  intro σ ρ F G H hE ok x ρ' e Q k
  obtain ⟨⟨u, ρ1⟩, e1, e⟩ := bind_some e
  obtain ⟨⟨l, ρ2⟩, e2, e⟩ := bind_some e
  obtain ⟨⟨h, ρ3⟩, e3, e⟩ := bind_some e
  obtain ⟨⟨xs, ρ4⟩, e4, e⟩ := bind_some e
  obtain ⟨⟨x', ys⟩, e5, e⟩ := bind_some e
  obtain ⟨ρ5, e6, e⟩ := bind_some e
  simp only [Option.some.injEq, Prod.mk.injEq] at e
  obtain ⟨rfl, rfl⟩ := e
  refine h1 σ ρ F G H hE ok u ρ1 e1 _ fun v Fa F1 G1 H1 o1 E1 ok1 fr1 => ?_
  refine h2 σ ρ1 F1 G1 H1 E1 (ok1.sub fun a => by omega) l ρ2 e2 _ fun F2 G2 H2 E2 ok2 fr2 => ?_
  obtain ⟨ok2', fr2', st2⟩ := fr2.side (F1 := Fa) ok1 ok2
  refine h3 σ ρ2 F2 G2 H2 E2 ok2 h ρ3 e3 _ fun F3 G3 H3 E3 ok3 fr3 => ?_
  obtain ⟨ok3', fr3', st3⟩ := fr3.side (F1 := Fa) ok2' ok3
  have o3 := AgOk.mono fr3.g [u] [v] Fa (AgOk.mono fr2.g [u] [v] Fa o1 st2) st3
  obtain ⟨Fx, F4, a1, a2, a3, a4⟩ := take_ok o3 E3 e4
  have ok4 : Ok G3 H3 (fun a => F4 a + Fx a) := ok3'.congr fun a => by have := a3 a; show F4 a + Fx a = Fa a + F3 a; omega
  refine opD od_sl [v] xs Fx G3 H3 a1 (ok4.sub fun a => by omega) x' ys e5 Q fun w Fv F5 G5 H5 b1 b2 b3 b4 => ?_
  obtain ⟨ok6, fr6, st6⟩ := b4.side (F1 := F4) ok4 b3
  obtain ⟨F7, c1, c2⟩ := put_ok b2 (OwnE.mono b4.g ρ4 σ F4 a2 st6) e6 a4
  have lq : ∀ a, Fv a + F7 a ≤ F4 a + (Fv a + F5 a) := fun a => by have := c2 a; omega
  refine k w Fv F7 G5 H5 b1 c1 (ok6.sub lq) (((fr1.trans (fr2'.trans fr3')).trans (fr6.congr (fun a => ?_) fun _ => rfl)).sub lq)
  have := a3 a; show Fa a + F3 a = F4 a + Fx a; omega
@[simp] noncomputable def mLm (i : Nat) (φ : Φ) (as : MA) : M := fun ρ => match ρ[i]? with
  | some (some (.ls _)) => mOp φ (aNm i as) ρ
  | _ => none
def rMt (r : V → List V → Hp → VK → Prop) : RN := fun vs H Q => match vs with
  | x :: xs => r x xs H Q
  | [] => False
theorem sim_lm {i : Nat} {r : V → List V → Hp → VK → Prop} {φ : Φ} {ta : TA} {as : MA} (ho : OpSem K (rMt r) φ) (ha : SimA K ta as) : Sim K (tBM K "list" r (tVar i) ta) (mLm i φ as) := by
  intro σ ρ F G H hE ok x ρ' e Q k
  unfold mLm at e
  split at e
  · rename_i xs q
    have h0 := sim_op ho (sa_nm (i := i) ha) σ ρ F G H hE ok x ρ' e Q k
    obtain ⟨v, hv, h0⟩ := h0
    obtain ⟨v', F1, F2, h1, h2, h3, f⟩ := hE.take q
    rw [hv] at h1
    have ev : v = v' := by simpa using h1
    subst ev
    simp only [Own] at h2
    obtain ⟨p, vs, F', rfl, hp, _⟩ := h2
    exact ⟨.ref p, hv, ⟨.inl ⟨rfl, _, .inl (.inl hp)⟩, h0⟩⟩
  · cases e
end
end MP
namespace MP
open PySem L2
variable [LamT]
abbrev Le (G H : Hp) : Prop := ∀ a o, G a = some o → H a = some o
structure Step (G H G' H' : Hp) : Prop where
  g : Le G G'
  le : Le G' H'
  h : Le H H'
  n : ∀ a, G' a ≠ none → G a ≠ none ∨ H a = none
  t : (∀ a xs, H a = some (.tup xs) → G a = some (.tup xs)) → ∀ a xs, H' a = some (.tup xs) → G' a = some (.tup xs)
  b : ∀ a ps, H' a = some (.tbl ps) → H a = some (.tbl ps)
  c : (∀ a f, H a = some (.ext f) → G a = some (.ext f)) → ∀ a f, H' a = some (.ext f) → G' a = some (.ext f)
theorem Step.refl {G H : Hp} (le : Le G H) : Step G H G H := ⟨fun _ _ h => h, le, fun _ _ h => h, fun _ h => .inl h, fun h => h, fun _ _ h => h, fun h => h⟩
theorem Step.ok {G G' H H' : Hp} {F : FP} (s : Step G H G' H') (ok : Ok G H F) : Ok G' H' F ∧ Fr G H F G' H' F ∧ ∀ a, F a ≠ 0 → H' a = H a := by
  have hk : ∀ a, F a ≠ 0 → H' a = H a := fun a h => by
    cases q : H a with
    | none => exact absurd q (ok.kn a h)
    | some o => exact s.h a o q
  refine ⟨⟨s.le, ok.nd, fun a h => show G' a = none from ?_, fun a h => by rw [hk a h]; exact ok.kn a h, s.t ok.tu, fun a ps e => ?_, fun q hq => ?_, s.c ok.cd⟩, ⟨s.g, fun a o h _ _ => s.h a o h, fun a h => .inl h, fun a h => ?_, fun a h => ?_⟩, hk⟩
  · cases q : G' a with
    | none => rfl
    | some o =>
      rcases s.n a (by rw [q]; simp) with r | r
      · exact absurd (ok.dj a h) r
      · exact absurd r (ok.kn a h)
  · have e0 := s.b a ps e
    obtain ⟨h1, h2⟩ := ok.nt a ps e0
    refine ⟨h1, show G' a = none from ?_⟩
    cases q : G' a with
    | none => rfl
    | some o =>
      rcases s.n a (by rw [q]; simp) with r | r
      · exact absurd h2 r
      · rw [e0] at r; cases r
  · obtain ⟨ps, h1, h2⟩ := ok.tb q hq
    exact ⟨ps, s.h _ _ h1, h2.mono s.g⟩
  · rcases s.n a h with r | r
    · exact .inl r
    · exact .inr (.inr (.inl r))
  · obtain ⟨o, q, n⟩ := vac_ex h
    exact vac_not (s.h a o q) n
theorem Step.new {G H : Hp} (le : Le G H) {p : Addr} {o : HO} (hp : H p = none) (hb : ∀ ps, o ≠ .tbl ps := by intro ps h; cases h) (hc : ∀ f, o ≠ .ext f := by intro f h; cases h) : Step G H (upd G p o) (upd H p o) := by
  have gp : ∀ a u, G a = some u → a ≠ p := fun a u h e => by subst e; rw [le _ _ h] at hp; cases hp
  have hq : ∀ a u, H a = some u → a ≠ p := fun a u h e => by subst e; rw [h] at hp; cases hp
  refine ⟨fun a u h => by rw [upd_ne (gp a u h)]; exact h, fun a u h => ?_, fun a u h => by rw [upd_ne (hq a u h)]; exact h, fun a h => ?_, fun tu a xs h => ?_, fun a ps h => ?_, fun cd a f h => ?_⟩
  · by_cases e : a = p
    · subst e; rw [upd_same] at h ⊢; exact h
    · rw [upd_ne e] at h ⊢; exact le a u h
  · by_cases e : a = p
    · subst e; exact .inr hp
    · rw [upd_ne e] at h; exact .inl h
  · by_cases e : a = p
    · subst e; rw [upd_same] at h ⊢; exact h
    · rw [upd_ne e] at h ⊢; exact tu a xs h
  · by_cases e : a = p
    · subst e; rw [upd_same] at h; exact absurd (Option.some.inj h) (hb ps)
    · rw [upd_ne e] at h; exact h
  · by_cases e : a = p
    · subst e; rw [upd_same] at h; exact absurd (Option.some.inj h) (hc f)
    · rw [upd_ne e] at h ⊢; exact cd a f h
theorem Step.trans {G H G' H' G2 H2 : Hp} (a : Step G H G' H') (b : Step G' H' G2 H2) : Step G H G2 H2 where
  g := fun x o h => b.g x o (a.g x o h)
  le := b.le
  h := fun x o h => b.h x o (a.h x o h)
  n := fun x h => by
    rcases b.n x h with r | r
    · exact a.n x r
    · refine .inr ?_
      cases q : H x with
      | none => rfl
      | some o => rw [a.h x o q] at r; cases r
  t := fun h => b.t (a.t h)
  b := fun x ps h => a.b x ps (b.b x ps h)
  c := fun h => b.c (a.c h)
structure WalkD (K : PySem.W.Frag) (J : It) (ds : List PyData) (G : Hp) : Prop where
  go : ∀ i H, i < ds.length → Le G H → J.go i H
  stop : ∀ H, Le G H → J.stop ds.length H
  yld : ∀ i H x H' d G2, ds[i]? = some d → Le G G2 → Le G2 H → J.yld i H x H' → ∃ G3, Step G2 H G3 H' ∧ Dt K G3 d x
abbrev MIt := Sl → Option (List PyData × Sl)
def SimIt (K : PySem.W.Frag) (wi : TI) (f : MIt) : Prop :=
  ∀ (σ : St) (ρ : Sl) (F : FP) (G : Hp) (H : Hp), OwnE K G H ρ σ F → Ok G H F → ∀ ds ρ', f ρ = some (ds, ρ') → ∀ R : It → Hp → Prop,
    (∀ J F' (G' : Hp) H', WalkD K J ds G' → OwnE K G' H' ρ' σ F' → Ok G' H' F' → Fr G H F G' H' F' → R J H') → wi σ H R
abbrev RI := List V → Hp → (It → Hp → Prop) → Prop
def tI (r : RI) (ta : TA) : TI := fun σ H R => ta σ H fun vs H1 => r vs H1 R
def ItD (K : PySem.W.Frag) (r : RI) (h : List PyData → Option (List PyData)) : Prop :=
  ∀ (ds : List PyData) (vs : List V) (G H : Hp), Le G H → DtAll K G ds vs → ∀ is, h ds = some is → ∀ R : It → Hp → Prop, (∀ J, WalkD K J is G → R J H) → r vs H R
@[simp] noncomputable def mIt (h : List PyData → Option (List PyData)) (as : MA) : MIt := fun ρ => (as ρ).bind fun p => (takeA p.1 p.2).bind fun q => (eraseAll q.1).bind fun ds => (h ds).bind fun is => (putA p.1 (ds.map .fz) q.2).bind fun ρ' => some (is, ρ')
section
variable {K : PySem.W.Frag}
theorem sit {r : RI} {h : List PyData → Option (List PyData)} {ta : TA} {as : MA} (hi : ItD K r h) (ha : SimA K ta as) : SimIt K (tI r ta) (mIt h as) := by
  intro σ ρ F G H hE ok ds ρ' e R k
  obtain ⟨⟨us, ρ1⟩, e1, e⟩ := bind_some e
  obtain ⟨⟨xs, ρ2⟩, e2, e⟩ := bind_some e
  obtain ⟨ds', e3, e⟩ := bind_some e
  obtain ⟨is, e4, e⟩ := bind_some e
  obtain ⟨ρ3, e5, e⟩ := bind_some e
  simp only [Option.some.injEq, Prod.mk.injEq] at e
  obtain ⟨rfl, rfl⟩ := e
  refine ha σ ρ F G H hE ok us ρ1 e1 _ fun vs Fa F1 G1 H1 o1 E1 ok1 fr1 => ?_
  obtain ⟨Fx, F2, a1, a2, a3, a4⟩ := take_ok o1 E1 e2
  have ok2 : Ok G1 H1 (fun a => Fx a + F2 a) := ok1.congr fun a => by have := a3 a; show Fx a + F2 a = Fa a + F1 a; omega
  obtain ⟨ok3, fr3⟩ := thaw_ok ok2
  have hd := OwnAll.frz (thaw_le ok2) xs vs Fx ds' a1 e3 thaw_at
  have E2 := OwnE.mono (thaw_le ok2) ρ2 σ F2 a2 fun _ _ => rfl
  obtain ⟨F5, c1, c2⟩ := put_ok (ownAll_fz (H := H1) hd) E2 e5 a4
  have l : ∀ a, F5 a ≤ F2 a := fun a => by have := c2 a; simp only [Nat.zero_add] at this; exact this
  refine hi ds' vs (thaw G1 H1 Fx) H1 ok3.le hd is e4 R fun J w => k J F5 (thaw G1 H1 Fx) H1 w c1 (ok3.sub l) ((fr1.trans (fr3.congr (fun a => ?_) fun _ => rfl)).sub l)
  have := a3 a; show Fa a + F1 a = Fx a + F2 a; omega
theorem walk_listD {a : Addr} {xs : List V} {ds : List PyData} {G : Hp} (q : Rd G a (.lst xs)) (h : DtAll K G ds xs) : WalkD K (Itl K a) ds G := by
  refine ⟨fun i H hi le => ?_, fun H le => ⟨xs, .inl (rd_mono le q), by rw [h.len]; exact Nat.le_refl _⟩, fun i H x H' d G2 e g le y => ?_⟩
  · rw [h.len] at hi
    exact ⟨xs, xs[i], .inl (rd_mono le q), by simp [hi]⟩
  · obtain ⟨rfl, y⟩ := y
    obtain ⟨v, e1, hd⟩ := h.get e
    have := y xs (.inl (rd_mono (fun a o z => le a o (g a o z)) q))
    rw [e1] at this
    cases this
    exact ⟨G2, Step.refl le, Dt.mono g d _ hd⟩
theorem walk_tupD {a : Addr} {xs : List V} {ds : List PyData} {G : Hp} (q : SqT K G a xs) (h : DtAll K G ds xs) : WalkD K (Itt K a) ds G := by
  refine ⟨fun i H hi le => ?_, fun H le => ⟨xs, sqT_mono le q, by rw [h.len]; exact Nat.le_refl _⟩, fun i H x H' d G2 e g le y => ?_⟩
  · rw [h.len] at hi
    exact ⟨xs, xs[i], sqT_mono le q, by simp [hi]⟩
  · obtain ⟨rfl, y⟩ := y
    obtain ⟨v, e1, hd⟩ := h.get e
    have := y xs (sqT_mono (fun a o z => le a o (g a o z)) q)
    rw [e1] at this
    cases this
    exact ⟨G2, Step.refl le, Dt.mono g d _ hd⟩
def signs (z : Str) : List PyData := z.cps.toList.map fun c => .str ⟨#[c]⟩
theorem walk_strD {z : Str} {G : Hp} : WalkD K (Its z) (signs z) G := by
  refine ⟨fun i H hi le => ?_, fun H le => ?_, fun i H x H' d G2 e g le y => ?_⟩
  · simp only [signs, List.length_map, Array.length_toList] at hi
    exact hi
  · simp only [signs, List.length_map, Array.length_toList]
    exact Nat.le_refl _
  · obtain ⟨rfl, c, e1, rfl⟩ := y
    refine ⟨G2, Step.refl le, ?_⟩
    simp only [signs, List.getElem?_map, Array.getElem?_toList, e1, Option.map_some, Option.some.injEq] at e
    subst e
    exact dtStr
@[simp] def hSeq : List PyData → Option (List PyData)
  | [.list ds] => some ds
  | [.tuple ds] => some ds
  | [.str z] => some (signs z)
  | _ => none
def rSeq (K : PySem.W.Frag) : RI := fun vs H R => match vs with
  | [v] => (∃ a, v = .ref a ∧ (∃ xs, SqL K H a xs) ∧ R (Itl K a) H) ∨ (∃ a, v = .ref a ∧ (∃ xs, SqT K H a xs) ∧ R (Itt K a) H) ∨ ∃ x, v = .str x ∧ R (Its x) H
  | _ => False
theorem dt1 {G : Hp} {d : PyData} {vs : List V} (h : DtAll K G [d] vs) : ∃ v, vs = [v] ∧ Dt K G d v := by
  simp only [DtAll] at h
  obtain ⟨v, r, rfl, h1, rfl⟩ := h
  exact ⟨v, rfl, h1⟩
theorem dt2 {G : Hp} {d e : PyData} {vs : List V} (h : DtAll K G [d, e] vs) : ∃ v w, vs = [v, w] ∧ Dt K G d v ∧ Dt K G e w := by
  simp only [DtAll] at h
  obtain ⟨v, r, rfl, h1, w, r2, rfl, h2, rfl⟩ := h
  exact ⟨v, w, rfl, h1, h2⟩
theorem dt3 {G : Hp} {d e f : PyData} {vs : List V} (h : DtAll K G [d, e, f] vs) : ∃ v w u, vs = [v, w, u] ∧ Dt K G d v ∧ Dt K G e w ∧ Dt K G f u := by
  simp only [DtAll] at h
  obtain ⟨v, r, rfl, h1, w, r2, rfl, h2, u, r3, rfl, h3, rfl⟩ := h
  exact ⟨v, w, u, rfl, h1, h2, h3⟩
theorem id_seq : ItD K (rSeq K) hSeq := by
  intro ds vs G H le hd is e R k
  unfold hSeq at e
  split at e
  · cases e
    obtain ⟨v, rfl, h1⟩ := dt1 hd
    simp only [Dt] at h1
    obtain ⟨a, xs, rfl, q, r⟩ := h1
    exact .inl ⟨a, rfl, ⟨xs, .inl (rd_mono le q)⟩, k _ (walk_listD q r)⟩
  · cases e
    obtain ⟨v, rfl, h1⟩ := dt1 hd
    simp only [Dt] at h1
    obtain ⟨a, xs, rfl, q, r⟩ := h1
    exact .inr (.inl ⟨a, rfl, ⟨xs, sqT_mono le q⟩, k _ (walk_tupD q r)⟩)
  · cases e
    obtain ⟨v, rfl, h1⟩ := dt1 hd
    simp only [Dt] at h1
    exact .inr (.inr ⟨_, h1, k _ walk_strD⟩)
  · cases e
theorem pi_seqA {X : Cx} {tg e : Expr} {te : TE} (he : PE X e te) : PI X tg e (tI (rSeq X.K) (tCons te tNil)) := by
  refine ⟨fun pins s σ H R I h => ?_⟩
  refine thn (he.run pins s σ H _ I h) fun v s1 ⟨x, H1, I1, r1, q1⟩ => ?_
  rcases q1 with q1 | q1 | q1
  · obtain ⟨a, rfl, hq, q⟩ := q1
    cases r1
    obtain ⟨xs, hq⟩ := hq
    obtain ⟨its, rv, p, hz⟩ := I1.list hq
    refine wpAny_pyIter_list p.isList ?_
    refine ⟨s1.heap.objs.size, [s1.heap.objs.size], _, _, H1, rfl, I1.kept (t' := s1.toks) fun b o e => Heap.get?_push_of_some _ e, turn_list a _, ⟨_, Heap.get?_push_size _ rfl, rfl, rfl⟩, fun b hb => ?_, q⟩
    have e : b = s1.heap.objs.size := by simpa using hb
    subst e
    exact I1.fpOk (Nat.le_refl _) (I1.hok.fresh (Nat.le_refl _))
  · obtain ⟨a, rfl, ⟨xs, hq⟩, q⟩ := q1
    cases r1
    obtain ⟨its, rv, p, hz⟩ := I1.tuple hq
    refine wpAny_pyIter_tuple (show s1.heap.IsTuple a its.toArray from p) ?_
    refine ⟨s1.heap.objs.size, [s1.heap.objs.size], _, _, H1, rfl, I1.kept (t' := s1.toks) fun b o e => Heap.get?_push_of_some _ e, turn_tuple a _, ⟨_, Heap.get?_push_size _ rfl, rfl, rfl⟩, fun b hb => ?_, q⟩
    have e : b = s1.heap.objs.size := by simpa using hb
    subst e
    exact I1.fpOk (Nat.le_refl _) (I1.hok.fresh (Nat.le_refl _))
  · obtain ⟨z, rfl, q⟩ := q1
    obtain ⟨t, rfl⟩ := r1
    cases ha : z.cps.all (· < 128)
    · exact PySem.wpAny_pyIter_wide ha (pi_one (tk := s1.toks) I1 _ (turn_str _ z t "str_iterator" (.inr rfl)) ⟨_, Heap.get?_push_size _ rfl, rfl, rfl⟩ q)
    · exact PySem.wpAny_pyIter_ascii ha (pi_one (tk := s1.toks) I1 _ (turn_str _ z t "str_ascii_iterator" (.inl rfl)) ⟨_, Heap.get?_push_size _ rfl, rfl, rfl⟩ q)
def rangeD (lo c : Int) (n : Nat) : List PyData := (List.range n).map fun (k : Nat) => .int (lo + (k : Int) * c)
def bnd (i : Int) : Bool := decide (-1000000 ≤ i ∧ i ≤ 1000000)
theorem walk_rngD {lo : Int} {n : Nat} {G : Hp} : WalkD K (Itr lo n) (rangeD lo 1 n) G := by
  refine ⟨fun i H hi le => ?_, fun H le => ?_, fun i H x H' d G2 e g le y => ?_⟩
  · simp only [rangeD, List.length_map, List.length_range] at hi
    exact hi
  · simp only [rangeD, List.length_map, List.length_range]; exact Nat.le_refl _
  · obtain ⟨rfl, rfl⟩ := y
    refine ⟨G2, Step.refl le, ?_⟩
    simp only [rangeD, List.getElem?_map, Option.map_eq_some_iff] at e
    obtain ⟨k, e1, rfl⟩ := e
    have : k = i := by
      rw [List.getElem?_range] at e1
      · simpa using e1.symm
      · have := (List.getElem?_eq_some_iff.mp e1).1; simpa using this
    subst this
    rw [Int.mul_one]
    exact dtInt
theorem walk_rngC {lo c : Int} {n : Nat} {G : Hp} : WalkD K (Itc lo c n) (rangeD lo c n) G := by
  refine ⟨fun i H hi le => ?_, fun H le => ?_, fun i H x H' d G2 e g le y => ?_⟩
  · simp only [rangeD, List.length_map, List.length_range] at hi
    exact hi
  · simp only [rangeD, List.length_map, List.length_range]; exact Nat.le_refl _
  · obtain ⟨rfl, rfl⟩ := y
    refine ⟨G2, Step.refl le, ?_⟩
    simp only [rangeD, List.getElem?_map, Option.map_eq_some_iff] at e
    obtain ⟨k, e1, rfl⟩ := e
    have : k = i := by
      rw [List.getElem?_range] at e1
      · simpa using e1.symm
      · have := (List.getElem?_eq_some_iff.mp e1).1; simpa using this
    subst this
    exact dtInt
def hRange : List PyData → Option (List PyData)
  | [.int j] => if bnd j then some (rangeD 0 1 j.toNat) else none
  | [.int i, .int j] => if bnd i && bnd j then some (rangeD i 1 (j - i).toNat) else none
  | _ => none
def rRange1 : RI := fun vs H R => ∃ j : Int, vs = [.int j] ∧ -(2 ^ 62) ≤ j ∧ j < 2 ^ 62 ∧ R (Itr 0 j.toNat) H
def rRange2 : RI := fun vs H R => ∃ i j : Int, vs = [.int i, .int j] ∧ (-(2 ^ 62) ≤ i ∧ i < 2 ^ 62 ∧ -(2 ^ 62) ≤ j ∧ j < 2 ^ 62) ∧ R (Itr i (j - i).toNat) H
@[simp] def hRange1 : List PyData → Option (List PyData)
  | [.int j] => if bnd j then some (rangeD 0 1 j.toNat) else none
  | _ => none
@[simp] def hRange2 : List PyData → Option (List PyData)
  | [.int i, .int j] => if bnd i && bnd j then some (rangeD i 1 (j - i).toNat) else none
  | _ => none
theorem id_range1 : ItD K rRange1 hRange1 := by
  intro ds vs G H le hd is e R k
  unfold hRange1 at e
  split at e
  · obtain ⟨v, rfl, h1⟩ := dt1 hd
    simp only [Dt] at h1
    subst h1
    split at e
    · rename_i hz
      cases e
      have := of_decide_eq_true hz
      exact ⟨_, rfl, by omega, by omega, k _ walk_rngD⟩
    · cases e
  · cases e
theorem id_range2 : ItD K rRange2 hRange2 := by
  intro ds vs G H le hd is e R k
  unfold hRange2 at e
  split at e
  · obtain ⟨v, w, rfl, h1, h2⟩ := dt2 hd
    simp only [Dt] at h1 h2
    subst h1 h2
    split at e
    · rename_i hz
      cases e
      rw [Bool.and_eq_true] at hz
      have h1 := of_decide_eq_true hz.1
      have h2 := of_decide_eq_true hz.2
      exact ⟨_, _, rfl, ⟨by omega, by omega, by omega, by omega⟩, k _ walk_rngD⟩
    · cases e
  · cases e
def hRange3 : List PyData → Option (List PyData)
  | [.int i, .int j, .int c] => if Builtin.Range.small i j c && decide (c ≠ 0 ∧ c.natAbs < 1073741824 ∧ 0 ≤ Builtin.Range.rangeSize i j c) then some (rangeD i c (Builtin.Range.rangeSize i j c).toNat) else none
  | _ => none
def rRange3 : RI := fun vs H R => ∃ (i j c : Int) (n : Nat), vs = [.int i, .int j, .int c] ∧ RgC i j c n ∧ R (Itc i c n) H
theorem id_range3 : ItD K rRange3 hRange3 := by
  intro ds vs G H le hd is e R k
  unfold hRange3 at e
  split at e
  · obtain ⟨v, w, u, rfl, h1, h2, h3⟩ := dt3 hd
    simp only [Dt] at h1 h2 h3
    subst h1 h2 h3
    split at e
    · rename_i hz
      cases e
      rw [Bool.and_eq_true] at hz
      have h1 := of_decide_eq_true hz.2
      exact ⟨_, _, _, _, rfl, ⟨h1.1, h1.2.1, hz.1, by omega⟩, k _ walk_rngC⟩
    · cases e
  · cases e
def zipD (xs ys : List PyData) : List PyData := List.zipWith (fun a b => .tuple [a, b]) xs ys
theorem zipD_get {xs ys : List PyData} {i : Nat} {d : PyData} (h : (zipD xs ys)[i]? = some d) : ∃ a b, xs[i]? = some a ∧ ys[i]? = some b ∧ d = .tuple [a, b] := by
  unfold zipD at h
  rw [List.getElem?_zipWith] at h
  cases h1 : xs[i]? with
  | none => rw [h1] at h; cases h
  | some a =>
    cases h2 : ys[i]? with
    | none => rw [h1, h2] at h; cases h
    | some b =>
      rw [h1, h2] at h
      exact ⟨a, b, rfl, rfl, by simpa using h.symm⟩
theorem pair_step {G2 H : Hp} (le : Le G2 H) {T : Addr} {x y : V} {a b : PyData} (hT : H T = none) (h1 : Dt K G2 a x) (h2 : Dt K G2 b y) :
    ∃ G3, Step G2 H G3 (upd H T (.tup [x, y])) ∧ Dt K G3 (.tuple [a, b]) (.ref T) := by
  refine ⟨upd G2 T (.tup [x, y]), Step.new le hT, ?_⟩
  have g := (Step.new (o := .tup [x, y]) le hT).g
  simp only [Dt, DtAll]
  exact ⟨T, [x, y], rfl, .inl (.inl upd_same), x, [y], rfl, Dt.mono g a x h1, y, [], rfl, Dt.mono g b y h2, rfl⟩
@[simp] def hZip : List PyData → Option (List PyData)
  | [.list xs, .list ys] => some (zipD xs ys)
  | [.tuple xs, .tuple ys] => some (zipD xs ys)
  | _ => none
def rZip (K : PySem.W.Frag) : RI := fun vs H R => ∃ a b xs ys, vs = [.ref a, .ref b] ∧ ((SqL K H a xs ∧ SqL K H b ys ∧ R (Itz K a b) H) ∨ (SqT K H a xs ∧ SqT K H b ys ∧ R (RZ.ItzT K a b) H))
end
end MP
namespace MP
open PySem L2
variable [LamT]
mutual
inductive Tg where
  | nm (i : Nat)
  | tp (ts : Tgs)
inductive Tgs where
  | nil
  | cons (t : Tg) (ts : Tgs)
end
def Tgs.len : Tgs → Nat
  | .nil => 0
  | .cons _ ts => ts.len + 1
mutual
@[simp] def asg : Tg → PyData → Sl → Option Sl
  | .nm i, d, ρ => if i < ρ.length then some (ρ.set i (some (.fz d))) else none
  | .tp ts, d, ρ => match d with
    | .tuple ds => asgs ts ds ρ
    | .list ds => asgs ts ds ρ
    | _ => none
@[simp] def asgs : Tgs → List PyData → Sl → Option Sl
  | .nil, [], ρ => some ρ
  | .cons t ts, d :: ds, ρ => (asg t d ρ).bind fun ρ' => asgs ts ds ρ'
  | _, _, _ => none
end
def gTL (K : PySem.W.Frag) (n : Nat) (t : TGs) : TG := fun v σ H Q => gTup K n t v σ H Q ∨ gLst K n t v σ H Q
mutual
def gOf (K : PySem.W.Frag) : Tg → TG
  | .nm i => gName i
  | .tp ts => gTL K ts.len (gsOf K ts)
def gsOf (K : PySem.W.Frag) : Tgs → TGs
  | .nil => gNil
  | .cons t ts => gCons (gOf K t) (gsOf K ts)
end
mutual
def Tg.slots : Tg → List Nat
  | .nm i => [i]
  | .tp ts => ts.slots
def Tgs.slots : Tgs → List Nat
  | .nil => []
  | .cons t ts => t.slots ++ ts.slots
end
structure Chg (is : List Nat) (σ σ' : St) : Prop where
  len : σ'.length = σ.length
  at_ : ∀ j, j ∉ is → σ'[j]? = σ[j]?
theorem Chg.refl {is : List Nat} {σ : St} : Chg is σ σ := ⟨rfl, fun _ _ => rfl⟩
theorem Chg.trans {is js : List Nat} {σ σ' σ'' : St} (a : Chg is σ σ') (b : Chg js σ' σ'') : Chg (is ++ js) σ σ'' :=
  ⟨b.len.trans a.len, fun j h => by
    rw [List.mem_append, not_or] at h
    rw [b.at_ j h.2, a.at_ j h.1]⟩
section
variable {K : PySem.W.Frag}
theorem asgs_len : ∀ (ts : Tgs) (ds : List PyData) (ρ ρ' : Sl), asgs ts ds ρ = some ρ' → ds.length = ts.len
  | .nil, [], _, _, _ => rfl
  | .nil, _ :: _, _, _, h => by simp [asgs] at h
  | .cons t ts, [], _, _, h => by simp [asgs] at h
  | .cons t ts, d :: ds, ρ, ρ', h => by
    simp only [asgs] at h
    obtain ⟨ρ1, _, h⟩ := bind_some h
    simp only [List.length_cons, Tgs.len, asgs_len ts ds ρ1 ρ' h]
mutual
theorem sg : ∀ (tg : Tg) (d : PyData) (v : V) (σ : St) (ρ ρ' : Sl) (F : FP) (G : Hp) (H : Hp), OwnE K G H ρ σ F → Ok G H F → Dt K G d v → asg tg d ρ = some ρ' → ∀ Q : St → Hp → Prop,
    (∀ σ' F', OwnE K G H ρ' σ' F' → (∀ a, F' a ≤ F a) → Chg tg.slots σ σ' → Q σ' H) → gOf K tg v σ H Q
  | .nm i, d, v, σ, ρ, ρ', F, G, H, hE, ok, hd, e, Q, k => by
    simp only [asg] at e
    split at e
    · rename_i hi
      simp only [Option.some.injEq] at e
      subst e
      obtain ⟨F2, l, q⟩ := hE.setS hi (Own.ofD (H := H) hd)
      simp only [gOf]
      refine k _ _ (q.congr (F' := F2) fun a => by simp) l ⟨by simp, fun j hj => ?_⟩
      simp only [Tg.slots, List.mem_singleton] at hj
      rw [List.getElem?_set_ne (fun e => hj e.symm)]
    · cases e
  | .tp ts, d, v, σ, ρ, ρ', F, G, H, hE, ok, hd, e, Q, k => by
    simp only [asg] at e
    split at e
    · rename_i ds
      simp only [Dt] at hd
      obtain ⟨a, xs, rfl, q, r⟩ := hd
      simp only [gOf]
      refine .inl ⟨a, xs, rfl, sqT_mono ok.le q, by rw [← r.len]; exact asgs_len ts ds ρ ρ' e, ?_⟩
      exact sgs ts ds xs σ ρ ρ' F G H hE ok r e Q fun σ' F' h l c => k σ' F' h l (by simpa only [Tg.slots] using c)
    · rename_i ds
      simp only [Dt] at hd
      obtain ⟨a, xs, rfl, q, r⟩ := hd
      simp only [gOf]
      refine .inr ⟨a, xs, rfl, .inl (rd_mono ok.le q), by rw [← r.len]; exact asgs_len ts ds ρ ρ' e, ?_⟩
      exact sgs ts ds xs σ ρ ρ' F G H hE ok r e Q fun σ' F' h l c => k σ' F' h l (by simpa only [Tg.slots] using c)
    · cases e
theorem sgs : ∀ (ts : Tgs) (ds : List PyData) (vs : List V) (σ : St) (ρ ρ' : Sl) (F : FP) (G : Hp) (H : Hp), OwnE K G H ρ σ F → Ok G H F → DtAll K G ds vs → asgs ts ds ρ = some ρ' → ∀ Q : St → Hp → Prop,
    (∀ σ' F', OwnE K G H ρ' σ' F' → (∀ a, F' a ≤ F a) → Chg ts.slots σ σ' → Q σ' H) → gsOf K ts vs σ H Q
  | .nil, [], vs, σ, ρ, ρ', F, G, H, hE, ok, hd, e, Q, k => by
    simp only [asgs, Option.some.injEq] at e
    subst e
    simp only [DtAll] at hd
    simp only [gsOf]
    exact ⟨hd, k σ F hE (fun _ => Nat.le_refl _) .refl⟩
  | .nil, _ :: _, vs, σ, ρ, ρ', F, G, H, hE, ok, hd, e, Q, k => by simp [asgs] at e
  | .cons t ts, [], vs, σ, ρ, ρ', F, G, H, hE, ok, hd, e, Q, k => by simp [asgs] at e
  | .cons t ts, d :: ds, vs, σ, ρ, ρ', F, G, H, hE, ok, hd, e, Q, k => by
    simp only [asgs] at e
    obtain ⟨ρ1, e1, e⟩ := bind_some e
    simp only [DtAll] at hd
    obtain ⟨v, r, rfl, h1, h2⟩ := hd
    simp only [gsOf]
    refine ⟨v, r, rfl, ?_⟩
    refine sg t d v σ ρ ρ1 F G H hE ok h1 e1 _ fun σ1 F1 E1 l1 c1 => ?_
    refine sgs ts ds r σ1 ρ1 ρ' F1 G H E1 (ok.sub l1) h2 e Q fun σ2 F2 E2 l2 c2 => ?_
    exact k σ2 F2 E2 (fun a => Nat.le_trans (l2 a) (l1 a)) (by simp only [Tgs.slots]; exact c1.trans c2)
end
@[simp] def wipeR (ρ : Sl) : List Nat → Sl
  | [] => ρ
  | i :: is => (wipeR ρ is).set i none
@[simp] def restR (ρ : Sl) : List Nat → Sl → Sl
  | [], ρ2 => ρ2
  | i :: is, ρ2 => restR ρ is (ρ2.set i (((wipeR ρ is)[i]?).getD none))
theorem wipeR_len (ρ : Sl) : ∀ is : List Nat, (wipeR ρ is).length = ρ.length
  | [] => rfl
  | i :: is => by unfold wipeR; rw [List.length_set, wipeR_len ρ is]
theorem OwnE.wipe1 {G H : Hp} : ∀ {ρ : Sl} {σ : St} {F : FP} (i : Nat), OwnE K G H ρ σ F → ∃ F1 Fs : FP, (∀ a, F a = F1 a + Fs a) ∧ OwnE K G H (ρ.set i none) (σ.set i none) F1 ∧
    ∀ (G' H' : Hp) (ρ2 : Sl) (F2 : FP), Le G G' → (∀ a, Fs a ≠ 0 → H' a = H a) → ρ2.length = ρ.length → OwnE K G' H' ρ2 (σ.set i none) F2 → OwnE K G' H' (ρ2.set i ((ρ[i]?).getD none)) σ (fun a => F2 a + Fs a)
  | [], σ, F, i, h => ⟨F, fun _ => 0, fun a => by simp, h, fun G' H' ρ2 F2 g k l q => by
    have : ρ2 = [] := List.eq_nil_of_length_eq_zero l
    subst this
    intro a
    have := q a
    show F2 a + 0 = 0
    rw [this]⟩
  | none :: ρ, σ, F, 0, h => by
    obtain ⟨s, r, rfl, h⟩ := h
    refine ⟨F, fun _ => 0, fun a => by simp, ⟨none, r, rfl, h⟩, fun G' H' ρ2 F2 g k l q => ?_⟩
    cases ρ2 with
    | nil => simp at l
    | cons o ρ2 =>
      cases o with
      | some x => obtain ⟨v, r', _, _, e, _⟩ := q; simp at e
      | none =>
        obtain ⟨s', r', e, q⟩ := q
        simp only [List.set_cons_zero, List.cons.injEq] at e
        obtain ⟨_, rfl⟩ := e
        exact ⟨s, r, rfl, q.congr fun a => by simp⟩
  | some x :: ρ, σ, F, 0, h => by
    obtain ⟨v, r, A, B, rfl, b, c, f⟩ := h
    refine ⟨B, A, fun a => by rw [f]; omega, ⟨none, r, rfl, c⟩, fun G' H' ρ2 F2 g k l q => ?_⟩
    cases ρ2 with
    | nil => simp at l
    | cons o ρ2 =>
      cases o with
      | some x => obtain ⟨v, r', _, _, e, _⟩ := q; simp at e
      | none =>
        obtain ⟨s', r', e, q⟩ := q
        simp only [List.set_cons_zero, List.cons.injEq] at e
        obtain ⟨_, rfl⟩ := e
        exact ⟨v, r, A, F2, rfl, Own.mono g x v A b k, q, fun a => by show F2 a + A a = A a + F2 a; omega⟩
  | none :: ρ, σ, F, i + 1, h => by
    obtain ⟨s, r, rfl, h⟩ := h
    obtain ⟨F1, Fs, f, h1, h2⟩ := h.wipe1 i
    refine ⟨F1, Fs, f, ⟨s, r.set i none, rfl, h1⟩, fun G' H' ρ2 F2 g k l q => ?_⟩
    cases ρ2 with
    | nil => simp at l
    | cons o ρ2 =>
      cases o with
      | some x =>
        obtain ⟨v, r', A, B, e, b, c, f'⟩ := q
        simp only [List.set_cons_succ, List.cons.injEq] at e
        obtain ⟨rfl, rfl⟩ := e
        exact ⟨v, r, A, fun a => B a + Fs a, rfl, b, by simpa using h2 G' H' ρ2 B g k (by simpa using l) c, fun a => by show F2 a + Fs a = A a + (B a + Fs a); rw [f']; omega⟩
      | none =>
        obtain ⟨s', r', e, q⟩ := q
        simp only [List.set_cons_succ, List.cons.injEq] at e
        obtain ⟨rfl, rfl⟩ := e
        exact ⟨s, r, rfl, by simpa using h2 G' H' ρ2 F2 g k (by simpa using l) q⟩
  | some x :: ρ, σ, F, i + 1, h => by
    obtain ⟨v, r, A, B, rfl, b, c, f⟩ := h
    obtain ⟨F1, Fs, f1, h1, h2⟩ := c.wipe1 i
    refine ⟨fun a => A a + F1 a, Fs, fun a => by rw [f, f1]; show _ = A a + F1 a + Fs a; omega, ⟨v, r.set i none, A, F1, rfl, b, h1, fun _ => rfl⟩, fun G' H' ρ2 F2 g k l q => ?_⟩
    cases ρ2 with
    | nil => simp at l
    | cons o ρ2 =>
      cases o with
      | some y =>
        obtain ⟨v', r', A', B', e, b', c', f'⟩ := q
        simp only [List.set_cons_succ, List.cons.injEq] at e
        obtain ⟨e0, rfl⟩ := e
        cases e0
        exact ⟨v, r, A', fun a => B' a + Fs a, rfl, b', by simpa using h2 G' H' ρ2 B' g k (by simpa using l) c', fun a => by show F2 a + Fs a = A' a + (B' a + Fs a); rw [f']; omega⟩
      | none =>
        obtain ⟨s', r', e, q⟩ := q
        simp only [List.set_cons_succ, List.cons.injEq] at e
        obtain ⟨_, rfl⟩ := e
        exact ⟨some v, r, rfl, by simpa using h2 G' H' ρ2 F2 g k (by simpa using l) q⟩
theorem OwnE.wipeAll {G H : Hp} {ρ : Sl} {σ : St} {F : FP} (hE : OwnE K G H ρ σ F) : ∀ is : List Nat, ∃ F1 Fs : FP, (∀ a, F a = F1 a + Fs a) ∧ OwnE K G H (wipeR ρ is) (wipe σ is) F1 ∧
    ∀ (G' H' : Hp) (ρ2 : Sl) (F2 : FP), Le G G' → (∀ a, Fs a ≠ 0 → H' a = H a) → ρ2.length = ρ.length → OwnE K G' H' ρ2 (wipe σ is) F2 → OwnE K G' H' (restR ρ is ρ2) σ (fun a => F2 a + Fs a)
  | [] => ⟨F, fun _ => 0, fun a => by simp, hE, fun G' H' ρ2 F2 g k l q => q.congr fun a => by simp⟩
  | i :: is => by
    obtain ⟨F1, Fs, f, h1, h2⟩ := hE.wipeAll is
    obtain ⟨F3, Ft, f3, h3, h4⟩ := h1.wipe1 i
    refine ⟨F3, fun a => Ft a + Fs a, fun a => by rw [f, f3]; show _ = F3 a + (Ft a + Fs a); omega, h3, fun G' H' ρ2 F2 g k l q => ?_⟩
    have q1 := h4 G' H' ρ2 F2 g (fun a ha => k a (show Ft a + Fs a ≠ 0 by omega)) (by rw [l, wipeR_len]) q
    have q2 := h2 G' H' _ _ g (fun a ha => k a (show Ft a + Fs a ≠ 0 by omega)) (by rw [List.length_set]; exact l) q1
    exact q2.congr fun a => by show F2 a + (Ft a + Fs a) = F2 a + Ft a + Fs a; omega
theorem OwnE.dropAll {G H : Hp} {ρ : Sl} {σ : St} {F : FP} (hE : OwnE K G H ρ σ F) : ∀ is : List Nat, ∃ F1 : FP, (∀ a, F1 a ≤ F a) ∧ OwnE K G H (wipeR ρ is) (wipe σ is) F1
  | [] => ⟨F, fun _ => Nat.le_refl _, hE⟩
  | i :: is => by
    obtain ⟨F1, l, h⟩ := hE.dropAll is
    obtain ⟨F2, l2, h2⟩ := h.drop i none
    exact ⟨F2, fun a => Nat.le_trans (l2 a) (l a), h2⟩
theorem wipe_get (σ : St) (j : Nat) : ∀ is : List Nat, (wipe σ is)[j]? = if j ∈ is then (if j < σ.length then some none else none) else σ[j]?
  | [] => by simp [wipe]
  | i :: is => by
    unfold wipe
    by_cases e : i = j
    · subst e
      rw [if_pos List.mem_cons_self]
      by_cases h : i < σ.length
      · rw [List.getElem?_set_self (by rw [wipe_length]; exact h), if_pos h]
      · rw [if_neg h, List.getElem?_eq_none (by rw [List.length_set, wipe_length]; omega)]
    · rw [List.getElem?_set_ne e, wipe_get σ j is]
      by_cases h : j ∈ is
      · rw [if_pos h, if_pos (List.mem_cons_of_mem _ h)]
      · rw [if_neg h, if_neg (fun z => by rcases List.mem_cons.mp z with z | z; exact e z.symm; exact h z)]
theorem wipe_chg {is : List Nat} {σ σ' : St} (c : Chg is σ σ') : wipe σ' is = wipe σ is := by
  refine List.ext_getElem? fun j => ?_
  rw [wipe_get, wipe_get, c.len]
  by_cases h : j ∈ is
  · rw [if_pos h, if_pos h]
  · rw [if_neg h, if_neg h]; exact c.at_ j h
theorem wipe_wipe {is : List Nat} {σ : St} : wipe (wipe σ is) is = wipe σ is := by
  refine List.ext_getElem? fun j => ?_
  rw [wipe_get, wipe_get, wipe_length]
  by_cases h : j ∈ is
  · rw [if_pos h, if_pos h]
  · rw [if_neg h]
def keepV (dp : Bool) (x : Vl) : Option Vl := if dp then some x else (erase x).map .fz
def lcL (dp : Bool) (tg : Tg) (own : List Nat) (t : MT) (e : M) : List PyData → Sl → Option (List Vl × Sl)
  | [], ρ => some ([], ρ)
  | d :: ds, ρ => (asg tg d ρ).bind fun ρ1 => (t ρ1).bind fun b => if b.1 then (e b.2).bind fun x => (keepV dp x.1).bind fun y => (lcL dp tg own t e ds (wipeR x.2 own)).bind fun q => some (y :: q.1, q.2)
    else lcL dp tg own t e ds (wipeR b.2 own)
def mLc (dp : Bool) (own : List Nat) (it : MIt) (tg : Tg) (t : MT) (e : M) : M := fun ρ => (it ρ).bind fun p => (lcL dp tg own t e p.1 (wipeR p.2 own)).bind fun q =>
  if q.2.length = p.2.length ∧ p.1.length ≤ 1000000 then some (.ls q.1, restR p.2 own q.2) else none
theorem keep_ok {dp : Bool} {x y : Vl} {v : V} {G : Hp} {H : Hp} {Fx F : FP} (h : Own K G H x v Fx) (ok : Ok G H (fun a => Fx a + F a)) (e : keepV dp x = some y) :
    ∃ (G1 : Hp) (Fy : FP), Own K G1 H y v Fy ∧ Ok G1 H (fun a => Fy a + F a) ∧ Fr G H (fun a => Fx a + F a) G1 H (fun a => Fy a + F a) := by
  unfold keepV at e
  split at e
  · simp only [Option.some.injEq] at e
    subst e
    exact ⟨G, Fx, h, ok, Fr.refl ok⟩
  · rw [Option.map_eq_some_iff] at e
    obtain ⟨d, e, rfl⟩ := e
    obtain ⟨ok2, fr2⟩ := thaw_ok ok
    have hd := Own.frz (thaw_le ok) x v Fx d h e thaw_at
    exact ⟨thaw G H Fx, fun _ => 0, Own.ofD hd, ok2.congr fun a => by simp, fr2.congr (fun _ => rfl) fun a => by simp⟩
theorem OwnAll.snoc {G H : Hp} : ∀ {xs : List Vl} {vs : List V} {F : FP} {x : Vl} {v : V} {F1 : FP}, OwnAll K G H xs vs F → Own K G H x v F1 → OwnAll K G H (xs ++ [x]) (vs ++ [v]) (fun a => F a + F1 a)
  | [], vs, F, x, v, F1, h, o => by
    simp only [OwnAll] at h
    obtain ⟨rfl, f⟩ := h
    simp only [List.nil_append, OwnAll]
    exact ⟨v, [], F1, fun _ => 0, rfl, o, ⟨rfl, fun _ => rfl⟩, fun a => by show F a + F1 a = F1 a + 0; rw [f]; omega⟩
  | y :: xs, vs, F, x, v, F1, h, o => by
    simp only [OwnAll] at h
    obtain ⟨w, r, A, B, rfl, h1, h2, f⟩ := h
    simp only [List.cons_append, OwnAll]
    exact ⟨w, r ++ [v], A, fun a => B a + F1 a, rfl, h1, h2.snoc o, fun a => by show F a + F1 a = A a + (B a + F1 a); rw [f]; omega⟩
theorem OwnAll.len {G H : Hp} : ∀ {xs : List Vl} {vs : List V} {F : FP}, OwnAll K G H xs vs F → xs.length = vs.length
  | [], vs, F, h => by simp only [OwnAll] at h; rw [h.1]; rfl
  | x :: xs, vs, F, h => by
    simp only [OwnAll] at h
    obtain ⟨v, r, _, _, rfl, _, h2, _⟩ := h
    simp only [List.length_cons, h2.len]
theorem lcL_len {dp : Bool} {tg : Tg} {own : List Nat} {t : MT} {e : M} : ∀ {ds : List PyData} {ρ ρ' : Sl} {ys : List Vl}, lcL dp tg own t e ds ρ = some (ys, ρ') → ys.length ≤ ds.length
  | [], ρ, ρ', ys, h => by
    simp only [lcL, Option.some.injEq, Prod.mk.injEq] at h
    rw [← h.1]; exact Nat.le_refl _
  | d :: ds, ρ, ρ', ys, h => by
    simp only [lcL] at h
    obtain ⟨ρ1, _, h⟩ := bind_some h
    obtain ⟨b, _, h⟩ := bind_some h
    split at h
    · obtain ⟨x, _, h⟩ := bind_some h
      obtain ⟨y, _, h⟩ := bind_some h
      obtain ⟨q, hq, h⟩ := bind_some h
      simp only [Option.some.injEq, Prod.mk.injEq] at h
      rw [← h.1, List.length_cons, List.length_cons]
      have := lcL_len (ρ' := q.2) (ys := q.1) hq
      omega
    · have := lcL_len h
      rw [List.length_cons]; omega
theorem sim_lc {dp : Bool} {own : List Nat} {wi : TI} {it : MIt} {tg : Tg} {tt : TT} {t : MT} {te : TE} {e : M} (hi : SimIt K wi it) (ht : SimT K tt t) (he : Sim K te e) (hs : ∀ i ∈ tg.slots, i ∈ own) :
    Sim K (tLc wi (gOf K tg) tt te own) (mLc dp own it tg t e) := by
  intro σ ρ F G H hE ok x ρ' e0 Q k
  obtain ⟨⟨ds, ρ1⟩, e1, ea⟩ := bind_some e0
  obtain ⟨⟨ys, ρ2⟩, e2, eb⟩ := bind_some ea
  clear e0 ea
  simp only at e2 eb
  split at eb
  case isFalse => cases eb
  rename_i hl
  obtain ⟨hl, hz⟩ := hl
  simp only [Option.some.injEq, Prod.mk.injEq] at eb
  obtain ⟨rfl, rfl⟩ := eb
  refine hi σ ρ F G H hE ok ds ρ1 e1 _ fun J F1 G1 H1 w E1 ok1 fr1 => fun D hD => ?_
  obtain ⟨Fw, Fs, fs, W1, W2⟩ := E1.wipeAll own
  -- the new list is ours
  obtain ⟨okD, frD, stD⟩ := ok_own (o := .lst []) ok1 hD
  let INV : Nat → Hp → Prop := fun i H' => ∃ (ρi : Sl) (Fi : FP) (Gi : Hp) (acc : List Vl) (ws : List V) (Fa : FP) (rest : List Vl), H' D = some (.lst ws) ∧ OwnAll K Gi H' acc ws Fa ∧ OwnE K Gi H' ρi (wipe σ own) Fi ∧
    Ok Gi H' (fun a => (one D a + Fa a + Fs a) + Fi a) ∧ Fr G1 H1 F1 Gi H' (fun a => (one D a + Fa a + Fs a) + Fi a) ∧ (∀ a, Fs a ≠ 0 → H' a = H1 a) ∧
    lcL dp tg own t e (ds.drop i) ρi = some (rest, ρ2) ∧ ys = acc ++ rest ∧ acc.length ≤ i
  refine ⟨fun i m H' => m = ds.length - i ∧ i ≤ ds.length ∧ INV i H', ⟨ds.length, by simp, Nat.zero_le _, ?_⟩, ?_⟩
  · have E2 := OwnE.mono (fun _ _ h => h) _ _ _ W1 (H' := upd H1 D (.lst [])) fun a ha => stD a (by rw [fs]; omega)
    refine ⟨_, Fw, G1, [], [], fun _ => 0, ys, upd_same, ?_, E2, okD.congr fun a => ?_, frD.congr (fun _ => rfl) fun a => ?_, fun a ha => stD a (by rw [fs]; omega), e2, rfl, Nat.le_refl _⟩
    · simp only [OwnAll]; exact ⟨trivial, fun _ => trivial⟩
    · show one D a + 0 + Fs a + Fw a = one D a + F1 a; rw [fs]; omega
    · show one D a + 0 + Fs a + Fw a = one D a + F1 a; rw [fs]; omega
  · rintro i m H' ⟨rfl, hi', ρi, Fi, Gi, acc, ws, Fa, rest, hDw, hacc, Ei, oki, fri, sti, ei, rfl, hai⟩
    have gle : Le G1 Gi := fri.g
    by_cases hlt : i < ds.length
    · refine .inr ⟨w.go i H' hlt (fun a o z => oki.le a o (gle a o z)), INV (i + 1), fun H2 p => ⟨ds.length - (i + 1), by omega, rfl, hlt, p⟩, fun x H2 yl => ?_⟩
      have ed : ds[i]? = some ds[i] := List.getElem?_eq_getElem hlt
      obtain ⟨G3h, s3, hx⟩ := w.yld i H' x H2 ds[i] Gi ed gle oki.le yl
      let G3 : Hp := G3h
      obtain ⟨ok3, fr3, st3⟩ := s3.ok oki
      rw [List.drop_eq_getElem_cons hlt] at ei
      simp only [lcL] at ei
      obtain ⟨ρa, ea, ei⟩ := bind_some ei
      obtain ⟨⟨b, ρb⟩, eb, ei⟩ := bind_some ei
      have E3 := OwnE.mono s3.g _ _ _ Ei fun a ha => st3 a (by omega)
      have hacc3 := OwnAll.mono s3.g _ _ _ hacc fun a ha => st3 a (by omega)
      refine sg tg ds[i] x (wipe σ own) ρi ρa Fi G3 H2 E3 (ok3.sub fun a => by omega) hx ea _ fun σ4 F4 E4 l4 c4 => ?_
      have cw : Chg own (wipe σ own) σ4 := ⟨c4.len, fun j hj => c4.at_ j fun z => hj (hs j z)⟩
      have ew : wipe σ4 own = wipe σ own := by rw [wipe_chg cw, wipe_wipe]
      refine ⟨ew, ?_⟩
      have ok4 : Ok G3 H2 (fun a => (one D a + Fa a + Fs a) + F4 a) := ok3.sub fun a => by have := l4 a; omega
      have fr4 : Fr G1 H1 F1 G3 H2 (fun a => (one D a + Fa a + Fs a) + F4 a) := (fri.trans fr3).sub fun a => by have := l4 a; omega
      have hD3 : H2 D = some (.lst ws) := by rw [st3 D (by rw [one_self]; omega)]; exact hDw
      refine ht σ4 ρa F4 G3 H2 E4 (ok4.sub fun a => by omega) b ρb eb _ fun F5 G5 H5 E5 ok5 fr5 => ?_
      obtain ⟨ok5', fr5', st5⟩ := fr5.side (F1 := fun a => one D a + Fa a + Fs a) ok4 ok5
      have hD5 : H5 D = some (.lst ws) := by rw [st5 D (by show one D D + _ + _ ≠ 0; rw [one_self]; omega)]; exact hD3
      have hacc5 := OwnAll.mono fr5.g _ _ _ hacc3 fun a ha => st5 a (show one D a + Fa a + Fs a ≠ 0 by omega)
      have sti5 : ∀ a, Fs a ≠ 0 → H5 a = H1 a := fun a ha => by rw [st5 a (show one D a + Fa a + Fs a ≠ 0 by omega), st3 a (by omega)]; exact sti a ha
      cases b with
      | false =>
        simp only [Bool.false_eq_true, if_false] at ei ⊢
        obtain ⟨F6, l6, E6⟩ := E5.dropAll own
        rw [ew] at E6
        exact ⟨_, F6, G5, acc, ws, Fa, rest, hD5, hacc5, E6, ok5'.sub fun a => by have := l6 a; omega, (fr4.trans fr5').sub fun a => by have := l6 a; omega, sti5, ei, rfl, by omega⟩
      | true =>
        simp only [if_true] at ei ⊢
        obtain ⟨⟨xe, ρe⟩, ex, ei⟩ := bind_some ei
        obtain ⟨y, ey, ei⟩ := bind_some ei
        obtain ⟨⟨rest', ρr⟩, er, ei⟩ := bind_some ei
        simp only [Option.some.injEq, Prod.mk.injEq] at ei
        obtain ⟨rfl, rfl⟩ := ei
        refine he σ4 ρb F5 G5 H5 E5 ok5 xe ρe ex _ fun v Fx F6 G6 H6 o6 E6 ok6 fr6 => ?_
        obtain ⟨ok6', fr6', st6⟩ := fr6.side (F1 := fun a => one D a + Fa a + Fs a) ok5' ok6
        have hD6 : H6 D = some (.lst ws) := by rw [st6 D (by show one D D + _ + _ ≠ 0; rw [one_self]; omega)]; exact hD5
        have hacc6 := OwnAll.mono fr6.g _ _ _ hacc5 fun a ha => st6 a (show one D a + Fa a + Fs a ≠ 0 by omega)
        have sti6 : ∀ a, Fs a ≠ 0 → H6 a = H1 a := fun a ha => by rw [st6 a (show one D a + Fa a + Fs a ≠ 0 by omega)]; exact sti5 a ha
        have ok6r : Ok G6 H6 (fun a => Fx a + ((one D a + Fa a + Fs a) + F6 a)) := ok6'.congr fun a => by omega
        obtain ⟨G7, Fy, o7, ok7, fr7⟩ := keep_ok o6 ok6r ey
        obtain ⟨F8, l8, E8⟩ := (OwnE.mono fr7.g _ _ _ E6 fun _ _ => rfl).dropAll own
        rw [ew] at E8
        have hacc7 := OwnAll.mono fr7.g _ _ _ hacc6 fun _ _ => rfl
        -- the list grows
        have hDn : ∀ a, a ≠ D → upd H6 D (.lst (ws ++ [v])) a = H6 a := fun a ha => upd_ne ha
        have key : ∀ a, one D a + (Fy a + Fa a + Fs a + F6 a) ≤ 1 := fun a => by have := ok7.nd a; omega
        have hno : Fy D = 0 ∧ Fa D = 0 ∧ Fs D = 0 ∧ F6 D = 0 := by have := key D; rw [one_self] at this; omega
        have ne : ∀ (P : FP), P D = 0 → ∀ a, P a ≠ 0 → a ≠ D := fun P h a ha z => by subst z; exact ha h
        refine ⟨ws, hD6, ?_, ?_⟩
        · have h1 := hacc6.len
          rw [← h1, sizeLine_eq]
          omega
        · have okN : Ok G7 (upd H6 D (.lst (ws ++ [v]))) (fun a => (one D a + (Fa a + Fy a) + Fs a) + F8 a) := by
            have okb : Ok G7 H6 (fun a => (one D a + (Fa a + Fy a) + Fs a) + F8 a) := ok7.sub fun a => by have := l8 a; omega
            have gD : G7 D = none := okb.dj D (by rw [one_self]; omega)
            refine ⟨fun a o z => ?_, okb.nd, okb.dj, fun a ha => upd_al _ _ _ a (okb.kn a ha), fun a xs z => by
              by_cases q : a = D
              · subst q; rw [upd_same] at z; cases z
              · rw [upd_ne q] at z; exact okb.tu a xs z, fun a ps z => by
              by_cases q : a = D
              · subst q; rw [upd_same] at z; cases z
              · rw [upd_ne q] at z; exact okb.nt a ps z, tb_upd okb (fun ps e => by rw [hD6] at e; cases e) fun _ _ h => h, fun a f z => by
              by_cases q : a = D
              · subst q; rw [upd_same] at z; cases z
              · rw [upd_ne q] at z; exact okb.cd a f z⟩
            rw [hDn a (fun q => by subst q; rw [gD] at z; cases z)]
            exact okb.le a o z
          have frN : Fr G1 H1 F1 G7 (upd H6 D (.lst (ws ++ [v]))) (fun a => (one D a + (Fa a + Fy a) + Fs a) + F8 a) := by
            have frb : Fr G1 H1 F1 G7 H6 (fun a => (one D a + (Fa a + Fy a) + Fs a) + F8 a) :=
              ((fr4.trans fr5').trans (fr6'.trans (fr7.congr (fun a => by show _ = Fx a + ((one D a + Fa a + Fs a) + F6 a); omega) fun _ => rfl))).sub fun a => by have := l8 a; omega
            refine ⟨frb.g, fun a o z f0 nb => ?_, frb.f, frb.gf, fun a z => vac_upd (by intro ps h; cases h) a (frb.al a z)⟩
            rw [hDn a (fun q => by subst q; rw [hD] at z; cases z)]
            exact frb.h a o z f0 nb
          have hacc8 := OwnAll.mono (fun _ _ h => h) _ _ _ hacc7 (H' := upd H6 D (.lst (ws ++ [v]))) fun a ha => hDn a (ne Fa hno.2.1 a ha)
          have o8 := Own.mono (fun _ _ h => h) y v Fy o7 (H' := upd H6 D (.lst (ws ++ [v]))) fun a ha => hDn a (ne Fy hno.1 a ha)
          have E9 := OwnE.mono (fun _ _ h => h) _ _ _ E8 (H' := upd H6 D (.lst (ws ++ [v]))) fun a ha => hDn a (ne F6 hno.2.2.2 a (by have := l8 a; omega))
          exact ⟨_, F8, G7, acc ++ [y], ws ++ [v], fun a => Fa a + Fy a, rest', upd_same, hacc8.snoc o8, E9, okN, frN,
            fun a ha => by rw [hDn a (ne Fs hno.2.2.1 a ha)]; exact sti6 a ha, er, by rw [List.append_assoc]; rfl, by rw [List.length_append, List.length_singleton]; omega⟩
    · have hin : i = ds.length := by omega
      subst hin
      rw [List.drop_length] at ei
      simp only [lcL, Option.some.injEq, Prod.mk.injEq] at ei
      obtain ⟨rfl, rfl⟩ := ei
      refine .inl ⟨w.stop H' (fun a o z => oki.le a o (gle a o z)), ?_⟩
      have E9 := W2 Gi H' _ Fi gle sti hl Ei
      refine k (.ref D) (fun a => one D a + Fa a) _ Gi H' ?_ E9 (oki.congr fun a => ?_) ((fr1.trans fri).congr (fun _ => rfl) fun a => ?_)
      · rw [List.append_nil]
        simp only [Own]
        exact ⟨D, ws, Fa, rfl, hDw, hacc, fun _ => rfl⟩
      · show one D a + Fa a + (Fi a + Fs a) = _; omega
      · show one D a + Fa a + (Fi a + Fs a) = _; omega
end
end MP
namespace MP
open PySem L2
variable [LamT]
inductive Out where
  | nx
  | rt (x : Vl)
  | bk
  | ct
abbrev MS := Sl → Option (Out × Sl)
def Keep (np : Nat) (σ σ' : St) : Prop := ∀ j, j < np → σ'[j]? = σ[j]?
theorem Keep.refl {np : Nat} {σ : St} : Keep np σ σ := fun _ _ => rfl
theorem Keep.trans {np : Nat} {σ σ' σ'' : St} (a : Keep np σ σ') (b : Keep np σ' σ'') : Keep np σ σ'' := fun j h => (b j h).trans (a j h)
def PostS (K : PySem.W.Frag) (np : Nat) (σ : St) (G : Hp) (H : Hp) (F : FP) (D : Ends) : Out → Sl → Prop
  | .nx, ρ' => ∀ σ' F' (G' : Hp) H', Keep np σ σ' → OwnE K G' H' ρ' σ' F' → Ok G' H' F' → Fr G H F G' H' F' → D.nx σ' H'
  | .bk, ρ' => ∀ σ' F' (G' : Hp) H', Keep np σ σ' → OwnE K G' H' ρ' σ' F' → Ok G' H' F' → Fr G H F G' H' F' → D.bk σ' H'
  | .ct, ρ' => ∀ σ' F' (G' : Hp) H', Keep np σ σ' → OwnE K G' H' ρ' σ' F' → Ok G' H' F' → Fr G H F G' H' F' → D.ct σ' H'
  | .rt x, ρ' => ∀ v σ' Fx F' (G' : Hp) H', Keep np σ σ' → Own K G' H' x v Fx → OwnE K G' H' ρ' σ' F' → Ok G' H' (fun a => Fx a + F' a) → Fr G H F G' H' (fun a => Fx a + F' a) → D.rt v H'
def SimS (K : PySem.W.Frag) (np : Nat) (t : TS) (f : MS) : Prop :=
  ∀ (σ : St) (ρ : Sl) (F : FP) (G : Hp) (H : Hp), OwnE K G H ρ σ F → Ok G H F → ∀ o ρ', f ρ = some (o, ρ') → ∀ D : Ends, PostS K np σ G H F D o ρ' → t D σ H
theorem PostS.later {K : PySem.W.Frag} {np : Nat} {σ σ1 : St} {G G1 : Hp} {H H1 : Hp} {F F1 : FP} {D D' : Ends} {o : Out} {ρ : Sl} (p : PostS K np σ G H F D o ρ) (kp : Keep np σ σ1) (fr : Fr G H F G1 H1 F1)
    (hr : D'.rt = D.rt) (hn : o = .nx → D'.nx = D.nx) (hb : o = .bk → D'.bk = D.bk) (hc : o = .ct → D'.ct = D.ct) : PostS K np σ1 G1 H1 F1 D' o ρ := by
  cases o with
  | nx => intro σ' F' G' H' k e ok f; rw [hn rfl]; exact p σ' F' G' H' (kp.trans k) e ok (fr.trans f)
  | bk => intro σ' F' G' H' k e ok f; rw [hb rfl]; exact p σ' F' G' H' (kp.trans k) e ok (fr.trans f)
  | ct => intro σ' F' G' H' k e ok f; rw [hc rfl]; exact p σ' F' G' H' (kp.trans k) e ok (fr.trans f)
  | rt x => intro v σ' Fx F' G' H' k o e ok f; rw [hr]; exact p v σ' Fx F' G' H' (kp.trans k) o e ok (fr.trans f)
section
variable {K : PySem.W.Frag} {np : Nat}
@[simp] def sNil : MS := fun ρ => some (.nx, ρ)
@[simp] def sSeq (f g : MS) : MS := fun ρ => (f ρ).bind fun p => match p.1 with
  | .nx => g p.2
  | o => some (o, p.2)
theorem ss_nil : SimS K np tNext sNil := by
  intro σ ρ F G H hE ok o ρ' e D p
  simp only [sNil, Option.some.injEq, Prod.mk.injEq] at e
  obtain ⟨rfl, rfl⟩ := e
  exact p σ F G H .refl hE ok (Fr.refl ok)
theorem ss_seq {t u : TS} {f g : MS} (h1 : SimS K np t f) (h2 : SimS K np u g) : SimS K np (tSeq t u) (sSeq f g) := by
  intro σ ρ F G H hE ok o ρ' e D p
  obtain ⟨⟨o1, ρ1⟩, e1, ea⟩ := bind_some e
  clear e
  refine h1 σ ρ F G H hE ok o1 ρ1 e1 _ ?_
  cases o1 with
  | nx =>
    intro σ1 F1 G1 H1 kp E1 ok1 fr1
    exact h2 σ1 ρ1 F1 G1 H1 E1 ok1 o ρ' ea D (p.later kp fr1 rfl (fun _ => rfl) (fun _ => rfl) fun _ => rfl)
  | bk => simp only [Option.some.injEq, Prod.mk.injEq] at ea; obtain ⟨rfl, rfl⟩ := ea; exact p
  | ct => simp only [Option.some.injEq, Prod.mk.injEq] at ea; obtain ⟨rfl, rfl⟩ := ea; exact p
  | rt x => simp only [Option.some.injEq, Prod.mk.injEq] at ea; obtain ⟨rfl, rfl⟩ := ea; exact p
@[simp] def sIf (t : MT) (f g : MS) : MS := fun ρ => (t ρ).bind fun p => if p.1 then f p.2 else g p.2
theorem ss_if {c : TT} {t u : TS} {m : MT} {f g : MS} (h : SimT K c m) (h1 : SimS K np t f) (h2 : SimS K np u g) : SimS K np (tIfS c t u) (sIf m f g) := by
  intro σ ρ F G H hE ok o ρ' e D p
  obtain ⟨⟨b, ρ1⟩, e1, ea⟩ := bind_some e
  refine h σ ρ F G H hE ok b ρ1 e1 _ fun F1 G1 H1 E1 ok1 fr1 => ?_
  have p' := fun D => p.later (D' := D) (σ1 := σ) .refl fr1
  cases b with
  | true =>
    simp only [if_true] at ea ⊢
    exact h1 σ ρ1 F1 G1 H1 E1 ok1 o ρ' ea D (p' D rfl (fun _ => rfl) (fun _ => rfl) fun _ => rfl)
  | false =>
    simp only [Bool.false_eq_true, if_false] at ea ⊢
    exact h2 σ ρ1 F1 G1 H1 E1 ok1 o ρ' ea D (p' D rfl (fun _ => rfl) (fun _ => rfl) fun _ => rfl)
def sBrk : MS := fun ρ => some (.bk, ρ)
def sCnt : MS := fun ρ => some (.ct, ρ)
theorem ss_brk : SimS K np tBreak sBrk := by
  intro σ ρ F G H hE ok o ρ' e D p
  simp only [sBrk, Option.some.injEq, Prod.mk.injEq] at e
  obtain ⟨rfl, rfl⟩ := e
  exact p σ F G H .refl hE ok (Fr.refl ok)
theorem ss_cnt : SimS K np tCont sCnt := by
  intro σ ρ F G H hE ok o ρ' e D p
  simp only [sCnt, Option.some.injEq, Prod.mk.injEq] at e
  obtain ⟨rfl, rfl⟩ := e
  exact p σ F G H .refl hE ok (Fr.refl ok)
@[simp] def sRet (f : M) : MS := fun ρ => (f ρ).bind fun p => some (.rt p.1, p.2)
theorem ss_ret {t : TE} {f : M} (h : Sim K t f) : SimS K np (tRet t) (sRet f) := by
  intro σ ρ F G H hE ok o ρ' e D p
  obtain ⟨⟨x, ρ1⟩, e1, e⟩ := bind_some e
  simp only [Option.some.injEq, Prod.mk.injEq] at e
  obtain ⟨rfl, rfl⟩ := e
  exact h σ ρ F G H hE ok x ρ1 e1 _ fun v Fx F1 G1 H1 o1 E1 ok1 fr1 => p v σ Fx F1 G1 H1 .refl o1 E1 ok1 fr1
@[simp] def sRetM (i : Nat) : MS := fun ρ => match ρ[i]? with
  | some (some x) => some (.rt x, ρ.set i none)
  | _ => none
theorem ss_retM {i : Nat} : SimS K np (tRet (tVar i)) (sRetM i) := by
  intro σ ρ F G H hE ok o ρ' e D p
  unfold sRetM at e
  split at e
  · rename_i x q
    simp only [Option.some.injEq, Prod.mk.injEq] at e
    obtain ⟨rfl, rfl⟩ := e
    obtain ⟨v, F1, F2, h1, h2, h3, f⟩ := hE.take q
    refine ⟨v, h1, p v σ F1 F2 G H .refl h2 h3 (ok.congr fun a => (f a).symm) ((Fr.refl ok).congr (fun _ => rfl) fun a => (f a).symm)⟩
  · cases e
@[simp] def sRetN : MS := fun ρ => some (.rt (.fz .none), ρ)
theorem ss_retN : SimS K np tRetN sRetN := by
  intro σ ρ F G H hE ok o ρ' e D p
  simp only [sRetN, Option.some.injEq, Prod.mk.injEq] at e
  obtain ⟨rfl, rfl⟩ := e
  exact p .non σ (fun _ => 0) F G H .refl (Own.ofD dtNone) hE (ok.congr fun a => by simp) ((Fr.refl ok).congr (fun _ => rfl) fun a => by simp)
@[simp] def sExpr (f : M) : MS := fun ρ => (f ρ).bind fun p => some (.nx, p.2)
theorem ss_expr {t : TE} {f : M} (h : Sim K t f) : SimS K np (tDrop t) (sExpr f) := by
  intro σ ρ F G H hE ok o ρ' e D p
  obtain ⟨⟨x, ρ1⟩, e1, e⟩ := bind_some e
  simp only [Option.some.injEq, Prod.mk.injEq] at e
  obtain ⟨rfl, rfl⟩ := e
  exact h σ ρ F G H hE ok x ρ1 e1 _ fun v Fx F1 G1 H1 o1 E1 ok1 fr1 => p σ F1 G1 H1 .refl E1 (ok1.sub fun a => by omega) (fr1.sub fun a => by omega)
@[simp] def sSet (i : Nat) (f : M) : MS := fun ρ => (f ρ).bind fun p => if i < p.2.length then some (.nx, p.2.set i (some p.1)) else none
theorem keep_set {i : Nat} {σ : St} {s : Option V} (h : np ≤ i) : Keep np σ (σ.set i s) := fun j hj => by rw [List.getElem?_set_ne (by omega)]
theorem ss_set {i : Nat} {t : TE} {f : M} (h : Sim K t f) (hi : np ≤ i) : SimS K np (tAsg t (gName i)) (sSet i f) := by
  intro σ ρ F G H hE ok o ρ' e D p
  obtain ⟨⟨x, ρ1⟩, e1, e⟩ := bind_some e
  simp only at e
  split at e
  · rename_i hl
    simp only [Option.some.injEq, Prod.mk.injEq] at e
    obtain ⟨rfl, rfl⟩ := e
    refine h σ ρ F G H hE ok x ρ1 e1 _ fun v Fx F1 G1 H1 o1 E1 ok1 fr1 => ?_
    obtain ⟨F2, l, q⟩ := E1.setS hl o1
    exact p _ _ G1 H1 (keep_set hi) q (ok1.sub fun a => by have := l a; omega) (fr1.sub fun a => by have := l a; omega)
  · cases e
@[simp] def sTg (tg : Tg) (f : M) : MS := fun ρ => (f ρ).bind fun p => (erase p.1).bind fun d => (asg tg d p.2).bind fun ρ' => some (.nx, ρ')
theorem ss_tg {tg : Tg} {t : TE} {f : M} (h : Sim K t f) (hi : ∀ i ∈ tg.slots, np ≤ i) : SimS K np (tAsg t (gOf K tg)) (sTg tg f) := by
  intro σ ρ F G H hE ok o ρ' e D p
  obtain ⟨⟨x, ρ1⟩, e1, e⟩ := bind_some e
  obtain ⟨d, e2, e⟩ := bind_some e
  obtain ⟨ρ2, e3, e⟩ := bind_some e
  simp only [Option.some.injEq, Prod.mk.injEq] at e
  obtain ⟨rfl, rfl⟩ := e
  refine h σ ρ F G H hE ok x ρ1 e1 _ fun v Fx F1 G1 H1 o1 E1 ok1 fr1 => ?_
  obtain ⟨ok2, fr2⟩ := thaw_ok ok1
  have hd := Own.frz (thaw_le ok1) x v Fx d o1 e2 thaw_at
  refine sg tg d v σ ρ1 ρ2 F1 (thaw G1 H1 Fx) H1 (OwnE.mono (thaw_le ok1) _ _ _ E1 fun _ _ => rfl) ok2 hd e3 _ fun σ' F' E' l c => ?_
  exact p σ' F' _ H1 (fun j hj => c.at_ j fun z => absurd (hi j z) (by omega)) E' (ok2.sub l) ((fr1.trans fr2).sub l)
@[simp] def sPar (i j : Nat) (f g : M) : MS := fun ρ => (f ρ).bind fun p => (g p.2).bind fun q => if i < q.2.length ∧ j < q.2.length then some (.nx, (q.2.set i (some p.1)).set j (some q.1)) else none
theorem ss_par {i j : Nat} {t u : TE} {f g : M} (h1 : Sim K t f) (h2 : Sim K u g) (hi : np ≤ i) (hj : np ≤ j) : SimS K np (tPar i j (tCons t (tCons u tNil))) (sPar i j f g) := by
  intro σ ρ F G H hE ok o ρ' e D p
  obtain ⟨⟨x, ρ1⟩, e1, e⟩ := bind_some e
  obtain ⟨⟨y, ρ2⟩, e2, e⟩ := bind_some e
  simp only at e
  split at e
  · rename_i hl
    simp only [Option.some.injEq, Prod.mk.injEq] at e
    obtain ⟨rfl, rfl⟩ := e
    refine h1 σ ρ F G H hE ok x ρ1 e1 _ fun v Fx F1 G1 H1 o1 E1 ok1 fr1 => ?_
    refine h2 σ ρ1 F1 G1 H1 E1 (ok1.sub fun a => by omega) y ρ2 e2 _ fun w Fy F2 G2 H2 o2 E2 ok2 fr2 => ?_
    obtain ⟨ok3, fr3, st3⟩ := fr2.side (F1 := Fx) ok1 ok2
    have o1' := Own.mono fr2.g x v Fx o1 st3
    refine ⟨v, w, rfl, ?_⟩
    obtain ⟨F4, l4, q4⟩ := E2.setS hl.1 o1'
    obtain ⟨F5, l5, q5⟩ := q4.setS (i := j) (by rw [List.length_set]; exact hl.2) o2
    have l : ∀ a, Fy a + F5 a ≤ Fx a + (Fy a + F2 a) := fun a => by have := l4 a; have := l5 a; omega
    exact p _ _ G2 H2 ((keep_set hi).trans (keep_set hj)) q5 (ok3.sub l) ((fr1.trans fr3).sub l)
  · cases e
@[simp] def sAug (i : Nat) (op : Int → Int → Int) (f : M) : MS := fun ρ => match ρ[i]? with
  | some (some (.fz (.int a))) => (f ρ).bind fun p => match p.1 with
    | .fz (.int b) => if i < p.2.length then some (.nx, p.2.set i (some (.fz (.int (op a b))))) else none
    | _ => none
  | _ => none
theorem ss_aug {i : Nat} {op : Int → Int → Int} {t : TE} {f : M} (h : Sim K t f) (hi : np ≤ i) : SimS K np (tAug i t (ipI op)) (sAug i op f) := by
  intro σ ρ F G H hE ok o ρ' e D p
  unfold sAug at e
  split at e
  · rename_i a q
    obtain ⟨⟨x, ρ1⟩, e1, e⟩ := bind_some e
    obtain ⟨v, A, B, h1, h2, h3, f'⟩ := hE.take q
    have hv := h2.fzF
    simp only [Dt] at hv
    subst hv
    refine ⟨_, h1, ?_⟩
    refine h σ ρ F G H hE ok x ρ1 e1 _ fun v Fx F1 G1 H1 o1 E1 ok1 fr1 => ?_
    simp only at e
    split at e
    · have hv := o1.fzF
      simp only [Dt] at hv
      subst hv
      split at e
      · rename_i hl
        simp only [Option.some.injEq, Prod.mk.injEq] at e
        obtain ⟨rfl, rfl⟩ := e
        obtain ⟨F2, l, q2⟩ := E1.setS hl (Own.ofD (H := H1) (dtInt (K := K) (G := G1)))
        refine ⟨_, _, rfl, rfl, ?_⟩
        have l2 : ∀ a, 0 + F2 a ≤ Fx a + F1 a := fun a => by have := l a; omega
        exact p _ _ G1 H1 (keep_set hi) q2 (ok1.sub l2) (fr1.sub l2)
      · cases e
    · cases e
  · cases e
@[simp] def φSet : Φ
  | [y, .ls xs, .fz (.int k)] => (erase y).bind fun d => (ixN xs.length k).bind fun j => some (.fz .none, [.fz d, .ls (xs.set j (.fz d)), .fz (.int k)])
  | _ => none
theorem OwnAll.setD {G H : Hp} : ∀ {xs : List Vl} {vs : List V} {F : FP} (j : Nat) {d : PyData} {v : V}, OwnAll K G H xs vs F → Dt K G d v → ∃ F', (∀ a, F' a ≤ F a) ∧ OwnAll K G H (xs.set j (.fz d)) (vs.set j v) F'
  | [], vs, F, j, d, v, h, hd => by
    simp only [OwnAll] at h
    obtain ⟨rfl, f⟩ := h
    refine ⟨F, fun _ => Nat.le_refl _, ?_⟩
    simp only [List.set_nil, OwnAll]
    exact ⟨trivial, f⟩
  | x :: xs, vs, F, 0, d, v, h, hd => by
    simp only [OwnAll] at h
    obtain ⟨w, r, A, B, rfl, h1, h2, f⟩ := h
    refine ⟨B, fun a => by rw [f]; omega, ?_⟩
    simp only [List.set_cons_zero, OwnAll]
    exact ⟨v, r, fun _ => 0, B, rfl, Own.ofD hd, h2, fun a => by simp⟩
  | x :: xs, vs, F, j + 1, d, v, h, hd => by
    simp only [OwnAll] at h
    obtain ⟨w, r, A, B, rfl, h1, h2, f⟩ := h
    obtain ⟨F', l, q⟩ := h2.setD j hd
    refine ⟨fun a => A a + F' a, fun a => by rw [f]; have := l a; show A a + F' a ≤ _; omega, ?_⟩
    simp only [List.set_cons_succ, OwnAll]
    exact ⟨w, r.set j v, A, F', rfl, h1, q, fun _ => rfl⟩
theorem ok_write {G : Hp} {H : Hp} {F : FP} {p : Addr} {o o' : HO} {F' : FP} (ok : Ok G H (fun a => one p a + F a)) (hp : H p = some o) (l : ∀ a, F' a ≤ F a) (ho : ∀ xs, o' ≠ .tup xs := by intro xs h; cases h) (hb : ∀ ps, o' ≠ .tbl ps := by intro ps h; cases h) (hc : ∀ f, o' ≠ .ext f := by intro f h; cases h) :
    Ok G (upd H p o') (fun a => one p a + F' a) ∧ Fr G H (fun a => one p a + F a) G (upd H p o') (fun a => one p a + F' a) ∧ ∀ a, F a ≠ 0 → upd H p o' a = H a := by
  have g0 : G p = none := ok.dj p (by rw [one_self]; omega)
  have f0 : F p = 0 := by have := ok.nd p; rw [one_self] at this; omega
  have nb : ∀ ps, H p ≠ some (.tbl ps) := fun ps e => by have := (ok.nt p ps e).1; rw [one_self] at this; omega
  refine ⟨⟨fun a u h => ?_, fun a => ?_, fun a h => ok.dj a (by have := l a; omega), fun a h => upd_al _ _ _ a (ok.kn a (by have := l a; omega)), fun a xs h => by
    by_cases e : a = p
    · subst e; rw [upd_same] at h; exact absurd (Option.some.inj h) (ho xs)
    · rw [upd_ne e] at h; exact ok.tu a xs h, fun a ps h => by
    by_cases e : a = p
    · subst e; rw [upd_same] at h; exact absurd (Option.some.inj h) (hb ps)
    · rw [upd_ne e] at h; have h9 := ok.nt a ps h; have := l a; exact ⟨by omega, h9.2⟩, tb_upd ok nb fun _ _ h => h, fun a f h => by
    by_cases e : a = p
    · subst e; rw [upd_same] at h; exact absurd (Option.some.inj h) (hc f)
    · rw [upd_ne e] at h; exact ok.cd a f h⟩, ⟨fun _ _ h => h, fun a u h z _ => ?_, fun a h => .inl (by have := l a; omega), fun a h => .inl h, vac_upd hb⟩, fun a h => ?_⟩
  · rw [upd_ne (fun e => by subst e; rw [g0] at h; cases h)]; exact ok.le a u h
  · have := ok.nd a; have := l a; omega
  · rw [upd_ne (fun e => by subst e; rw [one_self] at z; omega)]; exact h
  · rw [upd_ne (fun e => by subst e; exact h f0)]
def rSet3 : RN := fun vs H Q => match vs with
  | [y, o, i] => rSetL o i y H (fun H' => Q .non H')
  | _ => False
theorem own3 {G H : Hp} {x y z : Vl} {vs : List V} {F : FP} (h : OwnAll K G H [x, y, z] vs F) : ∃ v w u A B C, vs = [v, w, u] ∧ Own K G H x v A ∧ Own K G H y w B ∧ Own K G H z u C ∧ ∀ a, F a = A a + B a + C a := by
  simp only [OwnAll] at h
  obtain ⟨v, _, A, F1, rfl, h1, ⟨w, _, B, F2, rfl, h2, ⟨u, _, C, F3, rfl, h3, ⟨rfl, f4⟩, f3⟩, f2⟩, f1⟩ := h
  exact ⟨v, w, u, A, B, C, rfl, h1, h2, h3, fun a => by rw [f1, f2, f3, f4]; omega⟩
theorem own2 {G H : Hp} {x y : Vl} {vs : List V} {F : FP} (h : OwnAll K G H [x, y] vs F) : ∃ v w A B, vs = [v, w] ∧ Own K G H x v A ∧ Own K G H y w B ∧ ∀ a, F a = A a + B a := by
  simp only [OwnAll] at h
  obtain ⟨v, _, A, F1, rfl, h1, ⟨w, _, B, F2, rfl, h2, ⟨rfl, f4⟩, f2⟩, f1⟩ := h
  exact ⟨v, w, A, B, rfl, h1, h2, fun a => by rw [f1, f2, f4]; omega⟩
theorem mk2 {G H : Hp} {x y : Vl} {v w : V} {A B F : FP} (h1 : Own K G H x v A) (h2 : Own K G H y w B) (f : ∀ a, F a = A a + B a) : OwnAll K G H [x, y] [v, w] F := by
  simp only [OwnAll]
  exact ⟨v, [w], A, B, rfl, h1, ⟨w, [], B, fun _ => 0, rfl, h2, ⟨rfl, fun _ => rfl⟩, fun a => by simp⟩, f⟩
theorem mk3 {G H : Hp} {x y z : Vl} {v w u : V} {A B C F : FP} (h1 : Own K G H x v A) (h2 : Own K G H y w B) (h3 : Own K G H z u C) (f : ∀ a, F a = A a + (B a + C a)) : OwnAll K G H [x, y, z] [v, w, u] F := by
  have h := mk2 h2 h3 (F := fun a => B a + C a) fun _ => rfl
  simp only [OwnAll] at h ⊢
  exact ⟨v, [w, u], A, _, rfl, h1, h, f⟩
theorem os_set : OpSem K rSet3 φSet := by
  intro vs xs F G H ho ok x ys e Q k
  unfold φSet at e
  split at e
  · rename_i y zs kk
    obtain ⟨d, e1, e⟩ := bind_some e
    obtain ⟨j, e2, e⟩ := bind_some e
    simp only [Option.some.injEq, Prod.mk.injEq] at e
    obtain ⟨rfl, rfl⟩ := e
    obtain ⟨v, w, u, A, B, C, rfl, h1, h2, h3, f⟩ := own3 ho
    have hu := h3.fzF
    simp only [Dt] at hu
    subst hu
    have c0 := h3.fz0
    -- the value is frozen
    have ok1 : Ok G H (fun a => A a + B a) := ok.congr fun a => by rw [f, c0]; omega
    obtain ⟨ok2, fr2⟩ := thaw_ok ok1
    have hd := Own.frz (thaw_le ok1) y v A d h1 e1 thaw_at
    have h2' := Own.mono (thaw_le ok1) _ w B h2 fun _ _ => rfl
    simp only [Own] at h2'
    obtain ⟨p, ws, F', rfl, hp, hw, fB⟩ := h2'
    have hl := hw.len
    obtain ⟨F2, l2, q2⟩ := hw.setD j hd
    have okp : Ok (thaw G H A) H (fun a => one p a + F' a) := ok2.congr fun a => (fB a).symm
    obtain ⟨a1, a2, a3⟩ := ok_write (o' := .lst (ws.set j v)) okp hp l2
    refine ⟨p, ws, kk, j, rfl, rfl, hp, by rw [← hl]; exact e2, ?_⟩
    have q3 := OwnAll.mono (fun _ _ h => h) _ _ _ q2 (H' := upd H p (.lst (ws.set j v))) fun a ha => a3 a (by have := l2 a; omega)
    refine k .non (fun _ => 0) (fun a => one p a + F2 a) (thaw G H A) _ (Own.ofD dtNone) (mk3 (Own.ofD hd) (B := fun a => one p a + F2 a) ?_ (Own.ofD dtInt) fun a => by simp) (a1.congr fun a => by simp) ?_
    · simp only [Own]
      exact ⟨p, _, F2, rfl, upd_same, q3, fun _ => rfl⟩
    · refine (((fr2.congr (F1 := F) (fun a => ?_) fun _ => rfl).trans (a2.congr (fun a => fB a) fun _ => rfl))).congr (fun _ => rfl) fun a => by simp
      rw [f, c0]; omega
  · cases e
@[simp] noncomputable def sSetIx (i : Nat) (k : M) (f : M) : MS := fun ρ => (mOp φSet (aEx f (aNm i (aEx k aNil))) ρ).bind fun p => some (.nx, p.2)
theorem ss_setIx {i : Nat} {te tk : TE} {f k : M} (h : Sim K te f) (hk : Sim K tk k) : SimS K np (tAsg te (gSub (tVar i) tk rSetL)) (sSetIx i k f) := by
  intro σ ρ F G H hE ok o ρ' e D p
  obtain ⟨⟨x, ρ1⟩, e1, e⟩ := bind_some e
  simp only [Option.some.injEq, Prod.mk.injEq] at e
  obtain ⟨rfl, rfl⟩ := e
  have h0 := sim_op os_set (sa_ex h (sa_nm (i := i) (sa_ex hk sa_nil))) σ ρ F G H hE ok x ρ1 e1 (fun _ H' => D.nx σ H') fun v Fx F1 G1 H1 o1 E1 ok1 fr1 => p σ F1 G1 H1 .refl E1 (ok1.sub fun a => by omega) (fr1.sub fun a => by omega)
  exact h0
@[simp] def φApp : Φ
  | [.ls xs, y] => (erase y).bind fun d => if small (xs.length + 1) then some (.fz .none, [.ls (xs ++ [.fz d]), .fz d]) else none
  | _ => none
theorem os_app : OpSem K (rMt rAppend) φApp := by
  intro vs xs F G H ho ok x ys e Q k
  unfold φApp at e
  split at e
  · rename_i zs y
    obtain ⟨d, e1, e⟩ := bind_some e
    split at e
    · rename_i hz
      simp only [Option.some.injEq, Prod.mk.injEq] at e
      obtain ⟨rfl, rfl⟩ := e
      obtain ⟨w, v, B, A, rfl, h2, h1, f⟩ := own2 ho
      have ok1 : Ok G H (fun a => A a + B a) := ok.congr fun a => by rw [f]; omega
      obtain ⟨ok2, fr2⟩ := thaw_ok ok1
      have hd := Own.frz (thaw_le ok1) y v A d h1 e1 thaw_at
      have h2' := Own.mono (thaw_le ok1) _ w B h2 fun _ _ => rfl
      simp only [Own] at h2'
      obtain ⟨p, ws, F', rfl, hp, hw, fB⟩ := h2'
      have hl := hw.len
      have okp : Ok (thaw G H A) H (fun a => one p a + F' a) := ok2.congr fun a => (fB a).symm
      obtain ⟨a1, a2, a3⟩ := ok_write (o' := .lst (ws ++ [v])) okp hp fun a => Nat.le_refl (F' a)
      refine ⟨p, ws, v, rfl, rfl, hp, ?_, ?_⟩
      · have := small_line hz
        omega
      · have q3 := (OwnAll.mono (fun _ _ h => h) _ _ _ hw (H' := upd H p (.lst (ws ++ [v]))) fun a ha => a3 a ha).snoc (Own.ofD (H := upd H p (.lst (ws ++ [v]))) hd)
        refine k .non (fun _ => 0) (fun a => one p a + F' a) (thaw G H A) _ (Own.ofD dtNone) (mk2 (A := fun a => one p a + F' a) ?_ (Own.ofD hd) fun a => by simp) (a1.congr fun a => by simp) ?_
        · simp only [Own]
          exact ⟨p, _, _, rfl, upd_same, q3, fun _ => by simp⟩
        · refine (((fr2.congr (F1 := F) (fun a => ?_) fun _ => rfl).trans (a2.congr (fun a => fB a) fun _ => rfl))).congr (fun _ => rfl) fun a => by simp
          rw [f]; omega
    · cases e
  · cases e
end
end MP
namespace MP
open PySem L2
variable [LamT]
def forL (tg : Tg) (body : MS) : List PyData → Sl → Option (Out × Sl)
  | [], ρ => some (.nx, ρ)
  | d :: ds, ρ => (asg tg d ρ).bind fun ρ1 => (body ρ1).bind fun p => match p.1 with
    | .nx => forL tg body ds p.2
    | .ct => forL tg body ds p.2
    | .bk => some (.nx, p.2)
    | .rt x => some (.rt x, p.2)
def sFor (it : MIt) (tg : Tg) (body : MS) : MS := fun ρ => (it ρ).bind fun p => forL tg body p.1 p.2
def loopN (c : MT) (body : MS) : Nat → Sl → Option (Out × Sl)
  | 0, _ => none
  | n + 1, ρ => (c ρ).bind fun p => if p.1 then (body p.2).bind fun q => match q.1 with
      | .nx => loopN c body n q.2
      | .ct => loopN c body n q.2
      | .bk => some (.nx, q.2)
      | .rt x => some (.rt x, q.2)
    else some (.nx, p.2)
open Classical in
noncomputable def sWhile (c : MT) (body : MS) : MS := fun ρ => if h : ∃ n r, loopN c body n ρ = some r then loopN c body (choose h) ρ else none
section
variable {K : PySem.W.Frag} {np : Nat}
theorem ss_for {wi : TI} {it : MIt} {tg : Tg} {tb : TS} {body : MS} (hi : SimIt K wi it) (hb : SimS K np tb body) (hs : ∀ i ∈ tg.slots, np ≤ i) : SimS K np (tFor wi (gOf K tg) tb) (sFor it tg body) := by
  intro σ ρ F G H hE ok o ρ' e D p
  obtain ⟨⟨ds, ρ1⟩, e1, e⟩ := bind_some e
  refine hi σ ρ F G H hE ok ds ρ1 e1 _ fun J F1 G1 H1 w E1 ok1 fr1 => ?_
  let INV : Nat → St → Hp → Prop := fun i σ' H' => ∃ (ρi : Sl) (Fi : FP) (Gi : Hp), Keep np σ σ' ∧ OwnE K Gi H' ρi σ' Fi ∧ Ok Gi H' Fi ∧ Fr G1 H1 F1 Gi H' Fi ∧ forL tg body (ds.drop i) ρi = some (o, ρ')
  refine ⟨fun i m σ' H' => m = ds.length - i ∧ i ≤ ds.length ∧ INV i σ' H', ⟨ds.length, by simp, Nat.zero_le _, ρ1, F1, G1, .refl, E1, ok1, Fr.refl ok1, e⟩, ?_⟩
  rintro i m σ' H' ⟨rfl, hi', ρi, Fi, Gi, kp, Ei, oki, fri, ei⟩
  have gle : Le G1 Gi := fri.g
  by_cases hlt : i < ds.length
  · refine .inr ⟨w.go i H' hlt (fun a o z => oki.le a o (gle a o z)), INV (i + 1), fun σ2 H2 q => ⟨ds.length - (i + 1), by omega, rfl, hlt, q⟩, fun x H2 yl => ?_⟩
    have ed : ds[i]? = some ds[i] := List.getElem?_eq_getElem hlt
    obtain ⟨G3h, s3, hx⟩ := w.yld i H' x H2 ds[i] Gi ed gle oki.le yl
    let G3 : Hp := G3h
    obtain ⟨ok3, fr3, st3⟩ := s3.ok oki
    rw [List.drop_eq_getElem_cons hlt] at ei
    simp only [forL] at ei
    obtain ⟨ρa, ea, ei⟩ := bind_some ei
    obtain ⟨⟨ob, ρb⟩, eb, ei⟩ := bind_some ei
    have E3 := OwnE.mono s3.g _ _ _ Ei st3
    refine sg tg ds[i] x σ' ρi ρa Fi G3 H2 E3 ok3 hx ea _ fun σ4 F4 E4 l4 c4 => ?_
    have kp4 : Keep np σ σ4 := kp.trans fun j hj => c4.at_ j fun z => absurd (hs j z) (by omega)
    have fr4 : Fr G1 H1 F1 G3 H2 F4 := (fri.trans fr3).sub l4
    refine hb σ4 ρa F4 G3 H2 E4 (ok3.sub l4) ob ρb eb _ ?_
    cases ob with
    | nx => intro σ5 F5 G5 H5 k5 E5 ok5 fr5; exact ⟨ρb, F5, G5, kp4.trans k5, E5, ok5, fr4.trans fr5, ei⟩
    | ct => intro σ5 F5 G5 H5 k5 E5 ok5 fr5; exact ⟨ρb, F5, G5, kp4.trans k5, E5, ok5, fr4.trans fr5, ei⟩
    | bk =>
      intro σ5 F5 G5 H5 k5 E5 ok5 fr5
      simp only [Option.some.injEq, Prod.mk.injEq] at ei
      obtain ⟨rfl, rfl⟩ := ei
      exact p σ5 F5 G5 H5 (kp4.trans k5) E5 ok5 (fr1.trans (fr4.trans fr5))
    | rt y =>
      intro v σ5 Fx F5 G5 H5 k5 o5 E5 ok5 fr5
      simp only [Option.some.injEq, Prod.mk.injEq] at ei
      obtain ⟨rfl, rfl⟩ := ei
      exact p v σ5 Fx F5 G5 H5 (kp4.trans k5) o5 E5 ok5 (fr1.trans (fr4.trans fr5))
  · have hin : i = ds.length := by omega
    subst hin
    rw [List.drop_length] at ei
    simp only [forL, Option.some.injEq, Prod.mk.injEq] at ei
    obtain ⟨rfl, rfl⟩ := ei
    exact .inl ⟨w.stop H' (fun a o z => oki.le a o (gle a o z)), p σ' Fi Gi H' kp Ei oki (fr1.trans fri)⟩
theorem sWhile_some {c : MT} {body : MS} {ρ : Sl} {r : Out × Sl} (h : sWhile c body ρ = some r) : ∃ n, loopN c body n ρ = some r := by
  unfold sWhile at h
  split at h
  · exact ⟨_, h⟩
  · cases h
theorem loopN_mono {c : MT} {body : MS} : ∀ {n : Nat} {ρ : Sl} {r : Out × Sl}, loopN c body n ρ = some r → ∀ {m : Nat}, n ≤ m → loopN c body m ρ = some r
  | 0, _, _, h, _, _ => by cases h
  | n + 1, ρ, r, h, 0, hm => by omega
  | n + 1, ρ, r, h, m + 1, hm => by
    simp only [loopN] at h ⊢
    obtain ⟨⟨b, ρ1⟩, e1, h⟩ := bind_some h
    rw [e1]
    simp only [Option.bind_some] at h ⊢
    cases b with
    | false => exact h
    | true =>
      simp only [if_true] at h ⊢
      obtain ⟨⟨o, ρ2⟩, e2, h⟩ := bind_some h
      rw [e2]
      simp only [Option.bind_some] at h ⊢
      cases o with
      | nx => exact loopN_mono h (by omega)
      | ct => exact loopN_mono h (by omega)
      | bk => exact h
      | rt x => exact h
theorem sWhile_of {c : MT} {body : MS} {ρ : Sl} {r : Out × Sl} {n : Nat} (h : loopN c body n ρ = some r) : sWhile c body ρ = some r := by
  have hx : ∃ n r, loopN c body n ρ = some r := ⟨n, r, h⟩
  unfold sWhile
  rw [dif_pos hx]
  obtain ⟨r', h'⟩ := Classical.choose_spec hx
  have h1 := loopN_mono h (Nat.le_max_left n (Classical.choose hx))
  have h2 := loopN_mono h' (Nat.le_max_right n (Classical.choose hx))
  rw [h1] at h2
  cases h2
  exact h'
theorem ss_while {tc : TT} {c : MT} {tb : TS} {body : MS} (hc : SimT K tc c) (hb : SimS K np tb body) : SimS K np (tWhile tc tb) (sWhile c body) := by
  intro σ ρ F G H hE ok o ρ' e D p
  obtain ⟨n, e⟩ := sWhile_some e
  let INV : Nat → St → Hp → Prop := fun m σ' H' => ∃ (ρi : Sl) (Fi : FP) (Gi : Hp), Keep np σ σ' ∧ OwnE K Gi H' ρi σ' Fi ∧ Ok Gi H' Fi ∧ Fr G H F Gi H' Fi ∧ loopN c body m ρi = some (o, ρ')
  refine ⟨INV, ⟨n, ρ, F, G, .refl, hE, ok, Fr.refl ok, e⟩, ?_⟩
  rintro m σ' H' ⟨ρi, Fi, Gi, kp, Ei, oki, fri, ei⟩
  cases m with
  | zero => cases ei
  | succ m =>
    simp only [loopN] at ei
    obtain ⟨⟨b, ρ1⟩, e1, ei⟩ := bind_some ei
    refine hc σ' ρi Fi Gi H' Ei oki b ρ1 e1 _ fun F1 G1 H1 E1 ok1 fr1 => ?_
    cases b with
    | false =>
      simp only [Bool.false_eq_true, if_false, Option.some.injEq, Prod.mk.injEq] at ei ⊢
      obtain ⟨rfl, rfl⟩ := ei
      exact p σ' F1 G1 H1 kp E1 ok1 (fri.trans fr1)
    | true =>
      simp only [if_true] at ei ⊢
      obtain ⟨⟨ob, ρb⟩, eb, ei⟩ := bind_some ei
      refine ⟨INV m, fun σ2 H2 q => ⟨m, Nat.lt_succ_self m, q⟩, ?_⟩
      refine hb σ' ρ1 F1 G1 H1 E1 ok1 ob ρb eb _ ?_
      cases ob with
      | nx => intro σ5 F5 G5 H5 k5 E5 ok5 fr5; exact ⟨ρb, F5, G5, kp.trans k5, E5, ok5, (fri.trans fr1).trans fr5, ei⟩
      | ct => intro σ5 F5 G5 H5 k5 E5 ok5 fr5; exact ⟨ρb, F5, G5, kp.trans k5, E5, ok5, (fri.trans fr1).trans fr5, ei⟩
      | bk =>
        intro σ5 F5 G5 H5 k5 E5 ok5 fr5
        simp only [Option.some.injEq, Prod.mk.injEq] at ei
        obtain ⟨rfl, rfl⟩ := ei
        exact p σ5 F5 G5 H5 (kp.trans k5) E5 ok5 ((fri.trans fr1).trans fr5)
      | rt y =>
        intro v σ5 Fx F5 G5 H5 k5 o5 E5 ok5 fr5
        simp only [Option.some.injEq, Prod.mk.injEq] at ei
        obtain ⟨rfl, rfl⟩ := ei
        exact p v σ5 Fx F5 G5 H5 (kp.trans k5) o5 E5 ok5 ((fri.trans fr1).trans fr5)
@[simp] def outs : Nat → Sl → Option (List Vl)
  | 0, _ => some []
  | n + 1, some x :: ρ => (outs n ρ).bind fun ys => some (x :: ys)
  | _, _ => none
def fnΦ (np nl : Nat) (body : MS) : Φ := fun xs => if xs.length = np then (body (xs.map some ++ List.replicate nl none)).bind fun p => match p.1 with
    | .rt x => (outs np p.2).bind fun ys => some (x, ys)
    | .nx => (outs np p.2).bind fun ys => some (.fz .none, ys)
    | _ => none
  else none
def spOf (K : PySem.W.Frag) (φ : Φ) : Sp := fun vs H Q _ => ∃ (xs : List Vl) (F : FP) (G : Hp) (x : Vl) (ys : List Vl), OwnAll K G H xs vs F ∧ Ok G H F ∧ φ xs = some (x, ys) ∧
  ∀ v Fx F' (G' : Hp) H', Own K G' H' x v Fx → OwnAll K G' H' ys vs F' → Ok G' H' (fun a => Fx a + F' a) → Fr G H F G' H' (fun a => Fx a + F' a) → Q v H'
theorem os_sp {φ : Φ} {E : XK} : OpSem K (fun vs H Q => spOf K φ vs H Q E) φ := fun vs xs F G H ho ok x ys e Q k => ⟨xs, F, G, x, ys, ho, ok, e, k⟩
theorem own_start {G H : Hp} : ∀ {xs : List Vl} {vs : List V} {F : FP} (nl : Nat), OwnAll K G H xs vs F → OwnE K G H (xs.map some ++ List.replicate nl none) (vs.map some ++ List.replicate nl none) F
  | [], vs, F, 0, h => by
    simp only [OwnAll] at h
    exact h.2
  | [], vs, F, nl + 1, h => by
    have h' := h
    simp only [OwnAll] at h
    obtain ⟨rfl, f⟩ := h
    rw [List.replicate_succ]
    exact ⟨none, List.replicate nl none, by rw [List.replicate_succ]; rfl, own_start nl h'⟩
  | x :: xs, vs, F, nl, h => by
    simp only [OwnAll] at h
    obtain ⟨v, r, A, B, rfl, h1, h2, f⟩ := h
    exact ⟨v, _, A, B, rfl, h1, own_start nl h2, f⟩
theorem outs_ok {G H : Hp} : ∀ {n : Nat} {ρ : Sl} {σ : St} {F : FP} {ys : List Vl} {vs : List V}, OwnE K G H ρ σ F → outs n ρ = some ys → vs.length = n → (∀ j, j < n → σ[j]? = (vs.map some)[j]?) → ∃ F', (∀ a, F' a ≤ F a) ∧ OwnAll K G H ys vs F'
  | 0, ρ, σ, F, ys, vs, hE, e, hl, k => by
    simp only [outs, Option.some.injEq] at e
    subst e
    have : vs = [] := List.eq_nil_of_length_eq_zero hl
    subst this
    refine ⟨fun _ => 0, fun a => Nat.zero_le _, ?_⟩
    simp only [OwnAll]
    exact ⟨trivial, fun _ => trivial⟩
  | n + 1, [], σ, F, ys, vs, hE, e, hl, k => by simp [outs] at e
  | n + 1, none :: ρ, σ, F, ys, vs, hE, e, hl, k => by simp [outs] at e
  | n + 1, some x :: ρ, σ, F, ys, vs, hE, e, hl, k => by
    simp only [outs] at e
    obtain ⟨zs, e1, e⟩ := bind_some e
    simp only [Option.some.injEq] at e
    subst e
    obtain ⟨v, r, A, B, rfl, h1, h2, f⟩ := hE
    cases vs with
    | nil => simp at hl
    | cons w ws =>
      have e0 : v = w := by simpa using k 0 (by omega)
      subst e0
      obtain ⟨F', l, q⟩ := outs_ok (n := n) h2 e1 (by simpa using hl) fun j hj => by simpa using k (j + 1) (by omega)
      refine ⟨fun a => A a + F' a, fun a => by have := l a; rw [f]; show A a + F' a ≤ _; omega, ?_⟩
      simp only [OwnAll]
      exact ⟨v, ws, A, F', rfl, h1, q, fun _ => rfl⟩
theorem fn_sim {nl : Nat} {body : MS} {t : TS} {N : List Str} {vs : List V} {H : Hp} {Q : VK} {E : XK} (hN : N.length = np + nl) (hb : SimS K np t body) (h : spOf K (fnΦ np nl body) vs H Q E) :
    vs.length = np ∧ t { nx := fun _ H' => Q .non H', rt := Q } (L2.start N vs) H := by
  obtain ⟨xs, F, G, x, ys, ho, ok, e, k⟩ := h
  have hl := ho.len
  unfold fnΦ at e
  split at e
  case isFalse => cases e
  rename_i hx
  obtain ⟨⟨o, ρ'⟩, e1, e⟩ := bind_some e
  have hv : vs.length = np := by omega
  refine ⟨hv, ?_⟩
  have hst : L2.start N vs = vs.map some ++ List.replicate nl none := by
    unfold L2.start
    rw [hN, hv, Nat.add_sub_cancel_left]
  have kpv : ∀ σ', Keep np (L2.start N vs) σ' → ∀ j, j < np → σ'[j]? = (vs.map some)[j]? := fun σ' kp j hj => by
    rw [kp j hj, hst, List.getElem?_append_left (by rw [List.length_map]; omega)]
  rw [hst]
  refine hb _ _ F G H (own_start nl ho) ok o ρ' e1 _ ?_
  rw [← hst]
  cases o with
  | nx =>
    intro σ' F' G' H' kp E' ok' fr'
    obtain ⟨zs, e2, e⟩ := bind_some e
    simp only [Option.some.injEq, Prod.mk.injEq] at e
    obtain ⟨rfl, rfl⟩ := e
    obtain ⟨F2, l2, q2⟩ := outs_ok E' e2 hv (kpv σ' kp)
    exact k .non (fun _ => 0) F2 G' H' (Own.ofD dtNone) q2 (ok'.sub fun a => by show 0 + F2 a ≤ _; have := l2 a; omega) (fr'.sub fun a => by show 0 + F2 a ≤ _; have := l2 a; omega)
  | rt y =>
    intro v σ' Fx F' G' H' kp o' E' ok' fr'
    obtain ⟨zs, e2, e⟩ := bind_some e
    simp only [Option.some.injEq, Prod.mk.injEq] at e
    obtain ⟨rfl, rfl⟩ := e
    obtain ⟨F2, l2, q2⟩ := outs_ok E' e2 hv (kpv σ' kp)
    exact k v Fx F2 G' H' o' q2 (ok'.sub fun a => by have := l2 a; omega) (fr'.sub fun a => by have := l2 a; omega)
  | bk => cases e
  | ct => cases e
end
end MP
namespace MP
open PySem L2
variable [LamT]
def LcI (K : PySem.W.Frag) (G1 : Hp) (H1 : Hp) (F1 : FP) (D : Addr) (Fs : FP) (σ : St) (ρ : Sl) (acc : List Vl) (H' : Hp) : Prop := ∃ (Fi : FP) (Gi : Hp) (ws : List V) (Fa : FP), H' D = some (.lst ws) ∧ OwnAll K Gi H' acc ws Fa ∧ OwnE K Gi H' ρ σ Fi ∧
    Ok Gi H' (fun a => (one D a + Fa a + Fs a) + Fi a) ∧ Fr G1 H1 F1 Gi H' (fun a => (one D a + Fa a + Fs a) + Fi a) ∧ (∀ a, Fs a ≠ 0 → H' a = H1 a)
section
variable {K : PySem.W.Frag} {G1 : Hp} {H1 : Hp} {F1 : FP} {D : Addr} {Fs : FP}
theorem LcI.le {σ : St} {ρ : Sl} {acc : List Vl} {H' : Hp} (h : LcI K G1 H1 F1 D Fs σ ρ acc H') : ∃ Gi, Le G1 Gi ∧ Le Gi H' := by
  obtain ⟨Fi, Gi, ws, Fa, _, _, _, ok, fr, _⟩ := h
  exact ⟨Gi, fr.g, ok.le⟩
theorem lci_drop {σ : St} {ρ : Sl} {acc : List Vl} {H' : Hp} (h : LcI K G1 H1 F1 D Fs σ ρ acc H') (is : List Nat) : LcI K G1 H1 F1 D Fs (wipe σ is) (wipeR ρ is) acc H' := by
  obtain ⟨Fi, Gi, ws, Fa, hD, ha, hE, ok, fr, st⟩ := h
  obtain ⟨F2, l, E2⟩ := hE.dropAll is
  exact ⟨F2, Gi, ws, Fa, hD, ha, E2, ok.sub fun a => by have := l a; omega, fr.sub fun a => by have := l a; omega, st⟩
theorem lci_yld {σ : St} {ρ ρ' : Sl} {acc : List Vl} {H' H2 : Hp} {tg : Tg} {x : V} {d : PyData} (h : LcI K G1 H1 F1 D Fs σ ρ acc H') (hy : ∀ Gi, Le G1 Gi → Le Gi H' → ∃ G3, Step Gi H' G3 H2 ∧ Dt K G3 d x) (e : asg tg d ρ = some ρ')
    {Q : St → Hp → Prop} (k : ∀ σ', LcI K G1 H1 F1 D Fs σ' ρ' acc H2 → Chg tg.slots σ σ' → Q σ' H2) : gOf K tg x σ H2 Q := by
  obtain ⟨Fi, Gi, ws, Fa, hD, ha, hE, ok, fr, st⟩ := h
  obtain ⟨G3h, s3, hx⟩ := hy Gi fr.g ok.le
  let G3 : Hp := G3h
  obtain ⟨ok3, fr3, st3⟩ := s3.ok ok
  have E3 := OwnE.mono s3.g _ _ _ hE fun a hh => st3 a (by omega)
  have ha3 := OwnAll.mono s3.g _ _ _ ha fun a hh => st3 a (by omega)
  refine sg tg d x σ ρ ρ' Fi G3 H2 E3 (ok3.sub fun a => by omega) hx e _ fun σ4 F4 E4 l4 c4 => k σ4 ⟨F4, G3, ws, Fa, ?_, ha3, E4, ok3.sub fun a => by have := l4 a; omega, (fr.trans fr3).sub fun a => by have := l4 a; omega, fun a hh => ?_⟩ c4
  · rw [st3 D (by rw [one_self]; omega)]; exact hD
  · rw [st3 a (by omega)]; exact st a hh
theorem lci_frame {σ : St} {ρ ρ' : Sl} {acc : List Vl} {G5 : Hp} {H' H5 : Hp} {F5 : FP} {Gi : Hp} {Fi : FP} {ws : List V} {Fa : FP} (hD : H' D = some (.lst ws)) (ha : OwnAll K Gi H' acc ws Fa) (ok : Ok Gi H' (fun a => (one D a + Fa a + Fs a) + Fi a))
    (fr : Fr G1 H1 F1 Gi H' (fun a => (one D a + Fa a + Fs a) + Fi a)) (st : ∀ a, Fs a ≠ 0 → H' a = H1 a) (E5 : OwnE K G5 H5 ρ' σ F5) (ok5 : Ok G5 H5 F5) (fr5 : Fr Gi H' Fi G5 H5 F5) : LcI K G1 H1 F1 D Fs σ ρ' acc H5 := by
  obtain ⟨ok5', fr5', st5⟩ := fr5.side (F1 := fun a => one D a + Fa a + Fs a) ok ok5
  refine ⟨F5, G5, ws, Fa, ?_, OwnAll.mono fr5.g _ _ _ ha fun a hh => st5 a (show one D a + Fa a + Fs a ≠ 0 by omega), E5, ok5', fr.trans fr5', fun a hh => ?_⟩
  · rw [st5 D (by show one D D + _ + _ ≠ 0; rw [one_self]; omega)]; exact hD
  · rw [st5 a (show one D a + Fa a + Fs a ≠ 0 by omega)]; exact st a hh
theorem lci_test {σ : St} {ρ ρ' : Sl} {acc : List Vl} {H' : Hp} {tt : TT} {t : MT} {b : Bool} (h : LcI K G1 H1 F1 D Fs σ ρ acc H') (ht : SimT K tt t) (e : t ρ = some (b, ρ')) {Q : Bool → Hp → Prop}
    (k : ∀ H5, LcI K G1 H1 F1 D Fs σ ρ' acc H5 → Q b H5) : tt σ H' Q := by
  obtain ⟨Fi, Gi, ws, Fa, hD, ha, hE, ok, fr, st⟩ := h
  exact ht σ ρ Fi Gi H' hE (ok.sub fun a => by omega) b ρ' e Q fun F5 G5 H5 E5 ok5 fr5 => k H5 (lci_frame (ρ := ρ) hD ha ok fr st E5 ok5 fr5)
theorem lci_iter {G1 : Hp} {σ : St} {ρ ρ' : Sl} {acc : List Vl} {H' : Hp} {wi : TI} {it : MIt} {ds : List PyData} (h : LcI K G1 H1 F1 D Fs σ ρ acc H') (hi : SimIt K wi it) (e : it ρ = some (ds, ρ')) {R : It → Hp → Prop}
    (k : ∀ J (G5 : Hp) H5, WalkD K J ds G5 → (∃ F5 ws Fa, H5 D = some (.lst ws) ∧ OwnAll K G5 H5 acc ws Fa ∧ OwnE K G5 H5 ρ' σ F5 ∧
      Ok G5 H5 (fun a => (one D a + Fa a + Fs a) + F5 a) ∧ Fr G1 H1 F1 G5 H5 (fun a => (one D a + Fa a + Fs a) + F5 a) ∧ (∀ a, Fs a ≠ 0 → H5 a = H1 a)) → R J H5) : wi σ H' R := by
  obtain ⟨Fi, Gi, ws, Fa, hD, ha, hE, ok, fr, st⟩ := h
  refine hi σ ρ Fi Gi H' hE (ok.sub fun a => by omega) ds ρ' e R fun J F5 G5 H5 w E5 ok5 fr5 => k J G5 H5 w ?_
  obtain ⟨ok5', fr5', st5⟩ := fr5.side (F1 := fun a => one D a + Fa a + Fs a) ok ok5
  refine ⟨F5, ws, Fa, ?_, OwnAll.mono fr5.g _ _ _ ha fun a hh => st5 a (show one D a + Fa a + Fs a ≠ 0 by omega), E5, ok5', fr.trans fr5', fun a hh => ?_⟩
  · rw [st5 D (by show one D D + _ + _ ≠ 0; rw [one_self]; omega)]; exact hD
  · rw [st5 a (show one D a + Fa a + Fs a ≠ 0 by omega)]; exact st a hh
theorem lci_elt {G1 : Hp} {σ : St} {ρ ρ' : Sl} {acc : List Vl} {H' : Hp} {te : TE} {f : M} {dp : Bool} {xe y : Vl} (hD1 : H1 D = none ∨ F1 D ≠ 0) (h : LcI K G1 H1 F1 D Fs σ ρ acc H') (he : Sim K te f) (e : f ρ = some (xe, ρ')) (ey : keepV dp xe = some y) (hz : acc.length < 16000000) {Nx : Hp → Prop}
    (k : ∀ H5, LcI K G1 H1 F1 D Fs σ ρ' (acc ++ [y]) H5 → Nx H5) : te σ H' fun v H6 => ∃ ws, H6 D = some (.lst ws) ∧ ws.length < sizeLine ∧ Nx (upd H6 D (.lst (ws ++ [v]))) := by
  obtain ⟨Fi, Gi, ws, Fa, hD, ha, hE, ok, fr, st⟩ := h
  refine he σ ρ Fi Gi H' hE (ok.sub fun a => by omega) xe ρ' e _ fun v Fx F6 G6 H6 o6 E6 ok6 fr6 => ?_
  obtain ⟨ok6', fr6', st6⟩ := fr6.side (F1 := fun a => one D a + Fa a + Fs a) ok ok6
  have hD6 : H6 D = some (.lst ws) := by rw [st6 D (by show one D D + _ + _ ≠ 0; rw [one_self]; omega)]; exact hD
  have hacc6 := OwnAll.mono fr6.g _ _ _ ha fun a hh => st6 a (show one D a + Fa a + Fs a ≠ 0 by omega)
  have sti6 : ∀ a, Fs a ≠ 0 → H6 a = H1 a := fun a hh => by rw [st6 a (show one D a + Fa a + Fs a ≠ 0 by omega)]; exact st a hh
  have ok6r : Ok G6 H6 (fun a => Fx a + ((one D a + Fa a + Fs a) + F6 a)) := ok6'.congr fun a => by omega
  obtain ⟨G7, Fy, o7, ok7, fr7⟩ := keep_ok o6 ok6r ey
  have E8 := (OwnE.mono fr7.g _ _ _ E6 (H' := H6) fun _ _ => rfl)
  have hacc7 := OwnAll.mono fr7.g _ _ _ hacc6 (H' := H6) fun _ _ => rfl
  have hDn : ∀ a, a ≠ D → upd H6 D (.lst (ws ++ [v])) a = H6 a := fun a hh => upd_ne hh
  have key : ∀ a, one D a + (Fy a + Fa a + Fs a + F6 a) ≤ 1 := fun a => by have := ok7.nd a; omega
  have hno : Fy D = 0 ∧ Fa D = 0 ∧ Fs D = 0 ∧ F6 D = 0 := by have := key D; rw [one_self] at this; omega
  have ne : ∀ (P : FP), P D = 0 → ∀ a, P a ≠ 0 → a ≠ D := fun P h a hh z => by subst z; exact hh h
  refine ⟨ws, hD6, ?_, k _ ?_⟩
  · have h1 := hacc6.len
    rw [← h1, sizeLine_eq]
    omega
  · have okN : Ok G7 (upd H6 D (.lst (ws ++ [v]))) (fun a => (one D a + (Fa a + Fy a) + Fs a) + F6 a) := by
      have okb : Ok G7 H6 (fun a => (one D a + (Fa a + Fy a) + Fs a) + F6 a) := ok7.sub fun a => by omega
      have gD : G7 D = none := okb.dj D (by rw [one_self]; omega)
      refine ⟨fun a o z => ?_, okb.nd, okb.dj, fun a hh => upd_al _ _ _ a (okb.kn a hh), fun a xs z => by
              by_cases q : a = D
              · subst q; rw [upd_same] at z; cases z
              · rw [upd_ne q] at z; exact okb.tu a xs z, fun a ps z => by
              by_cases q : a = D
              · subst q; rw [upd_same] at z; cases z
              · rw [upd_ne q] at z; exact okb.nt a ps z, tb_upd okb (fun ps e => by rw [hD6] at e; cases e) fun _ _ h => h, fun a f z => by
              by_cases q : a = D
              · subst q; rw [upd_same] at z; cases z
              · rw [upd_ne q] at z; exact okb.cd a f z⟩
      rw [hDn a (fun q => by subst q; rw [gD] at z; cases z)]
      exact okb.le a o z
    have frN : Fr G1 H1 F1 G7 (upd H6 D (.lst (ws ++ [v]))) (fun a => (one D a + (Fa a + Fy a) + Fs a) + F6 a) := by
      have frb : Fr G1 H1 F1 G7 H6 (fun a => (one D a + (Fa a + Fy a) + Fs a) + F6 a) :=
        (fr.trans (fr6'.trans (fr7.congr (fun a => by show _ = Fx a + ((one D a + Fa a + Fs a) + F6 a); omega) fun _ => rfl))).sub fun a => by omega
      refine ⟨frb.g, fun a o z f0 nb => ?_, frb.f, frb.gf, fun a z => vac_upd (by intro ps h; cases h) a (frb.al a z)⟩
      rw [hDn a (fun q => by
        subst q
        rcases hD1 with r | r
        · rw [r] at z; cases z
        · exact r f0)]
      exact frb.h a o z f0 nb
    have hacc8 := OwnAll.mono (fun _ _ h => h) _ _ _ hacc7 (H' := upd H6 D (.lst (ws ++ [v]))) fun a hh => hDn a (ne Fa hno.2.1 a hh)
    have o8 := Own.mono (fun _ _ h => h) y v Fy o7 (H' := upd H6 D (.lst (ws ++ [v]))) fun a hh => hDn a (ne Fy hno.1 a hh)
    have E9 := OwnE.mono (fun _ _ h => h) _ _ _ E8 (H' := upd H6 D (.lst (ws ++ [v]))) fun a hh => hDn a (ne F6 hno.2.2.2 a hh)
    exact ⟨F6, G7, ws ++ [v], fun a => Fa a + Fy a, upd_same, hacc8.snoc o8, E9, okN, frN, fun a hh => by rw [hDn a (ne Fs hno.2.2.1 a hh)]; exact sti6 a hh⟩
theorem LcI.rebase {G1 : Hp} {G5 : Hp} {H5 : Hp} {F5 : FP} {σ : St} {ρ : Sl} {acc : List Vl} {H' : Hp} (h : LcI K G5 H5 F5 D Fs σ ρ acc H') (fr : Fr G1 H1 F1 G5 H5 F5) (st : ∀ a, Fs a ≠ 0 → H5 a = H1 a) : LcI K G1 H1 F1 D Fs σ ρ acc H' := by
  obtain ⟨Fi, Gi, ws, Fa, hD, ha, hE, ok, fr2, st2⟩ := h
  exact ⟨Fi, Gi, ws, Fa, hD, ha, hE, ok, fr.trans fr2, fun a hh => (st2 a hh).trans (st a hh)⟩
theorem lci_inner {σ2 : St} {ρ ρ' : Sl} {acc ys : List Vl} {tg1 : Tg} {own1 : List Nat} {tt1 : TT} {t1 : MT} {te : TE} {f : M} {dp : Bool} {J1 : It} {is : List PyData} (hD1 : H1 D = none ∨ F1 D ≠ 0) (w : WalkD K J1 is G1)
    (h : LcI K G1 H1 F1 D Fs σ2 ρ acc H1)
    (ht : SimT K tt1 t1) (he : Sim K te f) (hs : ∀ i ∈ tg1.slots, i ∈ own1) (e : lcL dp tg1 own1 t1 f is (wipeR ρ own1) = some (ys, ρ')) (hz : acc.length + is.length < 16000000) {Nx : Hp → Prop}
    (k : ∀ H6, LcI K G1 H1 F1 D Fs (wipe σ2 own1) ρ' (acc ++ ys) H6 → Nx H6) :
    ∃ W1 : Nat → Nat → Hp → Prop, (∃ m, W1 0 m H1) ∧ ∀ j kk H, W1 j kk H →
      (J1.stop j H ∧ Nx H) ∨ (J1.go j H ∧ ∃ Nx1 : Hp → Prop, (∀ H', Nx1 H' → ∃ k', k' < kk ∧ W1 (j + 1) k' H') ∧ ∀ x H', J1.yld j H x H' → gOf K tg1 x (wipe σ2 own1) H' fun σ3 H5 => wipe σ3 own1 = wipe σ2 own1 ∧ tt1 σ3 H5 fun b H6 =>
        if b = true then te σ3 H6 fun y H7 => ∃ acc, H7 D = some (.lst acc) ∧ acc.length < sizeLine ∧ Nx1 (upd H7 D (.lst (acc ++ [y]))) else Nx1 H6) := by
  let INV : Nat → Hp → Prop := fun j H' => ∃ (ρj : Sl) (accj rest : List Vl), LcI K G1 H1 F1 D Fs (wipe σ2 own1) ρj accj H' ∧ lcL dp tg1 own1 t1 f (is.drop j) ρj = some (rest, ρ') ∧ acc ++ ys = accj ++ rest ∧ accj.length ≤ acc.length + j
  refine ⟨fun j m H' => m = is.length - j ∧ j ≤ is.length ∧ INV j H', ⟨is.length, by simp, Nat.zero_le _, wipeR ρ own1, acc, ys, lci_drop h own1, e, rfl, Nat.le_refl _⟩, ?_⟩
  rintro j m H' ⟨rfl, hj, ρj, accj, rest, hI, ej, ea, hl⟩
  obtain ⟨Gi, g1, g2⟩ := hI.le
  have le : Le G1 H' := fun a o z => g2 a o (g1 a o z)
  by_cases hlt : j < is.length
  · refine .inr ⟨w.go j H' hlt le, INV (j + 1), fun H2 p => ⟨is.length - (j + 1), by omega, rfl, hlt, p⟩, fun x H2 yl => ?_⟩
    have ed : is[j]? = some is[j] := List.getElem?_eq_getElem hlt
    rw [List.drop_eq_getElem_cons hlt] at ej
    simp only [lcL] at ej
    obtain ⟨ρa, e1, ej⟩ := bind_some ej
    obtain ⟨⟨b, ρb⟩, e2, ej⟩ := bind_some ej
    refine lci_yld hI (fun Gi a b => w.yld j H' x H2 is[j] Gi ed a b yl) e1 fun σ3 hI3 c3 => ?_
    have cw : Chg own1 (wipe σ2 own1) σ3 := ⟨c3.len, fun j hj => c3.at_ j fun z => hj (hs j z)⟩
    have ew : wipe σ3 own1 = wipe σ2 own1 := by rw [wipe_chg cw, wipe_wipe]
    refine ⟨ew, lci_test hI3 ht e2 fun H5 hI5 => ?_⟩
    cases b with
    | false =>
      simp only [Bool.false_eq_true, if_false] at ej ⊢
      have h6 := lci_drop hI5 own1
      rw [ew] at h6
      exact ⟨_, accj, rest, h6, ej, ea, by omega⟩
    | true =>
      simp only [if_true] at ej ⊢
      obtain ⟨⟨xe, ρe⟩, e3, ej⟩ := bind_some ej
      obtain ⟨y, e4, ej⟩ := bind_some ej
      obtain ⟨⟨rest', ρr⟩, e5, ej⟩ := bind_some ej
      simp only [Option.some.injEq, Prod.mk.injEq] at ej
      obtain ⟨rfl, rfl⟩ := ej
      refine lci_elt hD1 hI5 he e3 e4 (by omega) fun H6 hI6 => ?_
      have h6 := lci_drop hI6 own1
      rw [ew] at h6
      exact ⟨_, accj ++ [y], rest', h6, e5, by rw [ea, List.append_assoc]; rfl, by rw [List.length_append, List.length_singleton]; omega⟩
  · have hin : j = is.length := by omega
    subst hin
    rw [List.drop_length] at ej
    simp only [lcL, Option.some.injEq, Prod.mk.injEq] at ej
    obtain ⟨rfl, rfl⟩ := ej
    refine .inl ⟨w.stop H' le, k H' ?_⟩
    rw [ea, List.append_nil]
    exact hI
def lc2L (dp : Bool) (own own1 : List Nat) (tg : Tg) (t : MT) (it1 : MIt) (tg1 : Tg) (t1 : MT) (e : M) : List PyData → Sl → Option (List Vl × Sl)
  | [], ρ => some ([], ρ)
  | d :: ds, ρ => (asg tg d ρ).bind fun ρ1 => (t ρ1).bind fun b => if b.1 then (it1 b.2).bind fun p => if p.1.length ≤ 1000 then (lcL dp tg1 own1 t1 e p.1 (wipeR p.2 own1)).bind fun q => (lc2L dp own own1 tg t it1 tg1 t1 e ds (wipeR q.2 own)).bind fun r => some (q.1 ++ r.1, r.2) else none
    else lc2L dp own own1 tg t it1 tg1 t1 e ds (wipeR b.2 own)
def mLc2 (dp : Bool) (own own1 : List Nat) (it : MIt) (tg : Tg) (t : MT) (it1 : MIt) (tg1 : Tg) (t1 : MT) (e : M) : M := fun ρ => (it ρ).bind fun p => (lc2L dp own own1 tg t it1 tg1 t1 e p.1 (wipeR p.2 own)).bind fun q =>
  if q.2.length = p.2.length ∧ p.1.length ≤ 1000 then some (.ls q.1, restR p.2 own q.2) else none
theorem wipe_sub {is js : List Nat} {σ : St} (h : ∀ i ∈ js, i ∈ is) : wipe (wipe σ js) is = wipe σ is := by
  refine List.ext_getElem? fun j => ?_
  rw [wipe_get (wipe σ js) j is, wipe_get σ j is, wipe_length]
  by_cases hj : j ∈ is
  · rw [if_pos hj, if_pos hj]
  · rw [if_neg hj, if_neg hj, wipe_get σ j js, if_neg fun z => hj (h j z)]
end
theorem sim_lc2 {K : PySem.W.Frag} {dp : Bool} {own own1 : List Nat} {wi wi1 : TI} {it it1 : MIt} {tg tg1 : Tg} {tt tt1 : TT} {t t1 : MT} {te : TE} {e : M} (hi : SimIt K wi it) (ht : SimT K tt t) (hi1 : SimIt K wi1 it1) (ht1 : SimT K tt1 t1) (he : Sim K te e)
    (hs : ∀ i ∈ tg.slots, i ∈ own) (hs1 : ∀ i ∈ tg1.slots, i ∈ own1) (h01 : ∀ i ∈ own1, i ∈ own) :
    Sim K (tLc2 wi (gOf K tg) tt wi1 (gOf K tg1) tt1 te own own1) (mLc2 dp own own1 it tg t it1 tg1 t1 e) := by
  intro σ ρ F G H hE ok x ρ' e0 Q k
  obtain ⟨⟨ds, ρ1⟩, e1, ea⟩ := bind_some e0
  obtain ⟨⟨ys, ρ2⟩, e2, eb⟩ := bind_some ea
  clear e0 ea
  simp only at e2 eb
  split at eb
  case isFalse => cases eb
  rename_i hl
  obtain ⟨hl, hz⟩ := hl
  simp only [Option.some.injEq, Prod.mk.injEq] at eb
  obtain ⟨rfl, rfl⟩ := eb
  refine hi σ ρ F G H hE ok ds ρ1 e1 _ fun J F1 G1 H1 w E1 ok1 fr1 => fun D hD => ?_
  obtain ⟨Fw, Fs, fs, W1, W2⟩ := E1.wipeAll own
  obtain ⟨okD, frD, stD⟩ := ok_own (o := .lst []) ok1 hD
  let INV : Nat → Hp → Prop := fun i H' => ∃ (ρi : Sl) (acc rest : List Vl), LcI K G1 H1 F1 D Fs (wipe σ own) ρi acc H' ∧ lc2L dp own own1 tg t it1 tg1 t1 e (ds.drop i) ρi = some (rest, ρ2) ∧ ys = acc ++ rest ∧ acc.length ≤ i * 1000
  refine ⟨fun i m H' => m = ds.length - i ∧ i ≤ ds.length ∧ INV i H', ⟨ds.length, by simp, Nat.zero_le _, ?_⟩, ?_⟩
  · have E2 := OwnE.mono (fun _ _ h => h) _ _ _ W1 (H' := upd H1 D (.lst [])) fun a hh => stD a (by rw [fs]; omega)
    refine ⟨_, [], ys, ⟨Fw, G1, [], fun _ => 0, upd_same, ?_, E2, okD.congr fun a => ?_, frD.congr (fun _ => rfl) fun a => ?_, fun a hh => stD a (by rw [fs]; omega)⟩, e2, rfl, Nat.zero_le _⟩
    · simp only [OwnAll]; exact ⟨trivial, fun _ => trivial⟩
    · show one D a + 0 + Fs a + Fw a = one D a + F1 a; rw [fs]; omega
    · show one D a + 0 + Fs a + Fw a = one D a + F1 a; rw [fs]; omega
  · rintro i m H' ⟨rfl, hi', ρi, acc, rest, hI, ei, rfl, hai⟩
    obtain ⟨Gi, g1, g2⟩ := hI.le
    have le : Le G1 H' := fun a o z => g2 a o (g1 a o z)
    by_cases hlt : i < ds.length
    · refine .inr ⟨w.go i H' hlt le, INV (i + 1), fun H2 p => ⟨ds.length - (i + 1), by omega, rfl, hlt, p⟩, fun x H2 yl => ?_⟩
      have ed : ds[i]? = some ds[i] := List.getElem?_eq_getElem hlt
      rw [List.drop_eq_getElem_cons hlt] at ei
      simp only [lc2L] at ei
      obtain ⟨ρa, e3, ei⟩ := bind_some ei
      obtain ⟨⟨b, ρb⟩, e4, ei⟩ := bind_some ei
      refine lci_yld hI (fun Gi a b => w.yld i H' x H2 ds[i] Gi ed a b yl) e3 fun σ4 hI4 c4 => ?_
      have cw : Chg own (wipe σ own) σ4 := ⟨c4.len, fun j hj => c4.at_ j fun z => hj (hs j z)⟩
      have ew : wipe σ4 own = wipe σ own := by rw [wipe_chg cw, wipe_wipe]
      refine ⟨ew, lci_test hI4 ht e4 fun H5 hI5 => ?_⟩
      cases b with
      | false =>
        simp only [Bool.false_eq_true, if_false] at ei ⊢
        have h6 := lci_drop hI5 own
        rw [ew] at h6
        exact ⟨_, acc, rest, h6, ei, rfl, by omega⟩
      | true =>
        simp only [if_true] at ei ⊢
        obtain ⟨⟨is, ρc⟩, e5, ei⟩ := bind_some ei
        simp only at ei
        split at ei
        case isFalse => cases ei
        rename_i hzi
        obtain ⟨⟨ys1, ρd⟩, e6, ei⟩ := bind_some ei
        obtain ⟨⟨rest', ρr⟩, e7, ei⟩ := bind_some ei
        simp only [Option.some.injEq, Prod.mk.injEq] at ei
        obtain ⟨rfl, rfl⟩ := ei
        refine lci_iter hI5 hi1 e5 fun J1 G6 H6 w6 h6 => ?_
        obtain ⟨F6, ws6, Fa6, hD6, ha6, E6, ok6, fr6, st6⟩ := h6
        have hI6 : LcI K G6 H6 (fun a => (one D a + Fa6 a + Fs a) + F6 a) D Fs σ4 ρc acc H6 := ⟨F6, G6, ws6, Fa6, hD6, ha6, E6, ok6, Fr.refl ok6, fun _ _ => rfl⟩
        refine lci_inner (.inr (by show one D D + _ + _ + _ ≠ 0; rw [one_self]; omega)) w6 hI6 ht1 he hs1 e6 (by omega) fun H7 hI7 => ?_
        have h8 := lci_drop (hI7.rebase fr6 st6) own
        rw [wipe_sub h01, ew] at h8
        refine ⟨_, acc ++ ys1, rest', h8, e7, by rw [List.append_assoc], ?_⟩
        have := lcL_len e6
        rw [List.length_append]; omega
    · have hin : i = ds.length := by omega
      subst hin
      rw [List.drop_length] at ei
      simp only [lc2L, Option.some.injEq, Prod.mk.injEq] at ei
      obtain ⟨rfl, rfl⟩ := ei
      refine .inl ⟨w.stop H' le, ?_⟩
      obtain ⟨Fi, Gi, ws, Fa, hDw, hacc, Ei, oki, fri, sti⟩ := hI
      have E9 := W2 Gi H' _ Fi fri.g sti hl Ei
      refine k (.ref D) (fun a => one D a + Fa a) _ Gi H' ?_ E9 (oki.congr fun a => ?_) ((fr1.trans fri).congr (fun _ => rfl) fun a => ?_)
      · rw [List.append_nil]
        simp only [Own]
        exact ⟨D, ws, Fa, rfl, hDw, hacc, fun _ => rfl⟩
      · show one D a + Fa a + (Fi a + Fs a) = _; omega
      · show one D a + Fa a + (Fi a + Fs a) = _; omega
end MP
namespace MP
open PySem PyProof.Rows L2
variable [LamT]
theorem get_list {X : Cx} : PGet X (rIxL X.K) := by
  intro pins s σ H x y v u Q I rx ry h
  obtain ⟨p, xs, i, z, rfl, rfl, hq, he, q⟩ := h
  cases rx
  obtain ⟨t, rfl⟩ := ry
  obtain ⟨its, r, pl, hz⟩ := I.list hq
  obtain ⟨j, h1, h2, h3, h4, h5⟩ := atI_get he
  obtain ⟨w, ew, rw'⟩ := r.get h2
  have hl := r.length
  have hn := line63
  have fin : EP X pins σ Q w s := ⟨z, H, I, rw', q⟩
  by_cases h0 : 0 ≤ i
  · have hj : i.toNat = j := by
      rw [seqIndex_of h0 h5] at h1
      exact Option.some.inj h1
    exact wpAny_getItem_list pl.isList h0 (by omega) (by rw [hj]; simpa using ew) fin
  · have hj : (i + (its.toArray.size : Int)).toNat = j := by
      rw [seqIndex_neg (by omega) h4] at h1
      rw [List.size_toArray, ← hl]
      exact Option.some.inj h1
    exact wpAny_getItem_list_neg pl.isList (by omega) (by rw [List.size_toArray] <;> omega) (by omega) (by rw [hj]; simpa using ew) fin
@[simp] def hIxL : HD
  | [.list ds, .int i] => (atI ds i).map .dat
  | _ => none
@[simp] def intV : Vl → Option Int
  | .fz (.int i) => some i
  | _ => none
theorem intV_ok {x : Vl} {i : Int} (h : intV x = some i) : x = .fz (.int i) := by
  unfold intV at h
  split at h
  · simp only [Option.some.injEq] at h; rw [h]
  · cases h
@[simp] def hasL (ρ : Sl) (i : Nat) : Option Unit := match ρ[i]? with
  | some (some _) => some ()
  | _ => none
@[simp] noncomputable def sAugIx (i : Nat) (k : M) (op : Int → Int → Int) (f : M) : MS := fun ρ => (hasL ρ i).bind fun _ => (k ρ).bind fun p => (intV p.1).bind fun j =>
  (mOp (φD hIxL) (aNm i (aEx (mC (.int j)) aNil)) p.2).bind fun x => (intV x.1).bind fun a => (f x.2).bind fun y => (intV y.1).bind fun b =>
  (mOp φSet (aEx (mC (.int (op a b))) (aNm i (aEx (mC (.int j)) aNil))) y.2).bind fun q => some (.nx, q.2)
section
variable {K : PySem.W.Frag} {np : Nat}
theorem od_ixL : OpD K (r2 (rIxL K)) hIxL := by
  intro ds vs G H le hs res e Q k
  unfold hIxL at e
  split at e
  · obtain ⟨v, w, rfl, h1, h2⟩ := sh2 hs
    obtain ⟨p, ws, rfl, q1, d1⟩ := shList h1
    rw [Option.map_eq_some_iff] at e
    obtain ⟨d, e, rfl⟩ := e
    obtain ⟨v, e1, h3⟩ := atI_all d1 e
    exact ⟨p, ws, _, v, rfl, shInt h2, .inl q1, e1, k _ h3⟩
  · cases e
theorem own_int {G H : Hp} {i : Int} {v : V} {F : FP} (h : Own K G H (.fz (.int i)) v F) : v = .int i ∧ ∀ a, F a = 0 := by
  simp only [Own, Dt] at h
  exact h
theorem ss_augIx {i : Nat} {tk te : TE} {k f : M} {op : Int → Int → Int} (hk : Sim K tk k) (h : Sim K te f) : SimS K np (tAugS (tVar i) tk te (rIxL K) (ipI op) rSetL) (sAugIx i k op f) := by
  intro σ ρ F G H hE ok o ρ' e D p
  unfold sAugIx at e
  obtain ⟨_, e0, e⟩ := bind_some e
  obtain ⟨⟨kx, ρ1⟩, e1, e⟩ := bind_some e
  obtain ⟨j, ej, e⟩ := bind_some e
  obtain ⟨⟨x, ρ2⟩, e2, e⟩ := bind_some e
  obtain ⟨a, ea, e⟩ := bind_some e
  obtain ⟨⟨y, ρ3⟩, e3, e⟩ := bind_some e
  obtain ⟨b, eb, e⟩ := bind_some e
  obtain ⟨⟨z, ρ4⟩, e4, e⟩ := bind_some e
  simp only [Option.some.injEq, Prod.mk.injEq] at e
  obtain ⟨rfl, rfl⟩ := e
  have hx0 : ∃ v0, σ[i]? = some (some v0) := by
    unfold hasL at e0
    cases q : ρ[i]? with
    | none => rw [q] at e0; cases e0
    | some s0 =>
      cases s0 with
      | none => rw [q] at e0; cases e0
      | some x0 =>
        obtain ⟨v, A, B, h1, _⟩ := hE.take q
        exact ⟨v, h1⟩
  obtain ⟨v0, hv0⟩ := hx0
  obtain rfl := intV_ok ej
  obtain rfl := intV_ok ea
  obtain rfl := intV_ok eb
  refine ⟨v0, hv0, ?_⟩
  refine hk σ ρ F G H hE ok _ ρ1 e1 _ fun vk Fk F1 G1 H1 ok1' E1 ok1 fr1 => ?_
  obtain ⟨rfl, fk⟩ := own_int ok1'
  have ok1 := ok1.congr (F' := F1) fun c => by have := fk c; omega
  have fr1 := fr1.congr (F1 := F) (F2 := F1) (fun _ => rfl) fun c => by have := fk c; omega
  have cI : ∀ n : Int, Sim K (tC (.int n)) (mC (.int n)) := fun n => sim_c dtInt
  have s2 := sim_op (opD od_ixL) (sa_nm (i := i) (sa_ex (cI j) sa_nil)) σ ρ1 F1 G1 H1 E1 ok1 _ ρ2 e2
  have goal2 : ∀ Q : VK, tN (r2 (rIxL K)) (tCons (tVar i) (tCons (tC (.int j)) tNil)) σ H1 Q → rIxL K v0 (.int j) H1 Q := fun Q q => by
    obtain ⟨v', hv', q⟩ := q
    rw [hv0] at hv'
    cases hv'
    exact q
  refine goal2 _ (s2 _ fun vx Fx F2 G2 H2 ok2' E2 ok2 fr2 => ?_)
  obtain ⟨rfl, fx⟩ := own_int ok2'
  have ok2 := ok2.congr (F' := F2) fun c => by have := fx c; omega
  have fr2 := fr2.congr (F1 := F1) (F2 := F2) (fun _ => rfl) fun c => by have := fx c; omega
  refine h σ ρ2 F2 G2 H2 E2 ok2 _ ρ3 e3 _ fun vy Fy F3 G3 H3 ok3' E3 ok3 fr3 => ?_
  obtain ⟨rfl, fy⟩ := own_int ok3'
  have ok3 := ok3.congr (F' := F3) fun c => by have := fy c; omega
  have fr3 := fr3.congr (F1 := F2) (F2 := F3) (fun _ => rfl) fun c => by have := fy c; omega
  refine ⟨a, b, rfl, rfl, ?_⟩
  have s4 := sim_op os_set (sa_ex (cI (op a b)) (sa_nm (i := i) (sa_ex (cI j) sa_nil))) σ ρ3 F3 G3 H3 E3 ok3 z ρ4 e4 (fun _ H' => D.nx σ H') fun v Fx F4 G4 H4 o4 E4 ok4 fr4 =>
    p σ F4 G4 H4 .refl E4 (ok4.sub fun a => by omega) ((((fr1.trans fr2).trans fr3).trans fr4).sub fun a => by omega)
  obtain ⟨v', hv', q⟩ := s4
  rw [hv0] at hv'
  cases hv'
  exact q
end
end MP
namespace MP
open PySem PyProof.Rows L2
variable [LamT]
@[simp] def φW (h : List PyData → List PyData → Option (PyData × List PyData)) : Φ
  | .ls zs :: as => (eraseAll zs).bind fun ds => (eraseAll as).bind fun es => (h ds es).bind fun q => some (.fz q.1, .ls (q.2.map .fz) :: es.map .fz)
  | _ => none
def OpW (K : PySem.W.Frag) (r : RN) (h : List PyData → List PyData → Option (PyData × List PyData)) : Prop :=
  ∀ (ds es : List PyData) (p : Addr) (us ws : List V) (G H : Hp) (d : PyData) (ds' : List PyData), (∀ a o, G a = some o → H a = some o) → H p = some (.lst us) → DtAll K G ds us → DtAll K G es ws → h ds es = some (d, ds') →
    ∀ Q : VK, (∀ v us', Dt K G d v → DtAll K G ds' us' → Q v (upd H p (.lst us'))) → r (.ref p :: ws) H Q
section
variable {K : PySem.W.Frag}
theorem os_w {r : RN} {h : List PyData → List PyData → Option (PyData × List PyData)} (hr : OpW K r h) : OpSem K r (φW h) := by
  intro vs xs F G H ho ok x ys e Q k
  unfold φW at e
  split at e
  · rename_i zs as
    obtain ⟨ds, e1, e⟩ := bind_some e
    obtain ⟨es, e2, e⟩ := bind_some e
    obtain ⟨⟨d, ds'⟩, e3, e⟩ := bind_some e
    simp only [Option.some.injEq, Prod.mk.injEq] at e
    obtain ⟨rfl, rfl⟩ := e
    simp only [OwnAll, Own] at ho
    obtain ⟨v, ws, A, B, rfl, ⟨p, us, F', rfl, hp, hz, fA⟩, hB, f⟩ := ho
    have ok1 : Ok G H (fun a => (F' a + B a) + one p a) := ok.congr fun a => by
      have h1 := f a
      have h2 := fA a
      show F' a + B a + one p a = F a
      omega
    obtain ⟨ok2, fr2⟩ := thaw_ok (F1 := fun a => F' a + B a) (F := one p) ok1
    have hd := OwnAll.frz (thaw_le ok1) zs us F' ds hz e1 fun a ha => thaw_at a (by show F' a + B a ≠ 0; omega)
    have he := OwnAll.frz (thaw_le ok1) as ws B es hB e2 fun a ha => thaw_at a (by show F' a + B a ≠ 0; omega)
    refine hr ds es p us ws (thaw G H fun a => F' a + B a) H d ds' ok2.le hp hd he e3 Q fun v us' hv hu => ?_
    have okp : Ok (thaw G H fun a => F' a + B a) H (fun a => one p a + 0) := ok2.congr fun a => by simp
    obtain ⟨a1, a2, a3⟩ := ok_write (o' := .lst us') (F := fun _ => 0) (F' := fun _ => 0) okp hp fun a => Nat.le_refl 0
    have fr3 : Fr G H F (thaw G H fun a => F' a + B a) H (fun a => one p a + 0) := fr2.congr (fun a => by
      have h1 := f a
      have h2 := fA a
      show F a = F' a + B a + one p a
      omega) fun a => by simp
    refine k v (fun _ => 0) (one p) _ _ (Own.ofD hv) ?_ (a1.congr fun a => by simp) ((fr3.trans a2).congr (fun _ => rfl) fun a => by simp)
    simp only [OwnAll, Own]
    exact ⟨.ref p, ws, one p, fun _ => 0, rfl, ⟨p, us', fun _ => 0, rfl, upd_same, ownAll_fz hu, fun a => by simp⟩, ownAll_fz he, fun a => by simp⟩
  · cases e
theorem DtAll.app {G : Hp} : ∀ {ds es : List PyData} {us ws : List V}, DtAll K G ds us → DtAll K G es ws → DtAll K G (ds ++ es) (us ++ ws)
  | [], es, us, ws, h, h2 => by
    simp only [DtAll] at h
    subst h
    exact h2
  | d :: ds, es, us, ws, h, h2 => by
    simp only [DtAll] at h
    obtain ⟨v, r, rfl, hv, hr⟩ := h
    simp only [List.cons_append, DtAll]
    exact ⟨v, r ++ ws, rfl, hv, DtAll.app hr h2⟩
theorem DtAll.erase {G : Hp} {ds : List PyData} {us : List V} (h : DtAll K G ds us) (k : Nat) : DtAll K G (ds.eraseIdx k) (us.eraseIdx k) := by
  rw [List.eraseIdx_eq_take_drop_succ, List.eraseIdx_eq_take_drop_succ]
  exact DtAll.app (h.take _) (h.drop _)
@[simp] def hPop : List PyData → List PyData → Option (PyData × List PyData)
  | ds, [.int k] => (ixN ds.length k).bind fun j => (ds[j]?).bind fun d => if small ds.length then some (d, ds.eraseIdx j) else none
  | _, _ => none
theorem ow_pop : OpW K (rMt rPopAt) hPop := by
  intro ds es p us ws G H d ds' le hp hd he e Q k
  unfold hPop at e
  split at e
  · rename_i i
    obtain ⟨j, e1, e⟩ := bind_some e
    obtain ⟨d1, e2, e⟩ := bind_some e
    split at e
    · rename_i hz
      simp only [Option.some.injEq, Prod.mk.injEq] at e
      obtain ⟨rfl, rfl⟩ := e
      obtain ⟨w, rfl, hw⟩ := dt1 he
      simp only [Dt] at hw
      subst hw
      obtain ⟨v, ev, hv⟩ := hd.get e2
      obtain ⟨q1, q2, q3, q4⟩ := ixN_seq e1
      have hz' : ds.length ≤ 1000000 := of_decide_eq_true hz
      exact ⟨p, us, i, j, v, rfl, rfl, hp, by omega, by omega, by rw [← hd.len]; exact q1, ev, k v _ hv (hd.erase j)⟩
    · cases e
  · cases e
def rIns : V → List V → Hp → VK → Prop := fun x vs H Q => ∃ (l : Addr) (xs : List V) (i : Int) (y : V), x = .ref l ∧ vs = [.int i, y] ∧ H l = some (.lst xs) ∧ xs.length < sizeLine ∧ 0 ≤ i ∧ i < 2 ^ 63 ∧ Q .non (upd H l (.lst (xs.take i.toNat ++ [y] ++ xs.drop i.toNat)))
@[simp] def hIns : List PyData → List PyData → Option (PyData × List PyData)
  | ds, [.int k, d] => if decide (0 ≤ k ∧ k ≤ 1000000) && small (ds.length + 1) then some (.none, ds.take k.toNat ++ [d] ++ ds.drop k.toNat) else none
  | _, _ => none
theorem dt2' {G : Hp} {d e : PyData} {ws : List V} (h : DtAll K G [d, e] ws) : ∃ v w, ws = [v, w] ∧ Dt K G d v ∧ Dt K G e w := by
  simp only [DtAll] at h
  obtain ⟨v, r, rfl, hv, w, r2, rfl, hw, rfl⟩ := h
  exact ⟨v, w, rfl, hv, hw⟩
theorem ow_ins : OpW K (rMt rIns) hIns := by
  intro ds es p us ws G H d ds' le hp hd he e Q k
  unfold hIns at e
  split at e
  · rename_i i d1
    split at e
    · rename_i hz
      simp only [Bool.and_eq_true, decide_eq_true_eq] at hz
      simp only [Option.some.injEq, Prod.mk.injEq] at e
      obtain ⟨rfl, rfl⟩ := e
      obtain ⟨v, w, rfl, hv, hw⟩ := dt2' he
      simp only [Dt] at hv
      subst hv
      have hl := small_line hz.2
      have hlen := hd.len
      exact ⟨p, us, i, w, rfl, rfl, hp, by omega, hz.1.1, by omega, k .non _ dtNone (DtAll.app (DtAll.app (hd.take _) (by simp only [DtAll]; exact ⟨w, [], rfl, hw, rfl⟩)) (hd.drop _))⟩
    · cases e
  · cases e
def rRev (K : PySem.W.Frag) : V → Hp → VK → Prop := fun x H Q => (∃ a xs, x = .ref a ∧ SqL K H a xs ∧ ∀ p, H p = none → Q (.ref p) (upd H p (.lst xs.reverse))) ∨
  ∃ a xs, x = .ref a ∧ SqT K H a xs ∧ ∀ p, H p = none → Q (.ref p) (upd H p (.tup xs.reverse))
@[simp] def hRev : HD
  | [.list ds] => some (.nls ds.reverse)
  | [.tuple ds] => some (.ntp ds.reverse)
  | _ => none
theorem DtAll.rev {G : Hp} : ∀ {ds : List PyData} {us : List V}, DtAll K G ds us → DtAll K G ds.reverse us.reverse
  | [], us, h => by
    simp only [DtAll] at h
    subst h
    simp [DtAll]
  | d :: ds, us, h => by
    simp only [DtAll] at h
    obtain ⟨v, r, rfl, hv, hr⟩ := h
    rw [List.reverse_cons, List.reverse_cons]
    exact DtAll.app (DtAll.rev hr) (by simp only [DtAll]; exact ⟨v, [], rfl, hv, rfl⟩)
theorem od_rev : OpD K (r1 (rRev K)) hRev := by
  intro ds vs G H le hs res e Q k
  unfold hRev at e
  split at e
  · cases e
    obtain ⟨v, rfl, h1⟩ := sh1 hs
    obtain ⟨p, ws, rfl, q1, d1⟩ := shList h1
    exact .inl ⟨p, ws, rfl, .inl q1, fun p hp => k p _ hp d1.rev⟩
  · cases e
    obtain ⟨v, rfl, h1⟩ := sh1 hs
    obtain ⟨p, ws, rfl, q1, d1⟩ := shTup le h1
    exact .inr ⟨p, ws, rfl, q1, fun p hp => k p _ hp d1.rev⟩
  · cases e
end
end MP
namespace MP
open PySem L2 PyProof.Rows HT
section
variable {prog : Program} {w : World} {A : Around} {E : Value → Shared → Prop} {s : Shared}
theorem pick_rev (xs : Array Value) : ((List.range xs.size).filterMap fun (m : Nat) => xs[((xs.size : Int) - 1 + (m : Int) * (-1)).toNat]?).toArray = xs.toList.reverse.toArray := by
  have e : (fun (m : Nat) => xs[((xs.size : Int) - 1 + (m : Int) * (-1)).toNat]?) = (fun k => xs[k]?) ∘ (fun m => xs.size - 1 - m) := by
    funext m
    simp only [Function.comp]
    congr 1
    omega
  rw [e, ← List.filterMap_map, PySem.W.krv_range, List.filterMap_reverse, PySem.W.krv_all]
theorem sliceApplied_rev {sl : Addr} {vs : Value} {n : Nat} {Q : Int × Int × Nat → Shared → Prop} (hs : s.heap.IsSliceOf sl .none .none vs) (ps : IsPart vs (some (-1)))
    (h : Q ((n : Int) - 1, -1, n) s) : wpAny (model prog w) A (Builtin.Slice.sliceApplied (.ref sl) (pure (n : Int))) Q E s := by
  obtain ⟨os, hos, hcs, hds⟩ := id hs
  unfold Builtin.Slice.sliceApplied Builtin.Slice.sliceFields
  refine wpAny_bind (wpAny_bind (wpAny_field hos hds (x := .none) rfl (wpAny_bind (wpAny_field hos hds (x := .none) rfl (wpAny_bind (wpAny_field hos hds (x := vs) rfl (wpAny_pure ?_)))))))
  refine wpAny_bind (slicePart_ ps ?_)
  show wpAny _ _ (if ((-1 : Int) == 0) = true then _ else _) _ _ s
  rw [if_neg (by decide)]
  refine wpAny_bind (slicePart_ .none (wpAny_bind (slicePart_ .none (wpAny_bind (wpAny_pure ?_)))))
  have e1 : Builtin.Slice.sliceAdjust none none (-1) (n : Int) = ((n : Int) - 1, -1) := by
    simp [Builtin.Slice.sliceAdjust]
  have e2 : Builtin.Slice.slicePlaces ((n : Int) - 1) (-1) (-1) = n := by
    simp [Builtin.Slice.slicePlaces]
    omega
  show wpAny _ _ (match Builtin.Slice.sliceAdjust none none (-1) (n : Int) with | (lo, hi) => pure (lo, (-1 : Int), Builtin.Slice.slicePlaces lo hi (-1))) _ _ s
  rw [e1]
  show wpAny _ _ (pure ((n : Int) - 1, (-1 : Int), Builtin.Slice.slicePlaces ((n : Int) - 1) (-1) (-1))) _ _ s
  rw [e2]
  exact wpAny_pure h
theorem getItem_tuple_rev {t sl : Addr} {items : Array Value} {vs : Value} {Q : Value → Shared → Prop} (ht : IsTup s.heap t items) (hs : s.heap.IsSliceOf sl .none .none vs) (ps : IsPart vs (some (-1)))
    (h : Q (.ref s.heap.objs.size) { s with heap := s.heap.push { cls := .type "tuple", data := .seq items.toList.reverse.toArray } })
    (hsz : items.size ≤ sizeLine) : wpAny (model prog w) A (getItem (.ref t) (.ref sl)) Q E s := by
  have htake : sizeOk (.seq items.toList.reverse.toArray) := by
    show items.toList.reverse.toArray.size ≤ sizeLine
    rw [List.size_toArray, List.length_reverse, Array.length_toList]
    exact hsz
  obtain ⟨os, hos, hcs, hds⟩ := id hs
  have hTs : s.TypeIs (.ref sl) "slice" := ⟨os, hos, hcs⟩
  unfold getItem
  try with_reducible refine wpAny_holding ?_
  first | refine wpAny_bind (wpAny_pure ?_) | skip
  refine wpAny_bind (wpAny_sequenceKey ht.typeIs (by decide) ?_)
  refine wpAny_bind (wpAny_callSpecial?_slot (name := Str.ofString "__getitem__") ht.typeIs PyProof.Rows.slot_tuple_getitem
    (wpAny_call_entry PyProof.Rows.slot_tuple_getitem ht.typeIs entry_tuple_getitem ?_ (args_tuple_getitem _ _)))
  show wpAny _ _ (Builtin.Tuple.tupleItemsOf (.ref t) >>= _) _ _ s
  refine wpAny_bind (tupleItemsOf_ ht ?_)
  refine wpAny_bind (wpAny_typeOf hTs ?_)
  rw [if_pos (by decide)]
  refine wpAny_bind (sliceApplied_rev hs ps ?_)
  have hno : ¬ ((((items.size : Int) - 1) == 0 && (-1 : Int) == 1 && items.size == items.size) = true) := by
    simp
  show wpAny _ _ (if (((items.size : Int) - 1) == 0 && (-1 : Int) == 1 && items.size == items.size) = true then _ else _) _ _ s
  rw [if_neg hno, pick_rev]
  first
    | exact wpAny_bind (m := Builtin.Tuple.tupleExact _) (wpAny_newObj_type (wpAny_pure ⟨_, rfl, wpAny_pure h⟩) htake)
    | exact wpAny_bind (m := Builtin.Tuple.tupleExact _) (wpAny_newObj_type (wpAny_bind (wpAny_pure (wpAny_pure ⟨_, rfl, wpAny_pure h⟩))) htake)
    | exact wpAny_bind (wpAny_bind (m := Builtin.Tuple.tupleExact _) (wpAny_newObj_type (wpAny_pure (wpAny_pure ⟨_, rfl, wpAny_pure h⟩)) htake))
    | exact wpAny_bind (wpAny_bind (m := Builtin.Tuple.tupleExact _) (wpAny_newObj_type (wpAny_pure ⟨_, rfl, wpAny_pure h⟩) htake))
end
section
variable {X : Cx}
def tRev2 (K : PySem.W.Frag) (te : TE) : TE := fun σ H Q => te σ H fun x H1 => (∃ a xs, x = .ref a ∧ SqL K H1 a xs ∧ ∀ p, H1 p = none → Q (.ref p) (upd H1 p (.lst xs.reverse))) ∨
  ∃ a xs, x = .ref a ∧ SqT K H1 a xs ∧ ∀ p, H1 p = none → Q (.ref p) (upd H1 p (.tup xs.reverse))
theorem pe_rev2 {e : Expr} {te : TE} {k : Nat} {p1 p2 p3 pos : Pos} (he : PE X e te) : PE X (.Subscript e (.Slice none none (some (.UnaryOp .USub (.Constant (.int 1) k p1) p2)) p3) pos) (tRev2 X.K te) := by
  refine ⟨fun pins s σ H Q I h => ?_⟩
  refine Subscript_ (thn (he.run pins s σ H _ I h) fun v s1 ⟨x, H1, I1, r1, q1⟩ => ?_)
  have hst : PO X (some (.UnaryOp .USub (.Constant (.int 1) k p1) p2)) (tPart (tUn (rU fun i => .int (-i)) (tC (.int 1)))) := po_some (pe_un un_neg pe_int)
  refine wpAny_Slice (thn (po_none.run pins s1 σ H1 (fun o H2 => o = none ∧ H2 = H1) I1 ⟨rfl, rfl⟩) fun vl s2 ⟨l, H2, I2, pl, el, e2⟩ => ?_)
  subst el e2
  refine thn (po_none.run pins s2 σ H2 (fun o H3 => o = none ∧ H3 = H2) I2 ⟨rfl, rfl⟩) fun vu s3 ⟨u, H3, I3, pu, eu, e3⟩ => ?_
  subst eu e3
  refine thn (hst.run pins s3 σ H3 (fun o H4 => o = some (-1) ∧ H4 = H3) I3 ⟨1, rfl, -1, rfl, rfl, rfl⟩) fun vs s4 ⟨o, H4, I4, ps, eo, e4⟩ => ?_
  subst eo e4
  have I5 : Inv X pins σ H4 { s4 with heap := s4.heap.push { cls := .type "slice", data := .fields #[vl, vu, vs] } } := I4.kept (t' := s4.toks) fun b ob q => Heap.get?_push_of_some _ q
  rcases q1 with ⟨a, xs, ex, hx, q⟩ | ⟨a, xs, ex, hx, q⟩
  · subst ex
    cases r1
    obtain ⟨its, r, ht, hz⟩ := I5.list hx
    have hlen := r.length
    show wpAny (model X.prog X.w) X.A (subscriptTail e (.Slice none none (some (.UnaryOp .USub (.Constant (.int 1) k p1) p2)) p3) (.ref a) (.ref s4.heap.objs.size)) (EP X pins σ Q) X.xe _
    refine tail_any (ops := [.ref a, .ref s4.heap.objs.size]) ht.isList.typeIs (PySem.slot_list_getitem.lookup) ?_ (by with_unfolding_all rfl)
    refine wpAny_getItem_list_slice ht.isList (Heap.IsSliceOf.new _ vl vu vs) pl pu ps (by decide) ?_ (by rw [List.size_toArray]; omega)
    rw [PySem.W.krv_pick]
    refine ⟨.ref _, _, I5.laid (t' := s4.toks) (o := .lst xs.reverse) (fun b ob q => Heap.get?_push_of_some _ q) (Nat.le_refl _) ?_, rfl, q _ (I5.hok.fresh (Nat.le_refl _))⟩
    exact ⟨by rw [List.length_reverse]; exact hz, _, 0, r.reverse, Heap.get?_push_size _ rfl⟩
  · subst ex
    cases r1
    cases pl
    cases pu
    obtain ⟨its, r, ht, hz⟩ := I5.tuple hx
    have hlen := r.length
    show wpAny (model X.prog X.w) X.A (subscriptTail e (.Slice none none (some (.UnaryOp .USub (.Constant (.int 1) k p1) p2)) p3) (.ref a) (.ref s4.heap.objs.size)) (EP X pins σ Q) X.xe _
    refine tail_any (ops := [.ref a, .ref s4.heap.objs.size]) ht.typeIs (PyProof.Rows.slot_tuple_getitem.lookup) ?_ (by with_unfolding_all rfl)
    refine getItem_tuple_rev ht (Heap.IsSliceOf.new _ .none .none vs) ps ?_ (by rw [List.size_toArray]; omega)
    refine ⟨.ref _, _, I5.laid (t' := s4.toks) (o := .tup xs.reverse) (fun b ob q => Heap.get?_push_of_some _ q) (Nat.le_refl _) ?_, rfl, q _ (I5.hok.fresh (Nat.le_refl _))⟩
    exact ⟨by rw [List.length_reverse]; exact hz, _, r.reverse, by
      rw [List.toList_toArray] at *
      exact IsTup.new _ _⟩
end
end MP
namespace MP
open PySem PySem.Spec PyProof.Rows L2
variable [LamT]
theorem bounds_clip {a c n : Nat} (h1 : a ≤ n) (h2 : a ≤ c) : sliceBounds (some (a : Int)) (some (c : Int)) none n = ((a : Int), ((min c n : Nat) : Int), 1) := by
  have k1 : ¬ ((a : Int) < 0) := by omega
  have k2 : ¬ ((c : Int) < 0) := by omega
  simp only [sliceBounds, Option.getD_none, k1, k2, if_false, show (1 : Int) > 0 by decide, if_true]
  refine Prod.ext ?_ (Prod.ext ?_ rfl)
  · show max 0 (min (a : Int) n) = a
    omega
  · show max 0 (min (c : Int) n) = ((min c n : Nat) : Int)
    omega
section
variable {prog : Program} {w : World} {A : Around} {E : Value → Shared → Prop} {s : Shared}
theorem store_clip {l b sl : Addr} {xs ys : Array Value} {n m : Nat} {vl vu : Value} {a c : Nat} {Q : Unit → Shared → Prop} (el : s.heap.get? l = some { cls := .type "list", data := .seq xs n }) (eb : s.heap.get? b = some { cls := .type "list", data := .seq ys m }) (ne : l ≠ b)
    (hs : s.heap.IsSliceOf sl vl vu .none) (pl : IsPart vl (some (a : Int))) (pu : IsPart vu (some (c : Int))) (h1 : a ≤ xs.size) (h2 : a ≤ c) (hz : xs.size + ys.size ≤ sizeLine)
    (h : Q () { s with heap := s.heap.update l (Obj.mapSeq fun z => z.extract 0 a ++ ys ++ z.extract (min c xs.size) z.size) }) : wpAny (model prog w) A (setItem (.ref l) (.ref sl) (.ref b)) Q E s := by
  have tl := (PySem.IsL.isList el).typeIs
  have tb := (PySem.IsL.isList eb).typeIs
  obtain ⟨os, ho, hc, hd⟩ := id hs
  have ts : s.TypeIs (.ref sl) "slice" := ⟨os, ho, hc⟩
  have no0 : ¬ ((rawPart none == rawInt 0) = true) := Bool.false_ne_true
  have far : Builtin.List.listSameRef (.ref l) (.ref b) = false := beq_eq_false_iff_ne.mpr ne
  have mx : (max (a : Int) ((min c xs.size : Nat) : Int)).toNat = min c xs.size := by omega
  have fit : ((fun z : Array Value => z.extract 0 a ++ ys ++ z.extract (min c xs.size) z.size) xs).size ≤ sizeLine + 1 := by
    show (xs.extract 0 a ++ ys ++ xs.extract (min c xs.size) xs.size).size ≤ _
    rw [Array.size_append, Array.size_append, Array.size_extract, Array.size_extract]
    omega
  unfold setItem; try with_reducible refine wpAny_holding ?_
  first | refine wpAny_bind (wpAny_pure ?_) | skip
  refine wpAny_bind (wpAny_sequenceKey tl (by decide) (wpAny_bind (wpAny_callSpecial?_slot (name := Str.ofString "__setitem__") tl slot_list_setitem (wpAny_call_entry slot_list_setitem tl entry_list_setitem ?_ (args_list_setitem _ _ _)))))
  show wpAny _ _ (Builtin.List.listSubscript? (.ref sl) >>= _) _ _ s; refine wpAny_bind ?_
  unfold Builtin.List.listSubscript?; refine wpAny_bind (wpAny_specialOf ts slice_no_index ?_)
  simp only [Option.isNone_none, if_true]; refine wpAny_pure ?_
  show wpAny _ _ (typeOf (.ref sl) >>= _) _ _ s; refine wpAny_bind (wpAny_typeOf ts ?_)
  first | rw [if_neg (by decide)] | refine PySem.W.KFB.if_not (by decide) ?_
  rw [listSliceParts_eq]; refine wpAny_bind (wpAny_bind (wpAny_field ho hd (x := .none) rfl (wpAny_bind (wpAny_listPart .none ?_)))); rw [if_neg no0]
  refine wpAny_bind (wpAny_field ho hd (x := vl) rfl (wpAny_bind (wpAny_listPart pl (wpAny_bind (wpAny_field ho hd (x := vu) rfl (wpAny_bind (wpAny_listPart pu (wpAny_pure ?_))))))))
  first | simp only [far, Bool.false_eq_true, if_false] | refine PySem.W.KFB.if_not far ?_ | (dsimp only; rw [if_neg (by rw [far]; exact Bool.false_ne_true)])
  refine wpAny_bind (m := Builtin.List.listAllItems (.ref b) "must assign iterable to extended slice") ?_; unfold Builtin.List.listAllItems
  refine wpAny_bind (wpAny_typeOf tb ?_)
  first | refine PySem.W.KFB.if_so (by decide) ?_ | rw [if_pos (by decide)] | simp only [beq_self_eq_true, Bool.true_or, if_true]
  unfold Builtin.List.listItems; refine wpAny_bind (wpAny_seqItems eb rfl (wpAny_pure (wpAny_bind (wpAny_bind (wpAny_seqItems el rfl (wpAny_pure ?_))))))
  refine wpAny_bind (wpAny_of_eq ((sliceIndices_raw (some (a : Int)) (some (c : Int)) none xs.size (by simp)).trans (congrArg (pure : Int × Int × Int → Sem (Int × Int × Int)) (bounds_clip h1 h2))) ?_)
  show wpAny _ _ (if ((1 : Int) == 1) = true then _ else _) _ _ s; rw [if_pos (by decide)]; refine wpAny_bind (wpAny_rule ?_)
  first | simp only [notLongL hz, Bool.false_eq_true, if_false] | refine PySem.W.KFB.if_not (notLongL hz) ?_
  first | refine wpAny_bind (wpAny_pure ?_) | skip
  show wpAny _ _ (updateSeq l (fun z => z.extract 0 ((a : Int)).toNat ++ ys ++ z.extract (max (a : Int) ((min c xs.size : Nat) : Int)).toNat z.size) >>= _) _ _ s
  rw [mx, Int.toNat_natCast]; refine wpAny_bind (wpAny_updateSeq (hz := Nat.le_trans (Nat.le_add_right _ _) hz) (_hz' := fit) el rfl (wpAny_bind (wpAny_letGo ?_)))
  first | exact wpAny_bind (wpAny_pure (wpAny_pure ⟨.none, rfl, wpAny_pure h⟩)) | exact wpAny_pure ⟨.none, rfl, wpAny_pure h⟩
end
section
variable {X : Cx}
def gSlc (to : TE) (tl th : TO) : TG := fun v σ H Q => to σ H fun x H1 => tl σ H1 fun l H2 => th σ H2 fun u H3 => ∃ (p b : Addr) (xs ys : List V) (a c : Nat), x = .ref p ∧ v = .ref b ∧ l = some (a : Int) ∧ u = some (c : Int) ∧
  H3 p = some (.lst xs) ∧ H3 b = some (.lst ys) ∧ p ≠ b ∧ a ≤ xs.length ∧ a ≤ c ∧ xs.length + ys.length ≤ sizeLine ∧ Q σ (upd H3 p (.lst (xs.take a ++ ys ++ xs.drop (min c xs.length))))
theorem pg_slc {o : Expr} {lo hi : Option Expr} {to : TE} {tl th : TO} {p2 pos : Pos} (ho : PE X o to) (hl : PO X lo tl) (hu : PO X hi th) : PG X (.Subscript o (.Slice lo hi none p2) pos) (gSlc to tl th) := by
  refine ⟨fun pins s σ H v u Q I r h => ?_⟩
  show wpAny _ _ (holding [u] (eval o X.env) >>= _) _ _ s
  refine wpAny_bind (wpAny_holding (thn (ho.run pins s σ H _ I h) fun ov s1 ⟨x, H1, I1, r1, q1⟩ => ?_))
  refine wpAny_bind (wpAny_holding ?_)
  refine wpAny_Slice (thn (hl.run pins s1 σ H1 _ I1 q1) fun vl s2 ⟨l, H2, I2, pl, q2⟩ => thn (hu.run pins s2 σ H2 _ I2 q2) fun vu s3 ⟨w, H3, I3, pu, q3⟩ => ?_)
  rw [evalPart_none]
  refine wpAny_pure ?_
  have I4 : Inv X pins σ H3 { s3 with heap := s3.heap.push { cls := .type "slice", data := .fields #[vl, vu, .none] } } := I3.kept (t' := s3.toks) fun b ob q => Heap.get?_push_of_some _ q
  obtain ⟨p, b, xs, ys, a, c, rfl, rfl, rfl, rfl, hp, hb, ne, h1, h2, hz, q⟩ := q3
  cases r1
  cases r
  obtain ⟨z, its, n, rv, hlen, e⟩ := I4.lstM hp
  obtain ⟨z2, its2, n2, rv2, hlen2, e2⟩ := I4.lstM hb
  refine wpAny_bind (wpAny_standAt (wpAny_bind (wpAny_holding ?_)))
  refine store_clip e e2 ne (Heap.IsSliceOf.new ..) pl pu (by rw [List.size_toArray]; omega) h2 (by rw [List.size_toArray, List.size_toArray]; omega) ?_
  refine wpAny_release ⟨σ, _, I4.lset (its' := its.take a ++ its2 ++ its.drop (min c xs.length)) (t' := s3.toks) hp e ?_ (Vals.append (Vals.append (rv.take _) rv2) (rv.drop _)) ?_, q⟩
  · have hm : min c its.toArray.size = min c xs.length := by rw [List.size_toArray, ← hlen]
    show its.toArray.extract 0 a ++ its2.toArray ++ its.toArray.extract (min c its.toArray.size) its.toArray.size = _
    rw [hm]
    exact splice_eq its its2 a _
  · rw [List.length_append, List.length_append, List.length_take, List.length_drop]
    omega
end
def tConsI (t : TE) (ta : TA) : TA := fun σ H Q => t σ H fun x H1 => ∃ n, x = .int n ∧ ta σ H1 fun xs H2 => Q (x :: xs) H2
@[simp] def aExI (f : M) (r : MA) : MA := fun ρ => (f ρ).bind fun p => (intV p.1).bind fun n => (r p.2).bind fun q => some (.tm (.fz (.int n)) :: q.1, q.2)
section
variable {K : PySem.W.Frag} {np : Nat}
theorem sa_exI {t : TE} {ta : TA} {f : M} {r : MA} (h : Sim K t f) (hr : SimA K ta r) : SimA K (tConsI t ta) (aExI f r) := by
  intro σ ρ F G H hE ok us ρ' e Q k
  unfold aExI at e
  obtain ⟨⟨x, ρ1⟩, e1, e⟩ := bind_some e
  obtain ⟨n, en, e⟩ := bind_some e
  obtain ⟨⟨us1, ρ2⟩, e2, e⟩ := bind_some e
  simp only [Option.some.injEq, Prod.mk.injEq] at e
  obtain ⟨rfl, rfl⟩ := e
  obtain rfl := intV_ok en
  refine h σ ρ F G H hE ok _ ρ1 e1 _ fun v Fx F1 G1 H1 o1 E1 ok1 fr1 => ?_
  obtain ⟨rfl, fx⟩ := own_int o1
  refine ⟨n, rfl, ?_⟩
  refine hr σ ρ1 F1 G1 H1 E1 (ok1.sub fun a => by omega) us1 _ e2 _ fun vs Fa F2 G2 H2 o2 E2 ok2 fr2 => ?_
  obtain ⟨ok3, fr3, st⟩ := fr2.side (F1 := Fx) ok1 ok2
  refine k (.int n :: vs) (fun a => Fx a + Fa a) F2 G2 H2 ⟨.int n, vs, Fx, Fa, rfl, Own.mono fr2.g _ _ Fx o1 st, o2, fun _ => rfl⟩ E2 (ok3.congr fun a => by omega) ((fr1.trans fr3).congr (fun _ => rfl) fun a => by omega)
def rSlc : RN := fun vs H Q => match vs with
  | [v, x, .int l, .int u] => ∃ (p b : Addr) (xs ys : List V) (a c : Nat), x = .ref p ∧ v = .ref b ∧ l = (a : Int) ∧ u = (c : Int) ∧
    H p = some (.lst xs) ∧ H b = some (.lst ys) ∧ p ≠ b ∧ a ≤ xs.length ∧ a ≤ c ∧ xs.length + ys.length ≤ sizeLine ∧ Q .non (upd H p (.lst (xs.take a ++ ys ++ xs.drop (min c xs.length))))
  | _ => False
@[simp] def φSlc : Φ
  | [.ls ys, .ls xs, .fz (.int l), .fz (.int u)] => (eraseAll ys).bind fun es => (eraseAll xs).bind fun ds => if 0 ≤ l ∧ l ≤ ds.length ∧ l ≤ u ∧ ds.length + es.length ≤ 1000000 then
      some (.fz .none, [.fz (.list es), .ls ((ds.take l.toNat ++ es ++ ds.drop (min u.toNat ds.length)).map .fz), .fz (.int l), .fz (.int u)]) else none
  | _ => none
theorem os_slc : OpSem K rSlc φSlc := by
  intro vs xs F G H ho ok x zs e Q k
  unfold φSlc at e
  split at e
  · rename_i ys xs l u
    obtain ⟨es, e1, e⟩ := bind_some e
    obtain ⟨ds, e2, e⟩ := bind_some e
    split at e
    · rename_i hc
      obtain ⟨c1, c2, c3, c4⟩ := hc
      simp only [Option.some.injEq, Prod.mk.injEq] at e
      obtain ⟨rfl, rfl⟩ := e
      have ho' := ho
      simp only [OwnAll, Own, Dt] at ho
      obtain ⟨v, r1, A1, B1, rfl, ⟨b, us, Fy, rfl, hb, hy, fA⟩, ⟨w, r2, A2, B2, rfl, ⟨p, ws, Fx, rfl, hp, hx, fA2⟩, ⟨i1, r3, A3, B3, rfl, ⟨rfl, f3⟩, ⟨i2, r4, A4, B4, rfl, ⟨rfl, f4⟩, ⟨rfl, f5⟩, fB3⟩, fB2⟩, fB1⟩, f⟩ := ho
      have hF : ∀ a, F a = (one b a + Fy a + Fx a) + one p a := fun a => by
        have := f a; have := fA a; have := fB1 a; have := fA2 a; have := fB2 a; have := f3 a; have := fB3 a; have := f4 a; have := f5 a
        omega
      have ok1 : Ok G H (fun a => (one b a + Fy a + Fx a) + one p a) := ok.congr fun a => (hF a).symm
      have ne : p ≠ b := fun h => by
        subst h
        have := ok1.nd p
        rw [one_self] at this
        omega
      obtain ⟨ok2, fr2⟩ := thaw_ok (F1 := fun a => one b a + Fy a + Fx a) (F := one p) ok1
      have hd := OwnAll.frz (thaw_le ok1) xs ws Fx ds hx e2 fun a ha => thaw_at a (by show one b a + Fy a + Fx a ≠ 0; omega)
      have he := OwnAll.frz (thaw_le ok1) ys us Fy es hy e1 fun a ha => thaw_at a (by show one b a + Fy a + Fx a ≠ 0; omega)
      have l1 := hd.len
      have l2 := he.len
      obtain ⟨a, rfl⟩ := Int.eq_ofNat_of_zero_le c1
      obtain ⟨c, rfl⟩ := Int.eq_ofNat_of_zero_le (show 0 ≤ u by omega)
      refine ⟨p, b, ws, us, a, c, rfl, rfl, rfl, rfl, hp, hb, ne, by omega, by omega, ?_, ?_⟩
      · have : (1000000 : Nat) ≤ sizeLine := by decide
        omega
      · have okp : Ok (thaw G H fun a => one b a + Fy a + Fx a) H (fun a => one p a + 0) := ok2.congr fun a => by simp
        have hn : DtAll K (thaw G H fun a => one b a + Fy a + Fx a) (ds.take a ++ es ++ ds.drop (min c ds.length)) (ws.take a ++ us ++ ws.drop (min c ws.length)) := by
          rw [← l1]
          exact DtAll.app (DtAll.app (hd.take _) he) (hd.drop _)
        obtain ⟨a1, a2, a3⟩ := ok_write (o' := .lst (ws.take a ++ us ++ ws.drop (min c ws.length))) (F := fun _ => 0) (F' := fun _ => 0) okp hp fun a => Nat.le_refl 0
        have fr3 : Fr G H F (thaw G H fun a => one b a + Fy a + Fx a) H (fun a => one p a + 0) := fr2.congr (fun a => hF a) fun a => by simp
        have hB : thaw G H (fun a => one b a + Fy a + Fx a) b = some (.lst us) := by
          rw [thaw_at b (by show one b b + Fy b + Fx b ≠ 0; rw [one_self]; omega)]
          exact hb
        refine k .non (fun _ => 0) (one p) _ _ (Own.ofD dtNone) ?_ (a1.congr fun a => by simp) ((fr3.trans a2).congr (fun _ => rfl) fun a => by simp)
        simp only [OwnAll, Own, Dt, Int.toNat_natCast]
        exact ⟨.ref b, _, fun _ => 0, one p, rfl, ⟨⟨b, us, rfl, .inl hB, he⟩, fun _ => rfl⟩, ⟨.ref p, _, one p, fun _ => 0, rfl, ⟨p, _, fun _ => 0, rfl, upd_same, ownAll_fz hn, fun a => by simp⟩,
          ⟨_, _, fun _ => 0, fun _ => 0, rfl, ⟨rfl, fun _ => rfl⟩, ⟨_, _, fun _ => 0, fun _ => 0, rfl, ⟨rfl, fun _ => rfl⟩, ⟨rfl, fun _ => rfl⟩, fun _ => rfl⟩, fun _ => rfl⟩, fun a => by simp⟩, fun a => by simp⟩
    · cases e
  · cases e
@[simp] noncomputable def sSlc (i : Nat) (lo hi f : M) : MS := fun ρ => (mOp φSlc (aEx f (aNm i (aExI lo (aExI hi aNil)))) ρ).bind fun p => some (.nx, p.2)
theorem ss_slc {i : Nat} {te tl th : TE} {f lo hi : M} (h : Sim K te f) (h1 : Sim K tl lo) (h2 : Sim K th hi) : SimS K np (tAsg te (gSlc (tVar i) (tPart tl) (tPart th))) (sSlc i lo hi f) := by
  intro σ ρ F G H hE ok o ρ' e D p
  unfold sSlc at e
  obtain ⟨⟨x, ρ1⟩, e1, e⟩ := bind_some e
  simp only [Option.some.injEq, Prod.mk.injEq] at e
  obtain ⟨rfl, rfl⟩ := e
  have h0 := sim_op os_slc (sa_ex h (sa_nm (i := i) (sa_exI h1 (sa_exI h2 sa_nil)))) σ ρ F G H hE ok x ρ1 e1 (fun _ H' => D.nx σ H') fun v Fx F1 G1 H1 o1 E1 ok1 fr1 => p σ F1 G1 H1 .refl E1 (ok1.sub fun a => by omega) (fr1.sub fun a => by omega)
  have key : tN rSlc (tCons te (tCons (tVar i) (tConsI tl (tConsI th tNil)))) σ H (fun _ H' => D.nx σ H') = tAsg te (gSlc (tVar i) (tPart tl) (tPart th)) D σ H := by
    show (te σ H fun v H1 => ∃ x, σ[i]? = some (some x) ∧ tl σ H1 fun l H2 => ∃ n, l = .int n ∧ th σ H2 fun u H3 => ∃ m, u = .int m ∧ rSlc [v, x, l, u] H3 fun _ H' => D.nx σ H') = te σ H fun v H1 => ∃ x, σ[i]? = some (some x) ∧ tl σ H1 fun l H2 => ∃ n, l = .int n ∧ th σ H2 fun u H3 => ∃ m, u = .int m ∧ _
    congr 1
    funext v H1
    congr 1
    funext x
    congr 2
    funext l H2
    refine propext ⟨?_, ?_⟩
    · rintro ⟨n, rfl, q⟩
      refine ⟨n, rfl, ?_⟩
      refine cast (congrArg (th σ H2) ?_) q
      funext u H3
      refine propext ⟨?_, ?_⟩
      · rintro ⟨m, rfl, z⟩
        obtain ⟨p, b, xs, ys, a, c, z1, z2, rfl, rfl, z5⟩ := z
        exact ⟨_, rfl, p, b, xs, ys, a, c, z1, z2, rfl, rfl, z5⟩
      · rintro ⟨m, rfl, p, b, xs, ys, a, c, z1, z2, z3, z4, z5⟩
        exact ⟨m, rfl, p, b, xs, ys, a, c, z1, z2, Option.some.inj z3, Option.some.inj z4, z5⟩
    · rintro ⟨n, rfl, q⟩
      refine ⟨n, rfl, ?_⟩
      refine cast (congrArg (th σ H2) ?_) q
      funext u H3
      refine propext ⟨?_, ?_⟩
      · rintro ⟨m, rfl, p, b, xs, ys, a, c, z1, z2, z3, z4, z5⟩
        exact ⟨m, rfl, p, b, xs, ys, a, c, z1, z2, Option.some.inj z3, Option.some.inj z4, z5⟩
      · rintro ⟨m, rfl, z⟩
        obtain ⟨p, b, xs, ys, a, c, z1, z2, rfl, rfl, z5⟩ := z
        exact ⟨_, rfl, p, b, xs, ys, a, c, z1, z2, rfl, rfl, z5⟩
  rw [← key]
  exact h0
end
end MP
namespace MP
open PySem L2
variable [LamT]
def rInA (K : PySem.W.Frag) (n : Bool) : R2 := fun x y H Q => ∃ d ds, Dp K H x d ∧ (Dp K H y (.list ds) ∨ Dp K H y (.tuple ds)) ∧ SeqAt.shaped d = true ∧ SeqAt.shaped (.list ds) = true ∧ Q (.bl (xor n (ds.any fun z => PyData.eqv z d))) H
section
variable {X : Cx}
theorem op_inA (hu : X.A.units + 65 < cLine) : OpR X (compareOp .In) (rInA X.K false) := by
  intro pins s σ H x y v u Q I rx ry h
  obtain ⟨d, ds, hd, he, sd, se, q⟩ := h
  rw [Bool.false_xor] at q
  rcases he with he | he
  · exact op_inD hu pins s σ H x y v u Q I rx ry ⟨d, ds, hd, he, sd, se, q⟩
  · obtain ⟨as, r1⟩ := Dp.reads I d x v hd rx
    obtain ⟨bs, r2⟩ := Dp.reads I (.tuple ds) y u he ry
    exact SeqAt.in_tuple_reads r2 r1 (SeqAt.canLay_of_shaped se) (SeqAt.canLay_of_shaped sd) (PyProof.Rows.room_in_shaped sd hu) ⟨.bl _, H, I, rfl, q⟩
theorem op_notInA (hu : X.A.units + 65 < cLine) : OpR X (compareOp .NotIn) (rInA X.K true) := by
  intro pins s σ H x y v u Q I rx ry h
  obtain ⟨d, ds, hd, he, sd, se, q⟩ := h
  rw [Bool.true_xor] at q
  rcases he with he | he
  · exact op_notInD hu pins s σ H x y v u Q I rx ry ⟨d, ds, hd, he, sd, se, q⟩
  · obtain ⟨as, r1⟩ := Dp.reads I d x v hd rx
    obtain ⟨bs, r2⟩ := Dp.reads I (.tuple ds) y u he ry
    exact SeqAt.notIn_tuple_reads r2 r1 (SeqAt.canLay_of_shaped se) (SeqAt.canLay_of_shaped sd) (PyProof.Rows.room_in_shaped sd hu) ⟨.bl _, H, I, rfl, q⟩
end
@[simp] def hIn (n : Bool) : HD
  | [d, .list ds] => if SeqAt.shaped d && SeqAt.shaped (.list ds) then some (.dat (.bool (xor n (ds.any fun z => PyData.eqv z d)))) else none
  | [d, .tuple ds] => if SeqAt.shaped d && SeqAt.shaped (.list ds) then some (.dat (.bool (xor n (ds.any fun z => PyData.eqv z d)))) else none
  | _ => none
theorem od_in {K : PySem.W.Frag} {n : Bool} : OpD K (r2 (rInA K n)) (hIn n) := by
  intro ds vs G H le hs res e Q k
  unfold hIn at e
  split at e
  · obtain ⟨v, w, rfl, h1, h2⟩ := sh2 hs
    split at e
    · rename_i hz
      simp only [Bool.and_eq_true] at hz
      cases e
      exact ⟨_, _, ShD.dp le h1, .inl (ShD.dp le h2), hz.1, hz.2, k _ dtBool⟩
    · cases e
  · obtain ⟨v, w, rfl, h1, h2⟩ := sh2 hs
    split at e
    · rename_i hz
      simp only [Bool.and_eq_true] at hz
      cases e
      exact ⟨_, _, ShD.dp le h1, .inr (ShD.dp le h2), hz.1, hz.2, k _ dtBool⟩
    · cases e
  · cases e
end MP
namespace MP
open PySem L2
variable [LamT]
theorem gv_add (b : Bool) (a : Int) (t : Tok) : Gives (Builtin.«int.__add__» ⟨[.bool b, .int a t], []⟩) (.int ((if b = true then (1 : Int) else 0) + a)) :=
  .of_wp fun M A E s Q h => by
    obtain ⟨hp, g, d, tk, os⟩ := s
    wp_walk
    exact ⟨_, rfl, h⟩
theorem gv_sub (b : Bool) (a : Int) (t : Tok) : Gives (Builtin.«int.__sub__» ⟨[.bool b, .int a t], []⟩) (.int ((if b = true then (1 : Int) else 0) - a)) :=
  .of_wp fun M A E s Q h => by
    obtain ⟨hp, g, d, tk, os⟩ := s
    wp_walk
    exact ⟨_, rfl, h⟩
theorem sub_no : isSubtype (.type "int") (.type "bool") = pure false := by kernel_rfl
theorem same_refl_sub : reflectedDiffers (.type "int") (.type "bool") "sub" = pure false := by
  unfold reflectedDiffers
  show (typeLookup (.type "bool") (dunderR "sub") >>= fun rb => typeLookup (.type "int") (dunderR "sub") >>= fun ra => pure (rb.isSome && rb != ra)) = _
  rw [typeLookup_type, typeLookup_type, builtinLookup_eq_fast]; kernel_rfl
theorem same_refl_mul : reflectedDiffers (.type "int") (.type "bool") "mul" = pure false := by
  unfold reflectedDiffers
  show (typeLookup (.type "bool") (dunderR "mul") >>= fun rb => typeLookup (.type "int") (dunderR "mul") >>= fun ra => pure (rb.isSome && rb != ra)) = _
  rw [typeLookup_type, typeLookup_type, builtinLookup_eq_fast]; kernel_rfl
def rBl (f : Int → Int → Int) : R2 := fun x y H Q => ∃ k i, x = .bl k ∧ y = .int i ∧ Q (.int (f (if k = true then 1 else 0) i)) H
def rBr (f : Int → Int → Int) : R2 := fun x y H Q => ∃ i k, x = .int i ∧ y = .bl k ∧ Q (.int (f i (if k = true then 1 else 0))) H
section
variable {X : Cx}
theorem op_addBl : OpR X (binaryOp .Add) (rBl (· + ·)) := by
  intro pins s σ H x y v u Q I rx ry h
  obtain ⟨k, i, rfl, rfl, q⟩ := h
  cases rx
  obtain ⟨t, rfl⟩ := ry
  exact binaryOp_left_gives (op := .Add) (T := "bool") (U := "int") (by decide) rfl (fun s' => typeIs_int s' i t) F.fills_bool_add F.fills_int_add sub_no F.slot_bool_add F.slot_int_radd F.entry_int_add (F.args_int_add_2 _ _) (gv_add k i t) trivial ⟨.int _, H, I.tok _, ⟨_, rfl⟩, q⟩
theorem op_subBl : OpR X (binaryOp .Sub) (rBl (· - ·)) := by
  intro pins s σ H x y v u Q I rx ry h
  obtain ⟨k, i, rfl, rfl, q⟩ := h
  cases rx
  obtain ⟨t, rfl⟩ := ry
  exact binaryOp_left_gives (op := .Sub) (T := "bool") (U := "int") (by decide) rfl (fun s' => typeIs_int s' i t) F.fills_bool_sub F.fills_int_sub sub_no F.slot_bool_sub F.slot_int_rsub F.entry_int_sub (F.args_int_sub_2 _ _) (gv_sub k i t) trivial ⟨.int _, H, I.tok _, ⟨_, rfl⟩, q⟩
theorem op_subBr : OpR X (binaryOp .Sub) (rBr (· - ·)) := by
  intro pins s σ H x y v u Q I rx ry h
  obtain ⟨i, k, rfl, rfl, q⟩ := h
  cases ry
  obtain ⟨t, rfl⟩ := rx
  exact binaryOp_sub_gives (op := .Sub) (T := "int") (U := "bool") (by decide) (typeIs_int s i t) rfl F.fills_int_sub F.fills_bool_sub isSubtype_bool_int same_refl_sub F.slot_int_sub F.entry_int_sub (F.args_int_sub_2 _ _) (AutoIntG7.int___sub___int_bool_0 i t k) trivial ⟨.int _, H, I.tok _, ⟨_, rfl⟩, q⟩
theorem op_mulBr : OpR X (binaryOp .Mult) (rBr (· * ·)) := by
  intro pins s σ H x y v u Q I rx ry h
  obtain ⟨i, k, rfl, rfl, q⟩ := h
  cases ry
  obtain ⟨t, rfl⟩ := rx
  exact binaryOp_sub_gives (op := .Mult) (T := "int") (U := "bool") (by decide) (typeIs_int s i t) rfl F.fills_int_mul F.fills_bool_mul isSubtype_bool_int same_refl_mul F.slot_int_mul F.entry_int_mul (F.args_int_mul_2 _ _) (AutoIntG9.int___mul___int_bool_0 i t k) trivial ⟨.int _, H, I.tok _, ⟨_, rfl⟩, q⟩
end
def rOr (r r' : R2) : R2 := fun x y H Q => r x y H Q ∨ r' x y H Q
@[simp] def hBl (f : Int → Int → Int) (h : HD) : HD := fun ds => match ds with
  | [.bool k, .int i] => some (.dat (.int (f (if k = true then 1 else 0) i)))
  | _ => h ds
@[simp] def hBr (f : Int → Int → Int) (h : HD) : HD := fun ds => match ds with
  | [.int i, .bool k] => some (.dat (.int (f i (if k = true then 1 else 0))))
  | _ => h ds
section
variable {K : PySem.W.Frag}
theorem od_bl {r : R2} {h : HD} {f : Int → Int → Int} (o : OpD K (r2 r) h) : OpD K (r2 (rOr r (rBl f))) (hBl f h) := by
  intro ds vs G H le hs res e Q k
  unfold hBl at e
  split at e
  · cases e
    obtain ⟨v, w, rfl, h1, h2⟩ := sh2 hs
    exact .inr ⟨_, _, shBool h1, shInt h2, k _ dtInt⟩
  · have := o ds vs G H le hs res e Q k
    unfold r2 at this ⊢
    split at this
    · exact .inl this
    · exact this.elim
theorem od_br {r : R2} {h : HD} {f : Int → Int → Int} (o : OpD K (r2 r) h) : OpD K (r2 (rOr r (rBr f))) (hBr f h) := by
  intro ds vs G H le hs res e Q k
  unfold hBr at e
  split at e
  · cases e
    obtain ⟨v, w, rfl, h1, h2⟩ := sh2 hs
    exact .inr ⟨_, _, shInt h1, shBool h2, k _ dtInt⟩
  · have := o ds vs G H le hs res e Q k
    unfold r2 at this ⊢
    split at this
    · exact .inl this
    · exact this.elim
end
end MP
namespace MP
open PySem L2
variable [LamT]
structure ClsOk (K : PySem.W.Frag) (c : Nat) : Prop where
  cl : Cls K (He.ga K (clsName c))
  na : ∀ f ∈ clsFlds c, NoAttr K (He.ga K (clsName c)) f
theorem flds_nodup (c : Nat) : (clsFlds c).Nodup := by
  unfold clsFlds
  split <;> decide +kernel
theorem flds_len (c : Nat) : (clsFlds c).length ≤ 9 := by
  unfold clsFlds
  split <;> decide
section
variable {K : PySem.W.Frag} {np : Nat}
@[simp] def mFl (i c k : Nat) : M := fun ρ => match fldOf ρ i c k with
  | some (.fz d) => some (.fz d, ρ)
  | _ => none
theorem sim_fl {i c k : Nat} {f : Str} (hc : ClsOk K c) (hf : (clsFlds c)[k]? = some f) : Sim K (tFld K (tVar i) f) (mFl i c k) := by
  intro σ ρ F G H hE ok x ρ' e Q kk
  unfold mFl at e
  split at e
  · rename_i d q
    simp only [Option.some.injEq, Prod.mk.injEq] at e
    obtain ⟨rfl, rfl⟩ := e
    obtain ⟨p, dx, fs, w, F1, F2, a1, a2, a3, a4, a5, a6⟩ := hE.fld q
    refine ⟨_, a1, p, _, dx, fs, w, rfl, a2, hc.cl, hc.na f (List.mem_of_getElem? hf), a3 f (flds_nodup c) hf, ?_⟩
    exact kk w (fun _ => 0) F G H (Own.ofD a4.fzF) hE (ok.congr fun a => by simp) ((Fr.refl ok).congr (fun _ => rfl) fun a => by simp)
  · cases e
@[simp] def aFl (i c k : Nat) (r : MA) : MA := fun ρ => match fldOf ρ i c k with
  | some (.fz d) => (r ρ).bind fun q => some (.tm (.fz d) :: q.1, q.2)
  | some (.lk v _) => (r ρ).bind fun q => some (.nf i c k v :: q.1, q.2)
  | _ => none
theorem sa_fl {i c k : Nat} {f : Str} {ta : TA} {r : MA} (hc : ClsOk K c) (hf : (clsFlds c)[k]? = some f) (hr : SimA K ta r) : SimA K (tCons (tFld K (tVar i) f) ta) (aFl i c k r) := by
  intro σ ρ F G H hE ok us ρ' e Q kk
  unfold aFl at e
  split at e
  · rename_i d q
    obtain ⟨⟨us1, ρ2⟩, e2, e⟩ := bind_some e
    simp only [Option.some.injEq, Prod.mk.injEq] at e
    obtain ⟨rfl, rfl⟩ := e
    obtain ⟨p, dx, fs, w, F1, F2, a1, a2, a3, a4, a5, a6⟩ := hE.fld q
    refine ⟨_, a1, p, _, dx, fs, w, rfl, a2, hc.cl, hc.na f (List.mem_of_getElem? hf), a3 f (flds_nodup c) hf, ?_⟩
    have o1 : Own K G H (.fz d) w fun _ => 0 := Own.ofD a4.fzF
    refine hr σ ρ F G H hE ok us1 _ e2 _ fun vs Fa F2 G2 H2 o2 E2 ok2 fr2 => ?_
    exact kk (w :: vs) Fa F2 G2 H2 ⟨w, vs, fun _ => 0, Fa, rfl, Own.mono fr2.g _ w _ o1 fun a ha => absurd rfl ha, o2, fun a => by show Fa a = 0 + Fa a; omega⟩ E2 ok2 fr2
  · rename_i v ys q
    obtain ⟨⟨us1, ρ2⟩, e2, e⟩ := bind_some e
    simp only [Option.some.injEq, Prod.mk.injEq] at e
    obtain ⟨rfl, rfl⟩ := e
    obtain ⟨p, dx, fs, w, F1, F2, a1, a2, a3, a4, a5, a6⟩ := hE.fld q
    simp only [Own] at a4
    obtain ⟨rfl, a4⟩ := a4
    refine ⟨_, a1, p, _, dx, fs, w, rfl, a2, hc.cl, hc.na f (List.mem_of_getElem? hf), a3 f (flds_nodup c) hf, ?_⟩
    exact hr σ ρ F G H hE ok us1 _ e2 _ fun vs Fa F2 G2 H2 o2 E2 ok2 fr2 => kk (w :: vs) Fa F2 G2 H2 ⟨w, vs, rfl, rfl, o2⟩ E2 ok2 fr2
  · cases e
theorem fld_set {ρ : Sl} {i c k : Nat} {x y : Vl} (h : fldOf ρ i c k = some x) : fldOf (setFld ρ i k y) i c k = some y := by
  unfold fldOf at h
  split at h
  · rename_i c' xs q
    split at h
    · rename_i hc
      have hk := (List.getElem?_eq_some_iff.mp h).1
      have hi := (List.getElem?_eq_some_iff.mp q).1
      simp only [setFld, q, fldOf]
      rw [List.getElem?_set_self hi]
      simp only [hc, if_true]
      rw [List.getElem?_set_self hk]
    · cases h
  · cases h
open Classical in
noncomputable def lockM {α : Type} (i c k : Nat) (m : Sl → Option (α × Sl)) : Sl → Option (α × Sl) := fun ρ => match fldOf ρ i c k with
  | some (.ls ys) => (m (setFld ρ i k (.lk .non ys))).bind fun p => match fldOf p.2 i c k with
    | some (.lk _ ys') => if ∀ v, m (setFld ρ i k (.lk v ys)) = some (p.1, setFld p.2 i k (.lk v ys')) then some (p.1, setFld p.2 i k (.ls ys')) else none
    | _ => none
  | _ => m ρ
theorem lock_some {α : Type} {i c k : Nat} {m : Sl → Option (α × Sl)} {ρ ρ' : Sl} {ys : List Vl} {x : α} (h : fldOf ρ i c k = some (.ls ys)) (e : lockM i c k m ρ = some (x, ρ')) :
    ∃ ρ1 ys' z, fldOf ρ1 i c k = some z ∧ ρ' = setFld ρ1 i k (.ls ys') ∧ ∀ v, m (setFld ρ i k (.lk v ys)) = some (x, setFld ρ1 i k (.lk v ys')) := by
  unfold lockM at e
  rw [h] at e
  obtain ⟨⟨y, ρ1⟩, e1, e⟩ := bind_some e
  simp only at e
  split at e
  · rename_i v ys' q
    split at e
    · rename_i hv
      simp only [Option.some.injEq, Prod.mk.injEq] at e
      obtain ⟨rfl, rfl⟩ := e
      exact ⟨ρ1, ys', _, q, rfl, hv⟩
    · cases e
  · cases e
theorem lock_not {α : Type} {i c k : Nat} {m : Sl → Option (α × Sl)} {ρ : Sl} (h : ∀ ys, fldOf ρ i c k ≠ some (.ls ys)) : lockM i c k m ρ = m ρ := by
  unfold lockM
  split
  · rename_i ys q
    exact absurd q (h ys)
  · rfl
theorem OwnE.name {G H : Hp} {ρ : Sl} {σ : St} {F : FP} {i c k : Nat} {ys : List Vl} (h : OwnE K G H ρ σ F) (e : fldOf ρ i c k = some (.ls ys)) : ∃ v, OwnE K G H (setFld ρ i k (.lk v ys)) σ F := by
  obtain ⟨p, dx, fs, w, F1, F2, a1, a2, a3, a4, a5, a6⟩ := h.fld e
  refine ⟨w, (a6 G H (.lk w ys) F1 (fun _ _ z => z) (fun _ _ => rfl) ?_).congr a5⟩
  simp only [Own] at a4 ⊢
  exact ⟨trivial, a4⟩
theorem OwnE.unname {G H : Hp} {ρ : Sl} {σ : St} {F : FP} {i c k : Nat} {ys : List Vl} {v : V} {z : Vl} (e : fldOf ρ i c k = some z) (h : OwnE K G H (setFld ρ i k (.lk v ys)) σ F) : OwnE K G H (setFld ρ i k (.ls ys)) σ F := by
  obtain ⟨p, dx, fs, w, F1, F2, a1, a2, a3, a4, a5, a6⟩ := h.fld (fld_set e)
  have ho : Own K G H (.ls ys) w F1 := by
    simp only [Own] at a4 ⊢
    exact a4.2
  have h1 := (a6 G H (.ls ys) F1 (fun _ _ z => z) (fun _ _ => rfl) ho).congr a5
  have es : setFld (setFld ρ i k (.lk v ys)) i k (.ls ys) = setFld ρ i k (.ls ys) := by
    unfold fldOf at e
    split at e
    · rename_i c' xs q
      have hi := (List.getElem?_eq_some_iff.mp q).1
      simp only [setFld, q]
      rw [List.getElem?_set_self hi]
      simp [List.set_set]
    · cases e
  rw [es] at h1
  exact h1
theorem sim_lock {i c k : Nat} {t : TE} {m : M} (h : Sim K t m) : Sim K t (lockM i c k m) := by
  intro σ ρ F G H hE ok x ρ' e Q kk
  by_cases hl : ∃ ys, fldOf ρ i c k = some (.ls ys)
  · obtain ⟨ys, hl⟩ := hl
    obtain ⟨ρ1, ys', z, q, rfl, hv⟩ := lock_some hl e
    obtain ⟨v, hN⟩ := hE.name hl
    exact h σ _ F G H hN ok x _ (hv v) Q fun u Fx F' G' H' a b c d => kk u Fx F' G' H' a (OwnE.unname q b) c d
  · rw [lock_not fun ys z => hl ⟨ys, z⟩] at e
    exact h σ ρ F G H hE ok x ρ' e Q kk
theorem ss_lock {i c k : Nat} {t : TS} {m : MS} (h : SimS K np t m) : SimS K np t (lockM i c k m) := by
  intro σ ρ F G H hE ok x ρ' e D p
  by_cases hl : ∃ ys, fldOf ρ i c k = some (.ls ys)
  · obtain ⟨ys, hl⟩ := hl
    obtain ⟨ρ1, ys', z, q, rfl, hv⟩ := lock_some hl e
    obtain ⟨v, hN⟩ := hE.name hl
    refine h σ _ F G H hN ok x _ (hv v) D ?_
    cases x with
    | nx => intro σ' F' G' H' a b c d; exact p σ' F' G' H' a (OwnE.unname q b) c d
    | bk => intro σ' F' G' H' a b c d; exact p σ' F' G' H' a (OwnE.unname q b) c d
    | ct => intro σ' F' G' H' a b c d; exact p σ' F' G' H' a (OwnE.unname q b) c d
    | rt y => intro v' σ' Fx F' G' H' a o b c d; exact p v' σ' Fx F' G' H' a o (OwnE.unname q b) c d
  · rw [lock_not fun ys z => hl ⟨ys, z⟩] at e
    exact h σ ρ F G H hE ok x ρ' e D p
theorem putF_set : ∀ {ns : List Str} {vs : List V} {k : Nat} {f : Str} {y : V}, ns.Nodup → ns[k]? = some f → k < vs.length → putF f y (ns.zip vs) = ns.zip (vs.set k y)
  | [], _, _, _, _, _, e, _ => by simp at e
  | n :: ns, [], _, _, _, _, _, h => by simp at h
  | n :: ns, v :: vs, 0, f, y, hd, e, h => by
    simp only [List.getElem?_cons_zero, Option.some.injEq] at e
    subst e
    simp [putF]
  | n :: ns, v :: vs, k + 1, f, y, hd, e, h => by
    simp only [List.getElem?_cons_succ] at e
    have hn : n ≠ f := fun z => by
      subst z
      exact (List.nodup_cons.mp hd).1 (List.mem_of_getElem? e)
    simp only [List.zip_cons_cons, putF, if_neg hn, List.set_cons_succ]
    rw [putF_set (List.nodup_cons.mp hd).2 e (by simpa using h)]
theorem putF_new : ∀ {ns : List Str} {vs : List V} {f : Str} {y : V}, ns.Nodup → ns[vs.length]? = some f → putF f y (ns.zip vs) = ns.zip (vs ++ [y])
  | [], vs, _, _, _, e => by simp at e
  | n :: ns, [], f, y, hd, e => by
    simp only [List.length_nil, List.getElem?_cons_zero, Option.some.injEq] at e
    subst e
    simp [putF]
  | n :: ns, v :: vs, f, y, hd, e => by
    simp only [List.length_cons, List.getElem?_cons_succ] at e
    have hn : n ≠ f := fun z => by
      subst z
      exact (List.nodup_cons.mp hd).1 (List.mem_of_getElem? e)
    simp only [List.zip_cons_cons, putF, if_neg hn, List.cons_append]
    rw [putF_new (List.nodup_cons.mp hd).2 e]
@[simp] def putFld (xs : List Vl) (k : Nat) (y : Vl) : Option (List Vl) := if k < xs.length then some (xs.set k y) else if k = xs.length then some (xs ++ [y]) else none
@[simp] def sSetF (i c k : Nat) (frz : Bool) (f : M) : MS := fun ρ => (f ρ).bind fun p => (if frz then (erase p.1).map Vl.fz else some p.1).bind fun y => match p.2[i]? with
  | some (some (.ob c' xs)) => if c' = c then (putFld xs k y).bind fun ys => some (.nx, p.2.set i (some (.ob c ys))) else none
  | _ => none
theorem OwnAll.setV {G H : Hp} : ∀ {xs : List Vl} {vs : List V} {F : FP} (j : Nat) {y : Vl} {v : V} {Fy : FP}, OwnAll K G H xs vs F → Own K G H y v Fy → j < xs.length → ∃ F' : FP, (∀ a, F' a ≤ F a) ∧ OwnAll K G H (xs.set j y) (vs.set j v) (fun a => Fy a + F' a)
  | [], vs, F, j, y, v, Fy, h, hd, hj => by simp at hj
  | x :: xs, vs, F, 0, y, v, Fy, h, hd, hj => by
    simp only [OwnAll] at h
    obtain ⟨w, r, A, B, rfl, h1, h2, f⟩ := h
    refine ⟨B, fun a => by rw [f]; omega, ?_⟩
    simp only [List.set_cons_zero, OwnAll]
    exact ⟨v, r, Fy, B, rfl, hd, h2, fun a => rfl⟩
  | x :: xs, vs, F, j + 1, y, v, Fy, h, hd, hj => by
    simp only [OwnAll] at h
    obtain ⟨w, r, A, B, rfl, h1, h2, f⟩ := h
    obtain ⟨F', l, q⟩ := h2.setV j hd (by simpa using hj)
    refine ⟨fun a => A a + F' a, fun a => by rw [f]; have := l a; show A a + F' a ≤ _; omega, ?_⟩
    simp only [List.set_cons_succ, OwnAll]
    exact ⟨w, r.set j v, A, fun a => Fy a + F' a, rfl, h1, q, fun a => by show Fy a + (A a + F' a) = A a + (Fy a + F' a); omega⟩
theorem putFld_ok {G H : Hp} {c k : Nat} {f : Str} {xs ys : List Vl} {vs : List V} {F Fy : FP} {y : Vl} {v : V} (hf : (clsFlds c)[k]? = some f) (hl : vs.length ≤ (clsFlds c).length) (h : OwnAll K G H xs vs F) (hy : Own K G H y v Fy) (e : putFld xs k y = some ys) :
    ∃ (vs' : List V) (F' : FP), putF f v ((clsFlds c).zip vs) = (clsFlds c).zip vs' ∧ vs'.length ≤ (clsFlds c).length ∧ (∀ a, F' a ≤ F a) ∧ OwnAll K G H ys vs' (fun a => Fy a + F' a) := by
  have hlen := h.len
  unfold putFld at e
  split at e
  · rename_i hk
    simp only [Option.some.injEq] at e
    subst e
    obtain ⟨F', l, q⟩ := h.setV k hy hk
    exact ⟨_, F', putF_set (flds_nodup c) hf (by omega), by rw [List.length_set]; exact hl, l, q⟩
  · split at e
    · rename_i hk
      simp only [Option.some.injEq] at e
      subst e
      subst hk
      rw [hlen] at hf
      have := (List.getElem?_eq_some_iff.mp hf).1
      exact ⟨_, F, putF_new (flds_nodup c) hf, by rw [List.length_append, List.length_singleton]; omega, fun _ => Nat.le_refl _, (h.snoc hy).congr fun a => by omega⟩
    · cases e
theorem ss_setF {i c k : Nat} {f : Str} {frz : Bool} {te : TE} {m : M} (hc : ClsOk K c) (hf : (clsFlds c)[k]? = some f) (h : Sim K te m) : SimS K np (sFld K (tVar i) te f) (sSetF i c k frz m) := by
  intro σ ρ F G H hE ok o ρ' e D p
  obtain ⟨⟨x, ρ1⟩, e1, e⟩ := bind_some e
  obtain ⟨y, e2, e⟩ := bind_some e
  simp only at e
  split at e
  · rename_i c' xs q
    split at e
    · rename_i hcc
      subst hcc
      obtain ⟨ys, e3, e⟩ := bind_some e
      simp only [Option.some.injEq, Prod.mk.injEq] at e
      obtain ⟨rfl, rfl⟩ := e
      refine h σ ρ F G H hE ok x ρ1 e1 _ fun v Fx F1 G1 H1 o1 E1 ok1 fr1 => ?_
      -- perhaps frozen
      have hy : ∃ (G2 : Hp) (Fy : FP), Own K G2 H1 y v Fy ∧ OwnE K G2 H1 ρ1 σ F1 ∧ Ok G2 H1 (fun a => Fy a + F1 a) ∧ Fr G H F G2 H1 (fun a => Fy a + F1 a) := by
        cases frz with
        | false =>
          simp only [Bool.false_eq_true, if_false, Option.some.injEq] at e2
          subst e2
          exact ⟨G1, Fx, o1, E1, ok1, fr1⟩
        | true =>
          simp only [if_true, Option.map_eq_some_iff] at e2
          obtain ⟨d, e2, rfl⟩ := e2
          obtain ⟨ok2, fr2⟩ := thaw_ok ok1
          have hd := Own.frz (thaw_le ok1) x v Fx d o1 e2 thaw_at
          exact ⟨_, fun _ => 0, Own.ofD hd, OwnE.mono (thaw_le ok1) _ _ _ E1 fun _ _ => rfl, ok2.congr fun a => by simp, (fr1.trans fr2).congr (fun _ => rfl) fun a => by simp⟩
      obtain ⟨G2, Fy, oy, E2, ok2, fr2⟩ := hy
      obtain ⟨u, A, B, h1, h2, h3, ff⟩ := E2.take q
      simp only [Own] at h2
      obtain ⟨pp, dx, vs, F', rfl, hp, hl, hx, fA⟩ := h2
      refine ⟨_, h1, pp, _, dx, _, rfl, hp, hc.cl, hc.na f (List.mem_of_getElem? hf), ?_, ?_⟩
      · rw [List.length_zip]
        have := flds_len c'
        omega
      · obtain ⟨vs', F3, b1, b2, b3, b4⟩ := putFld_ok hf hl hx oy e3
        rw [b1]
        have okp : Ok G2 H1 (fun a => one pp a + (Fy a + F' a + B a)) := ok2.congr fun a => by have := ff a; have := fA a; show one pp a + (Fy a + F' a + B a) = Fy a + F1 a; omega
        obtain ⟨w1, w2, w3⟩ := ok_write (o' := .ins (He.ga K (clsName c')) dx ((clsFlds c').zip vs')) okp hp (F' := fun a => Fy a + F3 a + B a) fun a => by have := b3 a; show Fy a + F3 a + B a ≤ Fy a + F' a + B a; omega
        have hobj : Own K G2 (upd H1 pp (.ins (He.ga K (clsName c')) dx ((clsFlds c').zip vs'))) (.ob c' ys) (.ref pp) (fun a => one pp a + (Fy a + F3 a)) := by
          simp only [Own]
          exact ⟨pp, dx, vs', _, rfl, upd_same, b2, OwnAll.mono (fun _ _ z => z) _ _ _ b4 fun a ha => w3 a (by have := b3 a; show Fy a + F' a + B a ≠ 0; omega), fun _ => rfl⟩
        have hE3 := OwnE.put (OwnE.mono (fun _ _ z => z) _ _ _ h3 (H' := upd H1 pp (.ins (He.ga K (clsName c')) dx ((clsFlds c').zip vs'))) fun a ha => w3 a (show Fy a + F' a + B a ≠ 0 by omega)) (by
          have := (List.getElem?_eq_some_iff.mp q).1
          rw [List.getElem?_set_self this]) h1 hobj
        rw [List.set_set] at hE3
        refine p σ _ G2 _ .refl hE3 (w1.congr fun a => by show one pp a + (Fy a + F3 a) + B a = one pp a + (Fy a + F3 a + B a); omega) ((fr2.trans (w2.congr (fun a => ?_) fun _ => rfl)).congr (fun _ => rfl) fun a => by show one pp a + (Fy a + F3 a) + B a = one pp a + (Fy a + F3 a + B a); omega)
        have := ff a; have := fA a
        show Fy a + F1 a = one pp a + (Fy a + F' a + B a)
        omega
    · cases e
  · cases e
end
end MP
namespace MP
open PySem L2
variable [LamT]
section
variable {K : PySem.W.Frag} {np : Nat}
@[simp] def sAugF (i c k : Nat) (op : Int → Int → Int) (f : M) : MS := fun ρ => match fldOf ρ i c k with
  | some (.fz (.int a)) => (f ρ).bind fun p => match p.1 with
    | .fz (.int b) => (match p.2[i]? with
      | some (some (.ob c' xs)) => if c' = c then (putFld xs k (.fz (.int (op a b)))).bind fun ys => some (.nx, p.2.set i (some (.ob c ys))) else none
      | _ => none)
    | _ => none
  | _ => none
def rOpI (op : Int → Int → Int) : V → V → Hp → VK → Prop := fun x y H Q => ∃ i j, x = .int i ∧ y = .int j ∧ Q (.int (op i j)) H
theorem ss_augF {i c k : Nat} {f : Str} {op : Int → Int → Int} {te : TE} {m : M} (hc : ClsOk K c) (hf : (clsFlds c)[k]? = some f) (h : Sim K te m) : SimS K np (sFldAug K (tVar i) te (rOpI op) f) (sAugF i c k op m) := by
  intro σ ρ F G H hE ok o ρ' e D p
  unfold sAugF at e
  split at e
  · rename_i a0 q0
    obtain ⟨⟨x, ρ1⟩, e1, e⟩ := bind_some e
    obtain ⟨p0, dx0, fs0, w0, A0, B0, a1, a2, a3, a4, a5, a6⟩ := hE.fld q0
    have hw0 := a4.fzF
    simp only [Dt] at hw0
    subst hw0
    refine ⟨_, a1, p0, _, dx0, fs0, _, rfl, a2, hc.cl, hc.na f (List.mem_of_getElem? hf), a3 f (flds_nodup c) hf, ?_⟩
    refine h σ ρ F G H hE ok x ρ1 e1 _ fun v Fx F1 G1 H1 o1 E1 ok1 fr1 => ?_
    simp only at e
    split at e
    · rename_i b
      have hv := o1.fzF
      simp only [Dt] at hv
      subst hv
      refine ⟨_, _, rfl, rfl, ?_⟩
      split at e
      · rename_i c' xs q
        split at e
        · rename_i hcc
          subst hcc
          obtain ⟨ys, e3, e⟩ := bind_some e
          simp only [Option.some.injEq, Prod.mk.injEq] at e
          obtain ⟨rfl, rfl⟩ := e
          obtain ⟨u, A, B, h1, h2, h3, ff⟩ := E1.take q
          simp only [Own] at h2
          obtain ⟨pp, dx, vs, F', rfl, hp, hl, hx, fA⟩ := h2
          rw [a1] at h1
          have : p0 = pp := by
            simp only [Option.some.injEq, V.ref.injEq] at h1
            exact h1
          subst this
          refine ⟨dx, _, hp, ?_, ?_⟩
          · rw [List.length_zip]
            have := flds_len c'
            omega
          · have oy : Own K G1 H1 (.fz (.int (op a0 b))) (.int (op a0 b)) (fun _ => 0) := Own.ofD dtInt
            obtain ⟨vs', F3, b1, b2, b3, b4⟩ := putFld_ok hf hl hx oy e3
            rw [b1]
            have ok2 : Ok G1 H1 F1 := ok1.sub fun a => by omega
            have okp : Ok G1 H1 (fun a => one p0 a + (F' a + B a)) := ok2.congr fun a => by have := ff a; have := fA a; show one p0 a + (F' a + B a) = F1 a; omega
            obtain ⟨w1, w2, w3⟩ := ok_write (o' := .ins (He.ga K (clsName c')) dx ((clsFlds c').zip vs')) okp hp (F' := fun a => F3 a + B a) fun a => by have := b3 a; show F3 a + B a ≤ F' a + B a; omega
            have hobj : Own K G1 (upd H1 p0 (.ins (He.ga K (clsName c')) dx ((clsFlds c').zip vs'))) (.ob c' ys) (.ref p0) (fun a => one p0 a + (0 + F3 a)) := by
              simp only [Own]
              exact ⟨p0, dx, vs', _, rfl, upd_same, b2, OwnAll.mono (fun _ _ z => z) _ _ _ b4 fun a ha => w3 a (by have := b3 a; show F' a + B a ≠ 0; omega), fun _ => rfl⟩
            have hE3 := OwnE.put (OwnE.mono (fun _ _ z => z) _ _ _ h3 (H' := upd H1 p0 (.ins (He.ga K (clsName c')) dx ((clsFlds c').zip vs'))) fun a ha => w3 a (show F' a + B a ≠ 0 by omega)) (by
              have := (List.getElem?_eq_some_iff.mp q).1
              rw [List.getElem?_set_self this]) a1 hobj
            rw [List.set_set] at hE3
            refine p σ _ G1 _ .refl hE3 (w1.congr fun a => by show one p0 a + (0 + F3 a) + B a = one p0 a + (F3 a + B a); omega) (((fr1.sub (F2 := F1) fun a => by omega).trans (w2.congr (fun a => ?_) fun _ => rfl)).congr (fun _ => rfl) fun a => by show one p0 a + (0 + F3 a) + B a = one p0 a + (F3 a + B a); omega)
            have := ff a; have := fA a
            show F1 a = one p0 a + (F' a + B a)
            omega
        · cases e
      · cases e
    · cases e
  · cases e
@[simp] def fzL : List Vl → Option (List PyData)
  | [] => some []
  | .fz d :: xs => (fzL xs).bind fun ds => some (d :: ds)
  | _ => none
structure WalkC (K : PySem.W.Frag) (J : It) (ds : List PyData) (C : Hp → Hp → Prop) : Prop where
  go : ∀ i G H, i < ds.length → C G H → J.go i H
  stop : ∀ G H, C G H → J.stop ds.length H
  yld : ∀ i G H x H' d, ds[i]? = some d → C G H → Le G H → J.yld i H x H' → ∃ G3, Step G H G3 H' ∧ Dt K G3 d x
abbrev MItG := Sl → Option (List PyData × (Sl → Prop))
def SimItG (K : PySem.W.Frag) (wi : TI) (f : MItG) : Prop :=
  ∀ (σ : St) (ρ : Sl) (F : FP) (G : Hp) (H : Hp), OwnE K G H ρ σ F → Ok G H F → ∀ ds gd, f ρ = some (ds, gd) → ∀ R : It → Hp → Prop,
    (∀ J C, WalkC K J ds C → (∀ G2 H2 ρ2 σ2 F2, OwnE K G2 H2 ρ2 σ2 F2 → gd ρ2 → C G2 H2) → R J H) → wi σ H R
def LC (K : PySem.W.Frag) (v : V) (ds : List PyData) (G H : Hp) : Prop := ∃ q vs, v = .ref q ∧ H q = some (.lst vs) ∧ DtAll K G ds vs
theorem own_fz : ∀ {ys : List Vl} {ds : List PyData} {vs : List V} {F : FP} {G H : Hp}, OwnAll K G H ys vs F → fzL ys = some ds → DtAll K G ds vs
  | [], ds, vs, F, G, H, h, e => by
    simp only [fzL, Option.some.injEq] at e
    subst e
    simp only [OwnAll] at h
    simp only [DtAll]
    exact h.1
  | .fz d :: ys, ds, vs, F, G, H, h, e => by
    simp only [fzL] at e
    obtain ⟨ds', e1, e⟩ := bind_some e
    cases e
    simp only [OwnAll] at h
    obtain ⟨v, r, A, B, rfl, h1, h2, f⟩ := h
    simp only [DtAll]
    exact ⟨v, r, rfl, h1.fzF, own_fz h2 e1⟩
  | .ls _ :: _, _, _, _, _, _, _, e => by simp [fzL] at e
  | .ob _ _ :: _, _, _, _, _, _, _, e => by simp [fzL] at e
  | .lk _ _ :: _, _, _, _, _, _, _, e => by simp [fzL] at e
  | .hl _ :: _, _, _, _, _, _, _, e => by simp [fzL] at e
  | .dt _ :: _, _, _, _, _, _, _, e => by simp [fzL] at e
  | .sc _ :: _, _, _, _, _, _, _, e => by simp [fzL] at e
theorem lc_of {G H : Hp} {ρ : Sl} {σ : St} {F : FP} {i c k : Nat} {v : V} {ys : List Vl} {ds : List PyData} (h : OwnE K G H ρ σ F) (e : fldOf ρ i c k = some (.lk v ys)) (hf : fzL ys = some ds) : LC K v ds G H := by
  obtain ⟨p, dx, fs, w, F1, F2, a1, a2, a3, a4, a5, a6⟩ := h.fld e
  simp only [Own] at a4
  obtain ⟨rfl, q, vs, F', e1, e2, e3, _⟩ := a4
  exact ⟨q, vs, e1, e2, own_fz e3 hf⟩
theorem walkc_list {q : Addr} {ds : List PyData} : WalkC K (Itl K q) ds (LC K (.ref q) ds) := by
  refine ⟨fun i G H hi c => ?_, fun G H c => ?_, fun i G H x H' d e c le y => ?_⟩
  · obtain ⟨q', vs, e1, e2, hd⟩ := c
    cases e1
    rw [hd.len] at hi
    exact ⟨vs, vs[i], SqL.of e2, by simp [hi]⟩
  · obtain ⟨q', vs, e1, e2, hd⟩ := c
    cases e1
    exact ⟨vs, SqL.of e2, by rw [hd.len]; exact Nat.le_refl _⟩
  · obtain ⟨q', vs, e1, e2, hd⟩ := c
    cases e1
    obtain ⟨rfl, y⟩ := y
    obtain ⟨v, e1, hd⟩ := hd.get e
    have := y vs (SqL.of e2)
    rw [e1] at this
    cases this
    exact ⟨G, Step.refl le, hd⟩
end
open Classical in
noncomputable def forLG (gd : Sl → Prop) (tg : Tg) (body : MS) : List PyData → Sl → Option (Out × Sl)
  | [], ρ => if gd ρ then some (.nx, ρ) else none
  | d :: ds, ρ => if gd ρ then (asg tg d ρ).bind fun ρ1 => (body ρ1).bind fun p => match p.1 with
    | .nx => forLG gd tg body ds p.2
    | .ct => forLG gd tg body ds p.2
    | .bk => some (.nx, p.2)
    | .rt x => some (.rt x, p.2)
    else none
noncomputable def sForG (it : MItG) (tg : Tg) (body : MS) : MS := fun ρ => (it ρ).bind fun p => forLG p.2 tg body p.1 ρ
section
variable {K : PySem.W.Frag} {np : Nat}
theorem ss_forG {wi : TI} {it : MItG} {tg : Tg} {tb : TS} {body : MS} (hi : SimItG K wi it) (hb : SimS K np tb body) (hs : ∀ i ∈ tg.slots, np ≤ i) : SimS K np (tFor wi (gOf K tg) tb) (sForG it tg body) := by
  intro σ ρ F G H hE ok o ρ' e D p
  obtain ⟨⟨ds, gd⟩, e1, e⟩ := bind_some e
  refine hi σ ρ F G H hE ok ds gd e1 _ fun J C w sup => ?_
  let INV : Nat → St → Hp → Prop := fun i σ' H' => ∃ (ρi : Sl) (Fi : FP) (Gi : Hp), Keep np σ σ' ∧ OwnE K Gi H' ρi σ' Fi ∧ Ok Gi H' Fi ∧ Fr G H F Gi H' Fi ∧ forLG gd tg body (ds.drop i) ρi = some (o, ρ')
  refine ⟨fun i m σ' H' => m = ds.length - i ∧ i ≤ ds.length ∧ INV i σ' H', ⟨ds.length, by simp, Nat.zero_le _, ρ, F, G, .refl, hE, ok, Fr.refl ok, e⟩, ?_⟩
  rintro i m σ' H' ⟨rfl, hi', ρi, Fi, Gi, kp, Ei, oki, fri, ei⟩
  by_cases hlt : i < ds.length
  · rw [List.drop_eq_getElem_cons hlt] at ei
    simp only [forLG] at ei
    split at ei
    case isFalse => cases ei
    rename_i hg
    have hC := sup Gi H' ρi σ' Fi Ei hg
    refine .inr ⟨w.go i Gi H' hlt hC, INV (i + 1), fun σ2 H2 q => ⟨ds.length - (i + 1), by omega, rfl, hlt, q⟩, fun x H2 yl => ?_⟩
    have ed : ds[i]? = some ds[i] := List.getElem?_eq_getElem hlt
    obtain ⟨G3h, s3, hx⟩ := w.yld i Gi H' x H2 ds[i] ed hC oki.le yl
    let G3 : Hp := G3h
    obtain ⟨ok3, fr3, st3⟩ := s3.ok oki
    obtain ⟨ρa, ea, ei⟩ := bind_some ei
    obtain ⟨⟨ob, ρb⟩, eb, ei⟩ := bind_some ei
    have E3 := OwnE.mono s3.g _ _ _ Ei st3
    refine sg tg ds[i] x σ' ρi ρa Fi G3 H2 E3 ok3 hx ea _ fun σ4 F4 E4 l4 c4 => ?_
    have kp4 : Keep np σ σ4 := kp.trans fun j hj => c4.at_ j fun z => absurd (hs j z) (by omega)
    have fr4 : Fr G H F G3 H2 F4 := (fri.trans fr3).sub l4
    refine hb σ4 ρa F4 G3 H2 E4 (ok3.sub l4) ob ρb eb _ ?_
    cases ob with
    | nx => intro σ5 F5 G5 H5 k5 E5 ok5 fr5; exact ⟨ρb, F5, G5, kp4.trans k5, E5, ok5, fr4.trans fr5, ei⟩
    | ct => intro σ5 F5 G5 H5 k5 E5 ok5 fr5; exact ⟨ρb, F5, G5, kp4.trans k5, E5, ok5, fr4.trans fr5, ei⟩
    | bk =>
      intro σ5 F5 G5 H5 k5 E5 ok5 fr5
      simp only [Option.some.injEq, Prod.mk.injEq] at ei
      obtain ⟨rfl, rfl⟩ := ei
      exact p σ5 F5 G5 H5 (kp4.trans k5) E5 ok5 (fr4.trans fr5)
    | rt y =>
      intro v σ5 Fx F5 G5 H5 k5 o5 E5 ok5 fr5
      simp only [Option.some.injEq, Prod.mk.injEq] at ei
      obtain ⟨rfl, rfl⟩ := ei
      exact p v σ5 Fx F5 G5 H5 (kp4.trans k5) o5 E5 ok5 (fr4.trans fr5)
  · have hin : i = ds.length := by omega
    subst hin
    rw [List.drop_length] at ei
    simp only [forLG] at ei
    split at ei
    case isFalse => cases ei
    rename_i hg
    have hC := sup Gi H' ρi σ' Fi Ei hg
    simp only [Option.some.injEq, Prod.mk.injEq] at ei
    obtain ⟨rfl, rfl⟩ := ei
    exact .inl ⟨w.stop Gi H' hC, p σ' Fi Gi H' kp Ei oki fri⟩
end
end MP
namespace MP
open PySem L2
variable [LamT]
open Classical in
noncomputable def lcLG (gd : Sl → Prop) (dp : Bool) (tg : Tg) (own : List Nat) (t : MT) (e : M) : List PyData → Sl → Option (List Vl × Sl)
  | [], ρ => if gd ρ then some ([], ρ) else none
  | d :: ds, ρ => if gd ρ then (asg tg d ρ).bind fun ρ1 => (t ρ1).bind fun b => if b.1 then (e b.2).bind fun x => (keepV dp x.1).bind fun y => (lcLG gd dp tg own t e ds (wipeR x.2 own)).bind fun q => some (y :: q.1, q.2)
    else lcLG gd dp tg own t e ds (wipeR b.2 own)
    else none
noncomputable def mLcG (dp : Bool) (own : List Nat) (it : MItG) (tg : Tg) (t : MT) (e : M) : M := fun ρ => (it ρ).bind fun p => (lcLG p.2 dp tg own t e p.1 (wipeR ρ own)).bind fun q =>
  if q.2.length = ρ.length ∧ p.1.length ≤ 1000000 then some (.ls q.1, restR ρ own q.2) else none
section
variable {K : PySem.W.Frag} {np : Nat}
theorem sim_lcG {dp : Bool} {own : List Nat} {wi : TI} {it : MItG} {tg : Tg} {tt : TT} {t : MT} {te : TE} {e : M} (hi : SimItG K wi it) (ht : SimT K tt t) (he : Sim K te e) (hs : ∀ i ∈ tg.slots, i ∈ own) :
    Sim K (tLc wi (gOf K tg) tt te own) (mLcG dp own it tg t e) := by
  intro σ ρ F1 G1 H1 E1 ok1 x ρ' e0 Q k
  obtain ⟨⟨ds, gd⟩, e1, ea⟩ := bind_some e0
  obtain ⟨⟨ys, ρ2⟩, e2, eb⟩ := bind_some ea
  clear e0 ea
  simp only at e2 eb
  split at eb
  case isFalse => cases eb
  rename_i hl
  obtain ⟨hl, hz⟩ := hl
  simp only [Option.some.injEq, Prod.mk.injEq] at eb
  obtain ⟨rfl, rfl⟩ := eb
  refine hi σ ρ F1 G1 H1 E1 ok1 ds gd e1 _ fun J C w sup => fun D hD => ?_
  have fr1 := Fr.refl ok1
  obtain ⟨Fw, Fs, fs, W1, W2⟩ := E1.wipeAll own
  -- the new list is ours
  obtain ⟨okD, frD, stD⟩ := ok_own (o := .lst []) ok1 hD
  let INV : Nat → Hp → Prop := fun i H' => ∃ (ρi : Sl) (Fi : FP) (Gi : Hp) (acc : List Vl) (ws : List V) (Fa : FP) (rest : List Vl), H' D = some (.lst ws) ∧ OwnAll K Gi H' acc ws Fa ∧ OwnE K Gi H' ρi (wipe σ own) Fi ∧
    Ok Gi H' (fun a => (one D a + Fa a + Fs a) + Fi a) ∧ Fr G1 H1 F1 Gi H' (fun a => (one D a + Fa a + Fs a) + Fi a) ∧ (∀ a, Fs a ≠ 0 → H' a = H1 a) ∧
    lcLG gd dp tg own t e (ds.drop i) ρi = some (rest, ρ2) ∧ ys = acc ++ rest ∧ acc.length ≤ i
  refine ⟨fun i m H' => m = ds.length - i ∧ i ≤ ds.length ∧ INV i H', ⟨ds.length, by simp, Nat.zero_le _, ?_⟩, ?_⟩
  · have E2 := OwnE.mono (fun _ _ h => h) _ _ _ W1 (H' := upd H1 D (.lst [])) fun a ha => stD a (by rw [fs]; omega)
    refine ⟨_, Fw, G1, [], [], fun _ => 0, ys, upd_same, ?_, E2, okD.congr fun a => ?_, frD.congr (fun _ => rfl) fun a => ?_, fun a ha => stD a (by rw [fs]; omega), e2, rfl, Nat.le_refl _⟩
    · simp only [OwnAll]; exact ⟨trivial, fun _ => trivial⟩
    · show one D a + 0 + Fs a + Fw a = one D a + F1 a; rw [fs]; omega
    · show one D a + 0 + Fs a + Fw a = one D a + F1 a; rw [fs]; omega
  · rintro i m H' ⟨rfl, hi', ρi, Fi, Gi, acc, ws, Fa, rest, hDw, hacc, Ei, oki, fri, sti, ei, rfl, hai⟩
    have gle : Le G1 Gi := fri.g
    by_cases hlt : i < ds.length
    · rw [List.drop_eq_getElem_cons hlt] at ei
      simp only [lcLG] at ei
      split at ei
      case isFalse => cases ei
      rename_i hg
      have hC := sup Gi H' ρi (wipe σ own) Fi Ei hg
      refine .inr ⟨w.go i Gi H' hlt hC, INV (i + 1), fun H2 p => ⟨ds.length - (i + 1), by omega, rfl, hlt, p⟩, fun x H2 yl => ?_⟩
      have ed : ds[i]? = some ds[i] := List.getElem?_eq_getElem hlt
      obtain ⟨G3h, s3, hx⟩ := w.yld i Gi H' x H2 ds[i] ed hC oki.le yl
      let G3 : Hp := G3h
      obtain ⟨ok3, fr3, st3⟩ := s3.ok oki
      obtain ⟨ρa, ea, ei⟩ := bind_some ei
      obtain ⟨⟨b, ρb⟩, eb, ei⟩ := bind_some ei
      have E3 := OwnE.mono s3.g _ _ _ Ei fun a ha => st3 a (by omega)
      have hacc3 := OwnAll.mono s3.g _ _ _ hacc fun a ha => st3 a (by omega)
      refine sg tg ds[i] x (wipe σ own) ρi ρa Fi G3 H2 E3 (ok3.sub fun a => by omega) hx ea _ fun σ4 F4 E4 l4 c4 => ?_
      have cw : Chg own (wipe σ own) σ4 := ⟨c4.len, fun j hj => c4.at_ j fun z => hj (hs j z)⟩
      have ew : wipe σ4 own = wipe σ own := by rw [wipe_chg cw, wipe_wipe]
      refine ⟨ew, ?_⟩
      have ok4 : Ok G3 H2 (fun a => (one D a + Fa a + Fs a) + F4 a) := ok3.sub fun a => by have := l4 a; omega
      have fr4 : Fr G1 H1 F1 G3 H2 (fun a => (one D a + Fa a + Fs a) + F4 a) := (fri.trans fr3).sub fun a => by have := l4 a; omega
      have hD3 : H2 D = some (.lst ws) := by rw [st3 D (by rw [one_self]; omega)]; exact hDw
      refine ht σ4 ρa F4 G3 H2 E4 (ok4.sub fun a => by omega) b ρb eb _ fun F5 G5 H5 E5 ok5 fr5 => ?_
      obtain ⟨ok5', fr5', st5⟩ := fr5.side (F1 := fun a => one D a + Fa a + Fs a) ok4 ok5
      have hD5 : H5 D = some (.lst ws) := by rw [st5 D (by show one D D + _ + _ ≠ 0; rw [one_self]; omega)]; exact hD3
      have hacc5 := OwnAll.mono fr5.g _ _ _ hacc3 fun a ha => st5 a (show one D a + Fa a + Fs a ≠ 0 by omega)
      have sti5 : ∀ a, Fs a ≠ 0 → H5 a = H1 a := fun a ha => by rw [st5 a (show one D a + Fa a + Fs a ≠ 0 by omega), st3 a (by omega)]; exact sti a ha
      cases b with
      | false =>
        simp only [Bool.false_eq_true, if_false] at ei ⊢
        obtain ⟨F6, l6, E6⟩ := E5.dropAll own
        rw [ew] at E6
        exact ⟨_, F6, G5, acc, ws, Fa, rest, hD5, hacc5, E6, ok5'.sub fun a => by have := l6 a; omega, (fr4.trans fr5').sub fun a => by have := l6 a; omega, sti5, ei, rfl, by omega⟩
      | true =>
        simp only [if_true] at ei ⊢
        obtain ⟨⟨xe, ρe⟩, ex, ei⟩ := bind_some ei
        obtain ⟨y, ey, ei⟩ := bind_some ei
        obtain ⟨⟨rest', ρr⟩, er, ei⟩ := bind_some ei
        simp only [Option.some.injEq, Prod.mk.injEq] at ei
        obtain ⟨rfl, rfl⟩ := ei
        refine he σ4 ρb F5 G5 H5 E5 ok5 xe ρe ex _ fun v Fx F6 G6 H6 o6 E6 ok6 fr6 => ?_
        obtain ⟨ok6', fr6', st6⟩ := fr6.side (F1 := fun a => one D a + Fa a + Fs a) ok5' ok6
        have hD6 : H6 D = some (.lst ws) := by rw [st6 D (by show one D D + _ + _ ≠ 0; rw [one_self]; omega)]; exact hD5
        have hacc6 := OwnAll.mono fr6.g _ _ _ hacc5 fun a ha => st6 a (show one D a + Fa a + Fs a ≠ 0 by omega)
        have sti6 : ∀ a, Fs a ≠ 0 → H6 a = H1 a := fun a ha => by rw [st6 a (show one D a + Fa a + Fs a ≠ 0 by omega)]; exact sti5 a ha
        have ok6r : Ok G6 H6 (fun a => Fx a + ((one D a + Fa a + Fs a) + F6 a)) := ok6'.congr fun a => by omega
        obtain ⟨G7, Fy, o7, ok7, fr7⟩ := keep_ok o6 ok6r ey
        obtain ⟨F8, l8, E8⟩ := (OwnE.mono fr7.g _ _ _ E6 fun _ _ => rfl).dropAll own
        rw [ew] at E8
        have hacc7 := OwnAll.mono fr7.g _ _ _ hacc6 fun _ _ => rfl
        -- the list grows
        have hDn : ∀ a, a ≠ D → upd H6 D (.lst (ws ++ [v])) a = H6 a := fun a ha => upd_ne ha
        have key : ∀ a, one D a + (Fy a + Fa a + Fs a + F6 a) ≤ 1 := fun a => by have := ok7.nd a; omega
        have hno : Fy D = 0 ∧ Fa D = 0 ∧ Fs D = 0 ∧ F6 D = 0 := by have := key D; rw [one_self] at this; omega
        have ne : ∀ (P : FP), P D = 0 → ∀ a, P a ≠ 0 → a ≠ D := fun P h a ha z => by subst z; exact ha h
        refine ⟨ws, hD6, ?_, ?_⟩
        · have h1 := hacc6.len
          rw [← h1, sizeLine_eq]
          omega
        · have okN : Ok G7 (upd H6 D (.lst (ws ++ [v]))) (fun a => (one D a + (Fa a + Fy a) + Fs a) + F8 a) := by
            have okb : Ok G7 H6 (fun a => (one D a + (Fa a + Fy a) + Fs a) + F8 a) := ok7.sub fun a => by have := l8 a; omega
            have gD : G7 D = none := okb.dj D (by rw [one_self]; omega)
            refine ⟨fun a o z => ?_, okb.nd, okb.dj, fun a ha => upd_al _ _ _ a (okb.kn a ha), fun a xs z => by
              by_cases q : a = D
              · subst q; rw [upd_same] at z; cases z
              · rw [upd_ne q] at z; exact okb.tu a xs z, fun a ps z => by
              by_cases q : a = D
              · subst q; rw [upd_same] at z; cases z
              · rw [upd_ne q] at z; exact okb.nt a ps z, tb_upd okb (fun ps e => by rw [hD6] at e; cases e) fun _ _ h => h, fun a f z => by
              by_cases q : a = D
              · subst q; rw [upd_same] at z; cases z
              · rw [upd_ne q] at z; exact okb.cd a f z⟩
            rw [hDn a (fun q => by subst q; rw [gD] at z; cases z)]
            exact okb.le a o z
          have frN : Fr G1 H1 F1 G7 (upd H6 D (.lst (ws ++ [v]))) (fun a => (one D a + (Fa a + Fy a) + Fs a) + F8 a) := by
            have frb : Fr G1 H1 F1 G7 H6 (fun a => (one D a + (Fa a + Fy a) + Fs a) + F8 a) :=
              ((fr4.trans fr5').trans (fr6'.trans (fr7.congr (fun a => by show _ = Fx a + ((one D a + Fa a + Fs a) + F6 a); omega) fun _ => rfl))).sub fun a => by have := l8 a; omega
            refine ⟨frb.g, fun a o z f0 nb => ?_, frb.f, frb.gf, fun a z => vac_upd (by intro ps h; cases h) a (frb.al a z)⟩
            rw [hDn a (fun q => by subst q; rw [hD] at z; cases z)]
            exact frb.h a o z f0 nb
          have hacc8 := OwnAll.mono (fun _ _ h => h) _ _ _ hacc7 (H' := upd H6 D (.lst (ws ++ [v]))) fun a ha => hDn a (ne Fa hno.2.1 a ha)
          have o8 := Own.mono (fun _ _ h => h) y v Fy o7 (H' := upd H6 D (.lst (ws ++ [v]))) fun a ha => hDn a (ne Fy hno.1 a ha)
          have E9 := OwnE.mono (fun _ _ h => h) _ _ _ E8 (H' := upd H6 D (.lst (ws ++ [v]))) fun a ha => hDn a (ne F6 hno.2.2.2 a (by have := l8 a; omega))
          exact ⟨_, F8, G7, acc ++ [y], ws ++ [v], fun a => Fa a + Fy a, rest', upd_same, hacc8.snoc o8, E9, okN, frN,
            fun a ha => by rw [hDn a (ne Fs hno.2.2.1 a ha)]; exact sti6 a ha, er, by rw [List.append_assoc]; rfl, by rw [List.length_append, List.length_singleton]; omega⟩
    · have hin : i = ds.length := by omega
      subst hin
      rw [List.drop_length] at ei
      simp only [lcLG] at ei
      split at ei
      case isFalse => cases ei
      rename_i hg
      have hC := sup Gi H' ρi (wipe σ own) Fi Ei hg
      simp only [Option.some.injEq, Prod.mk.injEq] at ei
      obtain ⟨rfl, rfl⟩ := ei
      refine .inl ⟨w.stop Gi H' hC, ?_⟩
      have E9 := W2 Gi H' _ Fi gle sti hl Ei
      refine k (.ref D) (fun a => one D a + Fa a) _ Gi H' ?_ E9 (oki.congr fun a => ?_) ((fr1.trans fri).congr (fun _ => rfl) fun a => ?_)
      · rw [List.append_nil]
        simp only [Own]
        exact ⟨D, ws, Fa, rfl, hDw, hacc, fun _ => rfl⟩
      · show one D a + Fa a + (Fi a + Fs a) = _; omega
      · show one D a + Fa a + (Fi a + Fs a) = _; omega
def enumD (ds : List PyData) : List PyData := ds.zipIdx.map fun p => .tuple [.int p.2, p.1]
theorem enumD_len (ds : List PyData) : (enumD ds).length = ds.length := by simp [enumD]
theorem enumD_get {ds : List PyData} {i : Nat} {d : PyData} (h : (enumD ds)[i]? = some d) : ∃ e, ds[i]? = some e ∧ d = .tuple [.int i, e] := by
  simp only [enumD, List.getElem?_map, List.getElem?_zipIdx, Option.map_map, Option.map_eq_some_iff] at h
  obtain ⟨e, h1, rfl⟩ := h
  exact ⟨e, h1, by simp⟩
theorem walkc_enum {q : Addr} {ds : List PyData} : WalkC K (Ite K q) (enumD ds) (LC K (.ref q) ds) := by
  refine ⟨fun i G H hi c => ?_, fun G H c => ?_, fun i G H x H' d e c le y => ?_⟩
  · obtain ⟨q', vs, e1, e2, hd⟩ := c
    cases e1
    rw [enumD_len, hd.len] at hi
    exact ⟨vs, vs[i], SqL.of e2, by simp [hi]⟩
  · obtain ⟨q', vs, e1, e2, hd⟩ := c
    cases e1
    exact ⟨vs, SqL.of e2, by rw [enumD_len, hd.len]; exact Nat.le_refl _⟩
  · obtain ⟨q', vs, e1, e2, hd⟩ := c
    cases e1
    obtain ⟨T, w, rfl, hT, rfl, y1⟩ := y
    obtain ⟨e0, he0, rfl⟩ := enumD_get e
    obtain ⟨v', e3, hd3⟩ := hd.get he0
    have z1 := y1 vs (SqL.of e2)
    rw [e3] at z1
    cases z1
    exact pair_step le hT dtInt hd3
theorem walk_enumL {a : Addr} {xs : List V} {ds : List PyData} {G : Hp} (q : Rd G a (.lst xs)) (h : DtAll K G ds xs) : WalkD K (Ite K a) (enumD ds) G := by
  have l1 := h.len
  refine ⟨fun i H hi le => ?_, fun H le => ⟨xs, .inl (rd_mono le q), by rw [enumD_len, l1]; exact Nat.le_refl _⟩, fun i H x H' d G2 e g le y => ?_⟩
  · rw [enumD_len, l1] at hi
    exact ⟨xs, xs[i], .inl (rd_mono le q), by simp [hi]⟩
  · obtain ⟨T, w, rfl, hT, rfl, y1⟩ := y
    obtain ⟨e0, he0, rfl⟩ := enumD_get e
    obtain ⟨v', e3, hd3⟩ := h.get he0
    have l : Le G H := fun a o z => le a o (g a o z)
    have z1 := y1 xs (.inl (rd_mono l q))
    rw [e3] at z1
    cases z1
    exact pair_step le hT dtInt (Dt.mono g _ _ hd3)
theorem walkc_zip {a b : Addr} {ds es : List PyData} : WalkC K (Itz K a b) (zipD ds es) (fun G H => LC K (.ref a) ds G H ∧ LC K (.ref b) es G H) := by
  have ll : ∀ {G H : Hp} {xs ys : List V}, DtAll K G ds xs → DtAll K G es ys → (zipD ds es).length = min xs.length ys.length := fun h h2 => by unfold zipD; rw [List.length_zipWith, h.len, h2.len]
  refine ⟨fun i G H hi c => ?_, fun G H c => ?_, fun i G H x H' d e c le y => ?_⟩
  · obtain ⟨⟨q1, xs, e1, e2, h⟩, q2, ys, e3, e4, h2⟩ := c
    cases e1
    cases e3
    rw [ll (H := H) h h2] at hi
    exact ⟨xs, ys, xs[i]'(by omega), ys[i]'(by omega), SqL.of e2, SqL.of e4, by simp [show i < xs.length by omega], by simp [show i < ys.length by omega]⟩
  · obtain ⟨⟨q1, xs, e1, e2, h⟩, q2, ys, e3, e4, h2⟩ := c
    cases e1
    cases e3
    exact ⟨xs, ys, SqL.of e2, SqL.of e4, by rw [ll (H := H) h h2]; omega⟩
  · obtain ⟨⟨q1, xs, e1, e2, h⟩, q2, ys, e3, e4, h2⟩ := c
    cases e1
    cases e3
    obtain ⟨T, v, w, rfl, hT, rfl, y1, y2⟩ := y
    obtain ⟨c, d', e5, e6, rfl⟩ := zipD_get e
    obtain ⟨v', e7, hd3⟩ := h.get e5
    obtain ⟨w', e8, hd4⟩ := h2.get e6
    have z1 := y1 xs (SqL.of e2)
    have z2 := y2 ys (SqL.of e4)
    rw [e7] at z1
    rw [e8] at z2
    cases z1
    cases z2
    exact pair_step le hT hd3 hd4
@[simp] def mItG1 (h : List PyData → List PyData) (i c k : Nat) : MItG := fun ρ => match fldOf ρ i c k with
  | some (.lk v ys) => (fzL ys).bind fun ds => some (h ds, fun ρ' => fldOf ρ' i c k = some (.lk v ys))
  | _ => none
@[simp] def mItG2 (h : List PyData → List PyData → List PyData) (i c k j : Nat) : MItG := fun ρ => match fldOf ρ i c k, fldOf ρ i c j with
  | some (.lk v ys), some (.lk w zs) => (fzL ys).bind fun ds => (fzL zs).bind fun es => some (h ds es, fun ρ' => fldOf ρ' i c k = some (.lk v ys) ∧ fldOf ρ' i c j = some (.lk w zs))
  | _, _ => none
theorem LC.sq {v : V} {ds : List PyData} {G H : Hp} (h : LC K v ds G H) : ∃ q vs, v = .ref q ∧ SqL K H q vs := by
  obtain ⟨q, vs, e1, e2, _⟩ := h
  exact ⟨q, vs, e1, SqL.of e2⟩
theorem sig_seq {i c k : Nat} {f : Str} (hc : ClsOk K c) (hf : (clsFlds c)[k]? = some f) : SimItG K (tI (rSeq K) (tCons (tFld K (tVar i) f) tNil)) (mItG1 (fun ds => ds) i c k) := by
  intro σ ρ F G H hE ok ds gd e R kk
  unfold mItG1 at e
  split at e
  · rename_i v ys q
    obtain ⟨es, e1, e⟩ := bind_some e
    simp only [Option.some.injEq, Prod.mk.injEq] at e
    obtain ⟨rfl, rfl⟩ := e
    obtain ⟨p, dx, fs, w, F1, F2, a1, a2, a3, a4, a5, a6⟩ := hE.fld q
    have hl := lc_of hE q e1
    simp only [Own] at a4
    obtain ⟨rfl, a4⟩ := a4
    obtain ⟨q', vs, rfl, hs⟩ := hl.sq
    refine ⟨_, a1, p, _, dx, fs, _, rfl, a2, hc.cl, hc.na f (List.mem_of_getElem? hf), a3 f (flds_nodup c) hf, .inl ⟨q', rfl, ⟨vs, hs⟩, ?_⟩⟩
    exact kk _ _ walkc_list fun G2 H2 ρ2 σ2 F2 hE2 hg => lc_of hE2 hg e1
  · cases e
theorem sig_enum {i c k : Nat} {f : Str} (hc : ClsOk K c) (hf : (clsFlds c)[k]? = some f) : SimItG K (iEnum K (tCons (tFld K (tVar i) f) tNil)) (mItG1 enumD i c k) := by
  intro σ ρ F G H hE ok ds gd e R kk
  unfold mItG1 at e
  split at e
  · rename_i v ys q
    obtain ⟨es, e1, e⟩ := bind_some e
    simp only [Option.some.injEq, Prod.mk.injEq] at e
    obtain ⟨rfl, rfl⟩ := e
    obtain ⟨p, dx, fs, w, F1, F2, a1, a2, a3, a4, a5, a6⟩ := hE.fld q
    have hl := lc_of hE q e1
    simp only [Own] at a4
    obtain ⟨rfl, a4⟩ := a4
    obtain ⟨q', vs, rfl, hs⟩ := hl.sq
    refine ⟨_, a1, p, _, dx, fs, _, rfl, a2, hc.cl, hc.na f (List.mem_of_getElem? hf), a3 f (flds_nodup c) hf, q', vs, rfl, hs, ?_⟩
    exact kk _ _ walkc_enum fun G2 H2 ρ2 σ2 F2 hE2 hg => lc_of hE2 hg e1
  · cases e
theorem sig_zip {i c k j : Nat} {f g : Str} (hc : ClsOk K c) (hf : (clsFlds c)[k]? = some f) (hg : (clsFlds c)[j]? = some g) : SimItG K (tI (rZip K) (tCons (tFld K (tVar i) f) (tCons (tFld K (tVar i) g) tNil))) (mItG2 zipD i c k j) := by
  intro σ ρ F G H hE ok ds gd e R kk
  unfold mItG2 at e
  split at e
  · rename_i v ys v2 zs q q2
    obtain ⟨es, e1, e⟩ := bind_some e
    obtain ⟨es2, e2, e⟩ := bind_some e
    simp only [Option.some.injEq, Prod.mk.injEq] at e
    obtain ⟨rfl, rfl⟩ := e
    obtain ⟨p, dx, fs, w, F1, F2, a1, a2, a3, a4, a5, a6⟩ := hE.fld q
    obtain ⟨p2, dx2, fs2, w2, F12, F22, b1, b2, b3, b4, b5, b6⟩ := hE.fld q2
    have hl := lc_of hE q e1
    have hl2 := lc_of hE q2 e2
    simp only [Own] at a4 b4
    obtain ⟨rfl, a4⟩ := a4
    obtain ⟨rfl, b4⟩ := b4
    obtain ⟨q', vs, rfl, hs⟩ := hl.sq
    obtain ⟨q2', vs2, rfl, hs2⟩ := hl2.sq
    refine ⟨_, a1, p, _, dx, fs, _, rfl, a2, hc.cl, hc.na f (List.mem_of_getElem? hf), a3 f (flds_nodup c) hf, _, b1, p2, _, dx2, fs2, _, rfl, b2, hc.cl, hc.na g (List.mem_of_getElem? hg), b3 g (flds_nodup c) hg, q', q2', vs, vs2, rfl, .inl ⟨hs, hs2, ?_⟩⟩
    exact kk _ _ walkc_zip fun G2 H2 ρ2 σ2 F2 hE2 hg => ⟨lc_of hE2 hg.1 e1, lc_of hE2 hg.2 e2⟩
  · cases e
end
end MP
namespace MP
open PySem L2
variable [LamT]
section
variable {K : PySem.W.Frag} {np : Nat}
theorem zip_none : ∀ {ns : List Str} {vs : List V} {m : Str}, m ∉ ns → (ns.zip vs).lookup m = none
  | [], _, _, _ => rfl
  | n :: ns, [], _, _ => rfl
  | n :: ns, v :: vs, m, h => by
    have hb : (m == n) = false := by
      cases q : m == n with
      | false => rfl
      | true => exact absurd (List.mem_cons.mpr (.inl (eq_of_beq q))) h
    simp only [List.zip_cons_cons, List.lookup, hb]
    exact zip_none fun z => h (List.mem_cons_of_mem _ z)
theorem op_tail {r : RN} {φ : Φ} (ho : OpSem K r φ) {σ : St} {ρ1 ρ' : Sl} {us : List Ag} {vs : List V} {Fa F1 F : FP} {G G1 : Hp} {H H1 : Hp} {x : Vl} (o1 : AgOk K G1 H1 σ us vs Fa) (E1 : OwnE K G1 H1 ρ1 σ F1) (ok1 : Ok G1 H1 (fun a => Fa a + F1 a)) (fr1 : Fr G H F G1 H1 (fun a => Fa a + F1 a))
    (e : ((takeA us ρ1).bind fun q => (φ q.1).bind fun z => (putA us z.2 q.2).bind fun ρ' => some (z.1, ρ')) = some (x, ρ')) (Q : VK)
    (k : ∀ v Fx F' (G' : Hp) H', Own K G' H' x v Fx → OwnE K G' H' ρ' σ F' → Ok G' H' (fun a => Fx a + F' a) → Fr G H F G' H' (fun a => Fx a + F' a) → Q v H') : r vs H1 Q := by
  obtain ⟨⟨xs, ρ2⟩, e2, e⟩ := bind_some e
  obtain ⟨⟨x', ys⟩, e3, e⟩ := bind_some e
  obtain ⟨ρ3, e4, e⟩ := bind_some e
  simp only [Option.some.injEq, Prod.mk.injEq] at e
  obtain ⟨rfl, rfl⟩ := e
  obtain ⟨Fx, F2, a1, a2, a3, a4⟩ := take_ok o1 E1 e2
  have ok2 : Ok G1 H1 (fun a => F2 a + Fx a) := ok1.congr fun a => by have := a3 a; show F2 a + Fx a = Fa a + F1 a; omega
  refine ho vs xs Fx G1 H1 a1 (ok2.sub fun a => by omega) x' ys e3 _ fun v Fv F3 G3 H3 b1 b2 b3 b4 => ?_
  obtain ⟨ok4, fr4, st⟩ := b4.side (F1 := F2) ok2 b3
  obtain ⟨F5, c1, c2⟩ := put_ok b2 (OwnE.mono b4.g ρ2 σ F2 a2 st) e4 a4
  have l : ∀ a, Fv a + F5 a ≤ F2 a + (Fv a + F3 a) := fun a => by have := c2 a; omega
  refine k v Fv F5 G3 H3 b1 c1 (ok4.sub l) ((fr1.trans (fr4.congr (fun a => ?_) fun _ => rfl)).sub l)
  have := a3 a; show Fa a + F1 a = F2 a + Fx a; omega
theorem app_nil_fun {α : Type} (p : List α → Hp → Prop) : (fun (vs : List α) (H : Hp) => p (vs ++ []) H) = p := by
  funext vs H
  rw [List.append_nil]
@[simp] noncomputable def mMth (φ : Φ) (i c : Nat) (as : MA) : M := fun ρ => match ρ[i]? with
  | some (some (.ob c' _)) => if c' = c then mOp φ (aNm i as) ρ else none
  | _ => none
theorem sim_mth {φ : Φ} {i c : Nat} {m : Str} {ta : TA} {as : MA} {E : XK} (hm : m ∉ clsFlds c) (ha : SimA K ta as) : Sim K (tMeth (He.ga K (clsName c)) m (spOf K φ) [] E (tVar i) ta) (mMth φ i c as) := by
  intro σ ρ F G H hE ok x ρ' e Q kk
  unfold mMth at e
  split at e
  · rename_i c' xs q
    split at e
    · rename_i hc
      subst hc
      obtain ⟨v, A, B, h1, h2, h3, f⟩ := hE.take q
      simp only [Own] at h2
      obtain ⟨p, dx, vs, F', rfl, hp, hl, hx, fA⟩ := h2
      have key := sim_op (os_sp (φ := φ) (E := E)) (sa_nm (i := i) ha) σ ρ F G H hE ok x ρ' e Q kk
      obtain ⟨v', e', key⟩ := key
      rw [h1] at e'
      simp only [Option.some.injEq] at e'
      subst e'
      refine ⟨_, h1, p, dx, _, rfl, hp, zip_none hm, ?_⟩
      have e0 := app_nil_fun (α := V) fun vs H2 => spOf K φ (.ref p :: vs) H2 Q E
      show ta σ H fun vs H2 => spOf K φ (.ref p :: (vs ++ [])) H2 Q E
      rw [show (fun (vs : List V) (H2 : Hp) => spOf K φ (.ref p :: (vs ++ [])) H2 Q E) = fun vs H2 => spOf K φ (.ref p :: vs) H2 Q E from e0]
      exact key
    · cases e
  · cases e
@[simp] noncomputable def mMthE (φ : Φ) (c : Nat) (f : M) (as : MA) : M := fun ρ => match f ρ with
  | some (.ob c' _, _) => if c' = c then mOp φ (aEx f as) ρ else none
  | _ => none
theorem sim_mthE {φ : Φ} {c : Nat} {m : Str} {te : TE} {ta : TA} {f : M} {as : MA} {E : XK} (hm : m ∉ clsFlds c) (hf : Sim K te f) (ha : SimA K ta as) : Sim K (tMeth (He.ga K (clsName c)) m (spOf K φ) [] E te ta) (mMthE φ c f as) := by
  intro σ ρ F G H hE ok x ρ' e Q kk
  unfold mMthE at e
  split at e
  · rename_i c' xs ρ1 q
    split at e
    · rename_i hc
      subst hc
      obtain ⟨⟨us, ρ2⟩, e1, e⟩ := bind_some e
      obtain ⟨⟨x0, ρ0⟩, e0, e1⟩ := bind_some e1
      rw [q] at e0
      simp only [Option.some.injEq, Prod.mk.injEq] at e0
      obtain ⟨rfl, rfl⟩ := e0
      obtain ⟨⟨us1, ρ3⟩, e2, e1⟩ := bind_some e1
      simp only [Option.some.injEq, Prod.mk.injEq] at e1
      obtain ⟨rfl, rfl⟩ := e1
      refine hf σ ρ F G H hE ok _ ρ1 q _ fun v Fx F1 G1 H1 o1 E1 ok1 fr1 => ?_
      have o1' := o1
      simp only [Own] at o1'
      obtain ⟨p, dx, vs, F', rfl, hp, hl, hx, fA⟩ := o1'
      refine ⟨p, dx, _, rfl, hp, zip_none hm, ?_⟩
      show ta σ H1 fun vs H2 => spOf K φ (.ref p :: (vs ++ [])) H2 Q E
      rw [show (fun (vs : List V) (H2 : Hp) => spOf K φ (.ref p :: (vs ++ [])) H2 Q E) = fun vs H2 => spOf K φ (.ref p :: vs) H2 Q E from app_nil_fun (α := V) fun vs H2 => spOf K φ (.ref p :: vs) H2 Q E]
      refine ha σ ρ1 F1 G1 H1 E1 (ok1.sub fun a => by omega) us1 _ e2 _ fun vs' Fa F2 G2 H2 o2 E2 ok2 fr2 => ?_
      obtain ⟨ok3, fr3, st⟩ := fr2.side (F1 := Fx) ok1 ok2
      have ag : AgOk K G2 H2 σ (.tm (.ob c' xs) :: us1) (.ref p :: vs') (fun a => Fx a + Fa a) := ⟨_, vs', Fx, Fa, rfl, Own.mono fr2.g _ _ Fx o1 st, o2, fun _ => rfl⟩
      exact op_tail (os_sp (φ := φ) (E := E)) ag E2 (ok3.congr fun a => by omega) ((fr1.trans fr3).congr (fun _ => rfl) fun a => by omega) e Q kk
    · cases e
  · cases e
@[simp] noncomputable def mLmF (i c k : Nat) (φ : Φ) (as : MA) : M := fun ρ => match fldOf ρ i c k with
  | some (.lk _ _) => mOp φ (aFl i c k as) ρ
  | _ => none
theorem sim_lmF {i c k : Nat} {f : Str} {r : V → List V → Hp → VK → Prop} {φ : Φ} {ta : TA} {as : MA} (hc : ClsOk K c) (hf : (clsFlds c)[k]? = some f) (ho : OpSem K (rMt r) φ) (ha : SimA K ta as) : Sim K (tBM K "list" r (tFld K (tVar i) f) ta) (mLmF i c k φ as) := by
  intro σ ρ F G H hE ok x ρ' e Q kk
  unfold mLmF at e
  split at e
  · rename_i v0 ys q
    have h0 := sim_op ho (sa_fl hc hf ha) σ ρ F G H hE ok x ρ' e Q kk
    obtain ⟨v, hv, p, C, dx, fs, w, e1, e2, e3, e4, e5, h0⟩ := h0
    obtain ⟨p', dx', fs', w', F1, F2, a1, a2, a3, a4, a5, a6⟩ := hE.fld q
    have h5 := a3 f (flds_nodup c) hf
    rw [hv] at a1
    have : v = .ref p' := by simpa using a1
    subst this
    cases e1
    rw [e2] at a2
    simp only [Option.some.injEq, HO.ins.injEq] at a2
    obtain ⟨rfl, rfl, rfl⟩ := a2
    rw [e5] at h5
    cases h5
    simp only [Own] at a4
    obtain ⟨_, q', vs, F', e6, e7, _⟩ := a4
    subst e6
    exact ⟨_, hv, p, _, dx, fs, _, rfl, e2, e3, e4, e5, .inl ⟨rfl, _, .inl (.inl e7)⟩, h0⟩
  · cases e
@[simp] noncomputable def sSetIxF (i c k : Nat) (x f : M) : MS := fun ρ => (mOp φSet (aEx f (aFl i c k (aEx x aNil))) ρ).bind fun p => some (.nx, p.2)
theorem ss_setIxF {i c k : Nat} {f : Str} {te tk : TE} {m x : M} (hc : ClsOk K c) (hf : (clsFlds c)[k]? = some f) (h : Sim K te m) (hk : Sim K tk x) : SimS K np (tAsg te (gSub (tFld K (tVar i) f) tk rSetL)) (sSetIxF i c k x m) := by
  intro σ ρ F G H hE ok o ρ' e D p
  obtain ⟨⟨y, ρ1⟩, e1, e⟩ := bind_some e
  simp only [Option.some.injEq, Prod.mk.injEq] at e
  obtain ⟨rfl, rfl⟩ := e
  have h0 := sim_op os_set (sa_ex h (sa_fl (i := i) hc hf (sa_ex hk sa_nil))) σ ρ F G H hE ok y ρ1 e1 (fun _ H' => D.nx σ H') fun v Fx F1 G1 H1 o1 E1 ok1 fr1 => p σ F1 G1 H1 .refl E1 (ok1.sub fun a => by omega) (fr1.sub fun a => by omega)
  exact h0
@[simp] def hEnum : List PyData → Option (List PyData)
  | [.list xs] => some (enumD xs)
  | _ => none
@[simp] noncomputable def mMk (φ : Φ) (c : Nat) (as : MA) : M := fun ρ => (as ρ).bind fun p => (takeA p.1 p.2).bind fun q => (φ (.ob c [] :: q.1)).bind fun z => match z.1, z.2 with
  | .fz .none, o :: zs => (putA p.1 zs q.2).bind fun ρ' => some (o, ρ')
  | _, _ => none
theorem sim_mk {φ : Φ} {c : Nat} {ta : TA} {as : MA} {E : XK} (ha : SimA K ta as) : Sim K (tMake (He.ga K (clsName c)) (spOf K φ) [] E ta) (mMk φ c as) := by
  intro σ ρ F G H hE ok x ρ' e Q kk
  obtain ⟨⟨us, ρ1⟩, e1, e⟩ := bind_some e
  obtain ⟨⟨xs, ρ2⟩, e2, e⟩ := bind_some e
  obtain ⟨⟨x', ys⟩, e3, e⟩ := bind_some e
  simp only at e e3
  split at e
  · rename_i o zs
    obtain ⟨ρ3, e4, e⟩ := bind_some e
    simp only [Option.some.injEq, Prod.mk.injEq] at e
    obtain ⟨rfl, rfl⟩ := e
    refine ha σ ρ F G H hE ok us ρ1 e1 _ fun vs Fa F1 G1 H1 o1 E1 ok1 fr1 => ?_
    intro x dx hx hdx hne
    obtain ⟨Fx, F2, a1, a2, a3, a4⟩ := take_ok o1 E1 e2
    have ok2 : Ok G1 H1 (fun a => F2 a + Fx a) := ok1.congr fun a => by have := a3 a; show F2 a + Fx a = Fa a + F1 a; omega
    -- the new dict, the new object
    obtain ⟨ok3, fr3, st3⟩ := ok_own (o := .own x) ok2 hdx
    have ok3' : Ok G1 (upd H1 dx (.own x)) (fun a => F2 a + Fx a) := ok3.sub fun a => by omega
    have fr3' := fr3.sub (F2 := fun a => F2 a + Fx a) fun a => by omega
    have hx' : upd H1 dx (.own x) x = none := by rw [upd_ne (fun z => hne z.symm)]; exact hx
    obtain ⟨ok4, fr4, st4⟩ := ok_own (o := .ins (He.ga K (clsName c)) dx []) ok3' hx'
    have st : ∀ a, F2 a + Fx a ≠ 0 → upd (upd H1 dx (.own x)) x (.ins (He.ga K (clsName c)) dx []) a = H1 a := fun a ha => by rw [st4 a ha, st3 a ha]
    have own0 : Own K G1 (upd (upd H1 dx (.own x)) x (.ins (He.ga K (clsName c)) dx [])) (.ob c []) (.ref x) (fun a => one x a) := by
      simp only [Own]
      refine ⟨x, dx, [], fun _ => 0, rfl, ?_, Nat.zero_le _, ?_, fun a => by simp⟩
      · rw [upd_same, List.zip_nil_right]
      · simp only [OwnAll]
        exact ⟨trivial, fun _ => trivial⟩
    refine ⟨.ob c [] :: xs, fun a => one x a + Fx a, G1, .fz .none, o :: zs, ?_, ok4.sub fun a => by omega, e3, fun v Fv F3 G3 H3 b1 b2 b3 b4 => ?_⟩
    · simp only [OwnAll, List.append_nil]
      exact ⟨.ref x, vs, _, Fx, rfl, own0, OwnAll.mono (fun _ _ z => z) _ _ _ a1 fun a ha => st a (by omega), fun _ => rfl⟩
    · have hv := b1.fzF
      simp only [Dt] at hv
      refine ⟨hv, ?_⟩
      simp only [OwnAll, List.append_nil] at b2
      obtain ⟨w, r, Fo, Fz, er, c1, c2, c3⟩ := b2
      simp only [List.cons.injEq] at er
      obtain ⟨rfl, rfl⟩ := er
      have ok5 : Ok G1 (upd (upd H1 dx (.own x)) x (.ins (He.ga K (clsName c)) dx [])) (fun a => F2 a + (one x a + Fx a)) := ok4.congr fun a => by show F2 a + (one x a + Fx a) = one x a + (F2 a + Fx a); omega
      obtain ⟨ok6, fr6, st6⟩ := b4.side (F1 := F2) ok5 b3
      have E6 := OwnE.mono b4.g ρ2 σ F2 (OwnE.mono (fun _ _ z => z) ρ2 σ F2 a2 fun a ha => st a (by omega)) st6
      obtain ⟨F7, d1, d2⟩ := put_ok c2 E6 e4 a4
      have l : ∀ a, Fo a + F7 a ≤ F2 a + (Fv a + F3 a) := fun a => by have := d2 a; have := c3 a; omega
      refine kk (.ref x) Fo F7 G3 H3 c1 d1 (ok6.sub l) (((fr1.trans ((fr3'.congr (fun a => ?_) fun _ => rfl).trans (fr4.congr (fun _ => rfl) fun a => ?_))).trans fr6).sub l)
      · have := a3 a; show Fa a + F1 a = F2 a + Fx a; omega
      · show F2 a + (one x a + Fx a) = one x a + (F2 a + Fx a); omega
  · cases e
end
end MP
namespace MP
open PySem L2 PyProof.Rows
variable [LamT]
theorem vals_get {ns : List Int} : ∀ {us : List Value} {i : Nat} {v : Value}, Vals (ns.map V.int) us → us[i]? = some v → ∃ n t, ns[i]? = some n ∧ v = .int n t := by
  induction ns with
  | nil => intro us i v h e; cases h; simp at e
  | cons n ns ih =>
    intro us i v h e
    rw [List.map_cons] at h
    cases h with
    | cons r rs =>
      cases i with
      | zero =>
        simp only [List.getElem?_cons_zero, Option.some.injEq] at e
        subst e
        obtain ⟨t, rfl⟩ := r
        exact ⟨n, t, rfl, rfl⟩
      | succ i => exact ih rs (by simpa using e)
theorem truth_ints {prog : Program} {w : World} {A : Around} {ns : List Int} {its : List Value} (h : Vals (ns.map V.int) its) :
    TruthOf prog w A (fun i v => its.toArray[i]? = some v) (fun i => ns.getD i 0 != 0) := fun i v s Q E hv hq => by
  have hv' : its[i]? = some v := by simpa using hv
  obtain ⟨n, t, hn, rfl⟩ := vals_get h hv'
  have hg : ns.getD i 0 = n := by rw [List.getD_eq_getElem?_getD, hn]; rfl
  have hq' : Q (ns.getD i 0 != 0) s := hq
  rw [hg] at hq'
  exact truthy_int hq'
theorem anyI_range : ∀ ns : List Int, (List.range ns.length).any (fun i => ns.getD i 0 != 0) = ns.any (· != 0)
  | [] => rfl
  | b :: bs => by
    rw [List.length_cons, List.range_succ_eq_map, List.any_cons, List.any_map, List.any_cons, ← anyI_range bs]
    all_goals rfl
section
variable {X : Cx}
def rAnyI (K : PySem.W.Frag) : RN := fun vs H Q => ∃ (a : Addr) (ns : List Int), vs = [V.ref a] ∧ SqL K H a (ns.map V.int) ∧ Q (.bl (ns.any (· != 0))) H
def rAnyT (K : PySem.W.Frag) : RN := fun vs H Q => ∃ (a : Addr) (ns : List Int), vs = [V.ref a] ∧ SqT K H a (ns.map V.int) ∧ Q (.bl (ns.any (· != 0))) H
theorem cr_anyI (hc : X.calm = true) : CallR X (.builtin "any") (rAnyI X.K) := by
  intro pins s σ H vs us Q I r h
  obtain ⟨a, ns, rfl, hs, q⟩ := h
  obtain ⟨its, rv, hl, _⟩ := I.list hs
  rw [Vals.ref1 r]
  have hlen : its.length = ns.length := by have := rv.length; rw [List.length_map] at this; omega
  refine call_any_walk (iter_any hl.isList fun s₂ e2 st hne => ?_)
  subst e2
  refine ⟨_, _, _, _, _, _, _, rfl, Walks.list (A := X.A.in1) (I.ok.hd hc) _ a hne its.toArray, st, truth_ints rv, fun h' tk hk => ?_⟩
  refine ⟨.bl _, H, I.kept fun b o eo => hk b o (fun hmem => ?_) (Heap.get?_push_of_some _ eo), ?_, q⟩
  · rcases List.mem_cons.mp hmem with e1 | hmem
    · exact absurd (e1 ▸ Heap.lt_size eo) (Nat.lt_irrefl _)
    · cases hmem
  · show Value.bool _ = Value.bool _
    rw [← anyI_range, List.size_toArray, hlen]
theorem iter_anyT {prog : Program} {w : World} {A : Around} {E : Value → Shared → Prop} {s : Shared} {l : Addr} {items : Array Value} {Q : Value → Shared → Prop} (hl : s.heap.IsTuple l items)
    (h : ∀ s₂ : Shared, s₂ = { s with heap := s.heap.push { cls := .type "tuple_iterator", data := .fields #[.ref l, .int 0 0] } } →
      (s₂.heap.IsTupleIter s.heap.objs.size l 0 ∧ s₂.heap.IsTuple l items) → l ≠ s.heap.objs.size → Q (.ref s.heap.objs.size) s₂) : wpAny (model prog w) A (pyIter (.ref l)) Q E s := by
  have hlt : l < s.heap.objs.size := by obtain ⟨_, e, _⟩ := hl; exact Heap.lt_size e
  exact wpAny_pyIter_tuple hl (h _ rfl ⟨⟨_, Heap.get?_push_size _ rfl, rfl, rfl⟩, hl.push _⟩ (Nat.ne_of_lt hlt))
theorem cr_anyT (hc : X.calm = true) : CallR X (.builtin "any") (rAnyT X.K) := by
  intro pins s σ H vs us Q I r h
  obtain ⟨a, ns, rfl, hs, q⟩ := h
  obtain ⟨its, rv, hl, _⟩ := I.tuple hs
  rw [Vals.ref1 r]
  have hlen : its.length = ns.length := by have := rv.length; rw [List.length_map] at this; omega
  refine call_any_walk (iter_anyT (show s.heap.IsTuple a its.toArray from hl) fun s₂ e2 st hne => ?_)
  subst e2
  refine ⟨_, _, _, _, _, _, _, rfl, Walks.tuple (A := X.A.in1) (I.ok.hd hc) _ a hne its.toArray, st, truth_ints rv, fun h' tk hk => ?_⟩
  refine ⟨.bl _, H, I.kept fun b o eo => hk b o (fun hmem => ?_) (Heap.get?_push_of_some _ eo), ?_, q⟩
  · rcases List.mem_cons.mp hmem with e1 | hmem
    · exact absurd (e1 ▸ Heap.lt_size eo) (Nat.lt_irrefl _)
    · cases hmem
  · show Value.bool _ = Value.bool _
    rw [← anyI_range, List.size_toArray, hlen]
def rAnyA (K : PySem.W.Frag) : RN := fun vs H Q => rAny K vs H Q ∨ rAnyI K vs H Q ∨ rAnyT K vs H Q
theorem cr_anyA (hc : X.calm = true) : CallR X (.builtin "any") (rAnyA X.K) := by
  intro pins s σ H vs us Q I r h
  rcases h with h | h | h
  · exact cr_any hc pins s σ H vs us Q I r h
  · exact cr_anyI hc pins s σ H vs us Q I r h
  · exact cr_anyT hc pins s σ H vs us Q I r h
end
section
variable {K : PySem.W.Frag}
@[simp] def hAnyA : HD
  | [.list ds] => match hAny false [.list ds] with
    | some r => some r
    | none => (intsOf ds).map fun ns => .dat (.bool (ns.any (· != 0)))
  | [.tuple ds] => (intsOf ds).map fun ns => .dat (.bool (ns.any (· != 0)))
  | _ => none
theorem od_anyA : OpD K (rAnyA K) hAnyA := by
  intro ds vs G H le hs res e Q k
  unfold hAnyA at e
  split at e
  · split at e
    · rename_i r q
      cases e
      exact .inl (od_any _ _ G H le hs _ q Q k)
    · obtain ⟨v, rfl, h1⟩ := sh1 hs
      obtain ⟨p, ws, rfl, q1, d1⟩ := shList h1
      rw [Option.map_eq_some_iff] at e
      obtain ⟨ns, e, rfl⟩ := e
      rw [d1.ints e] at q1
      exact .inr (.inl ⟨p, ns, rfl, .inl q1, k _ dtBool⟩)
  · obtain ⟨v, rfl, h1⟩ := sh1 hs
    obtain ⟨p, ws, rfl, q1, d1⟩ := shTup le h1
    rw [Option.map_eq_some_iff] at e
    obtain ⟨ns, e, rfl⟩ := e
    rw [d1.ints e] at q1
    exact .inr (.inr ⟨p, ns, rfl, q1, k _ dtBool⟩)
  · cases e
end
end MP
namespace MP
open PySem L2
variable [LamT]
section
variable {K : PySem.W.Frag} {np : Nat}
@[simp] def mMov (i : Nat) : M := fun ρ => match ρ[i]? with
  | some (some x) => some (x, ρ.set i none)
  | _ => none
theorem sim_mov {i : Nat} : Sim K (tVar i) (mMov i) := by
  intro σ ρ F G H hE ok x ρ' e Q k
  unfold mMov at e
  split at e
  · rename_i y q
    simp only [Option.some.injEq, Prod.mk.injEq] at e
    obtain ⟨rfl, rfl⟩ := e
    obtain ⟨v, F1, F2, h1, h2, h3, f⟩ := hE.take q
    exact ⟨v, h1, k v F1 F2 G H h2 h3 (ok.congr fun a => (f a).symm) ((Fr.refl ok).congr (fun _ => rfl) fun a => (f a).symm)⟩
  · cases e
theorem OwnAll.at_ {G H : Hp} : ∀ {xs : List Vl} {ws : List V} {F : FP} {j : Nat} {x : Vl}, OwnAll K G H xs ws F → xs[j]? = some x →
    ∃ (v : V) (F1 F2 : FP), ws[j]? = some v ∧ Own K G H x v F1 ∧ (∀ a, F a = F1 a + F2 a) ∧ ∀ (G' H' : Hp) (x' : Vl) (F1' : FP), (∀ a o, G a = some o → G' a = some o) → (∀ a, F2 a ≠ 0 → H' a = H a) → Own K G' H' x' v F1' → OwnAll K G' H' (xs.set j x') ws (fun a => F1' a + F2 a)
  | [], ws, F, j, x, h, e => by simp at e
  | y :: xs, ws, F, 0, x, h, e => by
    simp only [List.getElem?_cons_zero, Option.some.injEq] at e
    subst e
    simp only [OwnAll] at h
    obtain ⟨v, r, A, B, rfl, h1, h2, f⟩ := h
    refine ⟨v, A, B, rfl, h1, f, fun G' H' x' F1' g l o => ?_⟩
    simp only [List.set_cons_zero, OwnAll]
    exact ⟨v, r, F1', B, rfl, o, OwnAll.mono g _ _ _ h2 l, fun _ => rfl⟩
  | y :: xs, ws, F, j + 1, x, h, e => by
    simp only [List.getElem?_cons_succ] at e
    simp only [OwnAll] at h
    obtain ⟨v0, r, A, B, rfl, h1, h2, f⟩ := h
    obtain ⟨v, F1, F2, e1, o1, f1, put⟩ := h2.at_ e
    refine ⟨v, F1, fun a => A a + F2 a, by simpa using e1, o1, fun a => by rw [f, f1]; show A a + (F1 a + F2 a) = F1 a + (A a + F2 a); omega, fun G' H' x' F1' g l o => ?_⟩
    simp only [List.set_cons_succ, OwnAll]
    refine ⟨v0, r, A, fun a => F1' a + F2 a, rfl, Own.mono g _ _ _ h1 fun a ha => l a (by show A a + F2 a ≠ 0; omega), put G' H' x' F1' g (fun a ha => l a (by show A a + F2 a ≠ 0; omega)) o, fun a => by show F1' a + (A a + F2 a) = A a + (F1' a + F2 a); omega⟩
@[simp] def φSet2 : Φ
  | [y, .ls xs, .fz (.int k), .fz (.int l)] => (erase y).bind fun d => (ixN xs.length k).bind fun j => match xs[j]? with
    | some (.ls ys) => (ixN ys.length l).bind fun m => some (.fz .none, [.fz d, .ls (xs.set j (.ls (ys.set m (.fz d)))), .fz (.int k), .fz (.int l)])
    | _ => none
  | _ => none
def rSet4 (K : PySem.W.Frag) : RN := fun vs H Q => match vs with
  | [y, o, i, j] => rIx K o i H fun w H' => rSetL w j y H' (fun H'' => Q .non H'')
  | _ => False
theorem own4 {G H : Hp} {x y z t : Vl} {vs : List V} {F : FP} (h : OwnAll K G H [x, y, z, t] vs F) : ∃ v w u s A B C D, vs = [v, w, u, s] ∧ Own K G H x v A ∧ Own K G H y w B ∧ Own K G H z u C ∧ Own K G H t s D ∧ ∀ a, F a = A a + B a + C a + D a := by
  simp only [OwnAll] at h
  obtain ⟨v, _, A, F1, rfl, h1, ⟨w, _, B, F2, rfl, h2, ⟨u, _, C, F3, rfl, h3, ⟨s, _, D, F4, rfl, h4, ⟨rfl, f5⟩, f4⟩, f3⟩, f2⟩, f1⟩ := h
  exact ⟨v, w, u, s, A, B, C, D, rfl, h1, h2, h3, h4, fun a => by rw [f1, f2, f3, f4, f5]; omega⟩
theorem mk4 {G H : Hp} {x y z t : Vl} {v w u s : V} {A B C D F : FP} (h1 : Own K G H x v A) (h2 : Own K G H y w B) (h3 : Own K G H z u C) (h4 : Own K G H t s D) (f : ∀ a, F a = A a + (B a + (C a + D a))) : OwnAll K G H [x, y, z, t] [v, w, u, s] F := by
  have h := mk3 h2 h3 h4 (F := fun a => B a + (C a + D a)) fun _ => rfl
  simp only [OwnAll] at h ⊢
  exact ⟨v, [w, u, s], A, _, rfl, h1, h, f⟩
theorem atI_of {α : Type} {xs : List α} {k : Int} {j : Nat} {x : α} (h : ixN xs.length k = some j) (e : xs[j]? = some x) : atI xs k = some x := by
  unfold atI
  rw [h]
  exact e
theorem os_set2 : OpSem K (rSet4 K) φSet2 := by
  intro vs xs F G H ho ok x ys e Q k
  unfold φSet2 at e
  split at e
  · rename_i y zs kk ll
    obtain ⟨d, e1, e⟩ := bind_some e
    obtain ⟨j, e2, e⟩ := bind_some e
    split at e
    · rename_i us e3
      obtain ⟨m, e4, e⟩ := bind_some e
      simp only [Option.some.injEq, Prod.mk.injEq] at e
      obtain ⟨rfl, rfl⟩ := e
      obtain ⟨v, w, u, s, A, B, C, D, rfl, h1, h2, h3, h4, f⟩ := own4 ho
      have hu := h3.fzF
      simp only [Dt] at hu
      subst hu
      have hs := h4.fzF
      simp only [Dt] at hs
      subst hs
      have c0 := h3.fz0
      have d0 := h4.fz0
      have ok1 : Ok G H (fun a => A a + B a) := ok.congr fun a => by rw [f, c0, d0]; omega
      obtain ⟨ok2, fr2⟩ := thaw_ok ok1
      have hd := Own.frz (thaw_le ok1) y v A d h1 e1 thaw_at
      have h2' := Own.mono (thaw_le ok1) _ w B h2 fun _ _ => rfl
      simp only [Own] at h2'
      obtain ⟨p, ws, F', rfl, hp, hw, fB⟩ := h2'
      have hl := hw.len
      obtain ⟨q, F1, F2, g1, g2, g3, put⟩ := hw.at_ e3
      simp only [Own] at g2
      obtain ⟨pq, rs, F3, rfl, hpq, hr, f3⟩ := g2
      have hl2 := hr.len
      obtain ⟨F4, l4, q4⟩ := hr.setD m hd
      have okp : Ok (thaw G H A) H (fun a => one pq a + (F3 a + (one p a + F2 a))) := ok2.congr fun a => by rw [fB, g3, f3]; omega
      have npq : ∀ a, one p a + F2 a ≠ 0 → a ≠ pq := fun a ha z => by
        subst z
        have := okp.nd a
        rw [one_self] at this
        omega
      have np3 : ∀ a, F3 a ≠ 0 → a ≠ pq := fun a ha z => by
        subst z
        have := okp.nd a
        rw [one_self] at this
        omega
      obtain ⟨a1, a2, a3⟩ := ok_write (o' := .lst (rs.set m v)) okp hpq (F' := fun a => F4 a + (one p a + F2 a)) (fun a => by have := l4 a; show F4 a + (one p a + F2 a) ≤ F3 a + (one p a + F2 a); omega)
      refine .inl ⟨p, ws, kk, .ref pq, rfl, rfl, .inl (.inl hp), atI_of (by rw [← hl]; exact e2) g1, ?_⟩
      refine ⟨pq, rs, ll, m, rfl, rfl, hpq, by rw [← hl2]; exact e4, ?_⟩
      have q5 := OwnAll.mono (fun _ _ h => h) _ _ _ q4 (H' := upd H pq (.lst (rs.set m v))) fun a ha => a3 a (by have := l4 a; omega)
      have o6 : Own K (thaw G H A) (upd H pq (.lst (rs.set m v))) (.ls (us.set m (.fz d))) (.ref pq) (fun a => one pq a + F4 a) := by
        simp only [Own]
        exact ⟨pq, _, F4, rfl, upd_same, q5, fun _ => rfl⟩
      have o7 := put (thaw G H A) (upd H pq (.lst (rs.set m v))) _ _ (fun _ _ h => h) (fun a ha => upd_ne (npq a (by omega))) o6
      have hp7 : upd H pq (.lst (rs.set m v)) p = some (.lst ws) := by rw [upd_ne (npq p (by rw [one_self]; omega))]; exact hp
      refine k .non (fun _ => 0) (fun a => one p a + (one pq a + F4 a + F2 a)) (thaw G H A) _ (Own.ofD dtNone) (mk4 (Own.ofD hd) (B := fun a => one p a + (one pq a + F4 a + F2 a)) ?_ (Own.ofD dtInt) (Own.ofD dtInt) fun a => by simp) (a1.congr fun a => by show _ = one pq a + (F4 a + (one p a + F2 a)); simp; omega) ?_
      · simp only [Own]
        exact ⟨p, ws, _, rfl, hp7, o7, fun _ => rfl⟩
      · refine (((fr2.congr (F1 := F) (fun a => ?_) fun _ => rfl).trans (a2.congr (fun a => ?_) fun _ => rfl))).congr (fun _ => rfl) fun a => ?_
        · rw [f, c0, d0]; omega
        · rw [fB, g3, f3]; show _ = one pq a + (F3 a + (one p a + F2 a)); omega
        · show _ = one pq a + (F4 a + (one p a + F2 a)); simp; omega
    · cases e
  · cases e
@[simp] noncomputable def sSetIx2 (i j k : Nat) (f : M) : MS := fun ρ => (mOp φSet2 (aEx f (aNm i (aNm j (aNm k aNil)))) ρ).bind fun p => some (.nx, p.2)
def gSub2 (K : PySem.W.Frag) (i j k : Nat) : TG := fun y σ H Q => tVar i σ H fun v H1 => tVar j σ H1 fun va H2 => tVar k σ H2 fun vb H3 => rIx K v va H3 fun w H' => rSetL w vb y H' fun H'' => Q σ H''
theorem ss_setIx2 {i j k : Nat} {te : TE} {f : M} (h : Sim K te f) : SimS K np (tAsg te (gSub2 K i j k)) (sSetIx2 i j k f) := by
  intro σ ρ F G H hE ok o ρ' e D p
  obtain ⟨⟨x, ρ1⟩, e1, e⟩ := bind_some e
  simp only [Option.some.injEq, Prod.mk.injEq] at e
  obtain ⟨rfl, rfl⟩ := e
  have h0 := sim_op os_set2 (sa_ex h (sa_nm (i := i) (sa_nm (i := j) (sa_nm (i := k) sa_nil)))) σ ρ F G H hE ok x ρ1 e1 (fun _ H' => D.nx σ H') fun v Fx F1 G1 H1 o1 E1 ok1 fr1 => p σ F1 G1 H1 .refl E1 (ok1.sub fun a => by omega) (fr1.sub fun a => by omega)
  exact h0
theorem rIx_mono {x y : V} {H : Hp} {Q Q' : VK} (h : rIx K x y H Q) (m : ∀ v H', Q v H' → Q' v H') : rIx K x y H Q' := by
  rcases h with ⟨a, b, c, d, e1, e2, e3, e4, q⟩ | ⟨a, b, c, d, e1, e2, e3, e4, q⟩ | ⟨a, b, c, e1, e2, e3, e4, q⟩
  · exact .inl ⟨a, b, c, d, e1, e2, e3, e4, m _ _ q⟩
  · exact .inr (.inl ⟨a, b, c, d, e1, e2, e3, e4, m _ _ q⟩)
  · exact .inr (.inr ⟨a, b, c, e1, e2, e3, e4, m _ _ q⟩)
theorem pg_sub2 {X : Cx} {x y z : Str} {p1 p2 p3 p4 p5 : Pos} {i j k : Nat} (h1 : PE X (.Name x p1) (tVar i)) (h2 : PE X (.Name y p2) (tVar j)) (h3 : PE X (.Name z p3) (tVar k)) :
    PG X (.Subscript (.Subscript (.Name x p1) (.Name y p2) p4) (.Name z p3) p5) (gSub2 X.K i j k) := by
  have hg : PG X (.Subscript (.Subscript (.Name x p1) (.Name y p2) p4) (.Name z p3) p5) (gSub (tOp (rIx X.K) (tVar i) (tVar j)) (tVar k) rSetL) :=
    pg_sub (pe_ix ix_seq h1 h2 (fun _ _ => rfl)) h3 set_list (fun v => rfl)
  refine ⟨fun pins s σ H v u Q I r h => hg.run pins s σ H v u Q I r ?_⟩
  obtain ⟨a, e1, b, e2, c, e3, h⟩ := h
  exact ⟨a, e1, b, e2, rIx_mono h fun w H' q => ⟨c, e3, q⟩⟩
@[simp] def φIx2 : Φ
  | [.ls xs, .fz (.int k), .fz (.int l)] => (ixN xs.length k).bind fun j => match xs[j]? with
    | some (.ls ys) => (ixN ys.length l).bind fun m => match ys[m]? with
      | some (.fz d) => some (.fz d, [.ls xs, .fz (.int k), .fz (.int l)])
      | _ => none
    | _ => none
  | _ => none
def rIx3 (K : PySem.W.Frag) : RN := fun vs H Q => match vs with
  | [o, i, j] => rIx K o i H fun w H' => rIx K w j H' Q
  | _ => False
theorem os_ix2 : OpSem K (rIx3 K) φIx2 := by
  intro vs xs F G H ho ok x ys e Q k
  unfold φIx2 at e
  split at e
  · rename_i zs kk ll
    obtain ⟨j, e2, e⟩ := bind_some e
    split at e
    · rename_i us e3
      obtain ⟨m, e4, e⟩ := bind_some e
      split at e
      · rename_i d e5
        simp only [Option.some.injEq, Prod.mk.injEq] at e
        obtain ⟨rfl, rfl⟩ := e
        have ho' := ho
        obtain ⟨w, u, s, B, C, D, rfl, h2, h3, h4, f⟩ := own3 ho
        have hu := h3.fzF
        simp only [Dt] at hu
        subst hu
        have hs := h4.fzF
        simp only [Dt] at hs
        subst hs
        simp only [Own] at h2
        obtain ⟨p, ws, F', rfl, hp, hw, fB⟩ := h2
        have hl := hw.len
        obtain ⟨q, F1, F2, g1, g2, g3, _⟩ := hw.at_ e3
        simp only [Own] at g2
        obtain ⟨pq, rs, F3, rfl, hpq, hr, f3⟩ := g2
        have hl2 := hr.len
        obtain ⟨v, F5, F6, g5, g6, g7, _⟩ := hr.at_ e5
        refine .inl ⟨p, ws, kk, .ref pq, rfl, rfl, .inl (.inl hp), atI_of (by rw [← hl]; exact e2) g1, ?_⟩
        refine .inl ⟨pq, rs, ll, v, rfl, rfl, .inl (.inl hpq), atI_of (by rw [← hl2]; exact e4) g5, ?_⟩
        exact k v (fun _ => 0) F G H (Own.ofD g6.fzF) ho' (ok.congr fun a => by simp) ((Fr.refl ok).congr (fun _ => rfl) fun a => by simp)
      · cases e
    · cases e
  · cases e
theorem pe_ix2 {X : Cx} {x y z : Str} {p1 p2 p3 p4 p5 : Pos} {i j k : Nat} (h1 : PE X (.Name x p1) (tVar i)) (h2 : PE X (.Name y p2) (tVar j)) (h3 : PE X (.Name z p3) (tVar k)) :
    PE X (.Subscript (.Subscript (.Name x p1) (.Name y p2) p4) (.Name z p3) p5) (tN (rIx3 X.K) (tCons (tVar i) (tCons (tVar j) (tCons (tVar k) tNil)))) := by
  have hg : PE X (.Subscript (.Subscript (.Name x p1) (.Name y p2) p4) (.Name z p3) p5) (tOp (rIx X.K) (tOp (rIx X.K) (tVar i) (tVar j)) (tVar k)) :=
    pe_ix ix_seq (pe_ix ix_seq h1 h2 (fun _ _ => rfl)) h3 (fun _ _ => rfl)
  refine ⟨fun pins s σ H Q I h => hg.run pins s σ H Q I ?_⟩
  obtain ⟨a, e1, b, e2, c, e3, h⟩ := h
  exact ⟨a, e1, b, e2, rIx_mono h fun w H' q => ⟨c, e3, q⟩⟩
end
end MP
namespace PySem
open Sem (wp)
theorem mp_enumerate_new1 {v : Value} {o : Obj} {H : Heap → Prop} (B : Begins v o H) :
    Meets (Builtin.«enumerate.__new__» ⟨[.type "enumerate", v], []⟩) (fun _ R s => H s.heap ∧
      R (.ok (.ret (.ref (s.heap.push o).objs.size))) { s with heap := (s.heap.push o).push { cls := .type "enumerate", data := .fields #[.none, .bool false, .ref s.heap.objs.size, rawInt 0, .none, .none] } }) :=
  .of_wp fun prog w A R s h => by
    obtain ⟨hp, g, d, tk, os⟩ := s; obtain ⟨h1, h⟩ := h
    have hsub := sub_enumerate
    have q1 : ∀ {A' : Around} {E : Value → Shared → Prop} {Q : Value → Shared → Prop}, Q (.ref hp.objs.size) ⟨hp.push o, g, d, tk, os⟩ → wpAny (model prog w) A' (pyIter v) Q E ⟨hp, g, d, tk, os⟩ :=
      fun q => B.iter prog w _ _ ⟨hp, g, d, tk, os⟩ _ h1 q
    wp_walk using q1
    refine wpAny_stack_any fun st => wpAny_pure ?_
    split
    · rename_i c _ _ _ _ _
      cases (c == Value.type "enumerate")
      · wp_walk using q1
        exact ⟨_, rfl, h⟩
      · wp_walk using q1
        exact ⟨_, rfl, h⟩
    · wp_walk using q1
      exact ⟨_, rfl, h⟩
section
variable {prog : Program} {w : World} {A : Around} {E : Value → Shared → Prop} {s : Shared}
theorem mp_enum_begins1 {v : Value} {o : Obj} {H : Heap → Prop} {Q : Value → Shared → Prop} (B : Begins v o H) (h1 : H s.heap)
    (h : ∀ h', IsEnum h' (s.heap.objs.size + 1) s.heap.objs.size 0 .none → h'.get? s.heap.objs.size = some o → h'.objs.size = s.heap.objs.size + 2 →
      (∀ b o, s.heap.get? b = some o → h'.get? b = some o) → Q (.ref (s.heap.objs.size + 1)) { s with heap := h' }) :
    wpAny (model prog w) A (call (.type "enumerate") [v]) Q E s := by
  refine callType_new F.called_enumerate (by decide) (F.typeCall_enumerate_1 _) (F.newCall_enumerate_1 _) (fun obj => F.args_object_init_2 obj _) F.entry_enumerate_new
    (mp_enumerate_new1 B) ⟨h1, ?_⟩
  have hz : (s.heap.push o).objs.size = s.heap.objs.size + 1 := Heap.size_push ..
  show _ ∧ _
  rw [hz]
  have he : IsEnum ((s.heap.push o).push { cls := .type "enumerate", data := .fields #[.none, .bool false, .ref s.heap.objs.size, rawInt 0, .none, .none] }) (s.heap.objs.size + 1) s.heap.objs.size 0 .none := by
    have := Heap.get?_push_size (s.heap.push o) (o := { cls := .type "enumerate", data := .fields #[.none, .bool false, .ref s.heap.objs.size, rawInt 0, .none, .none] }) rfl
    rw [hz] at this; exact this
  refine ⟨⟨_, he, rfl⟩, h _ he (Heap.get?_push_of_some _ (Heap.get?_push_size _ B.free)) (by rw [Heap.size_push, hz]) fun b o x => Heap.get?_push_of_some _ (Heap.get?_push_of_some _ x)⟩
end
end PySem
namespace MP
open PySem PySem.Spec PyProof.Rows L2
variable [LamT]
def IteT (K : PySem.W.Frag) (a : Addr) : It :=
  ⟨fun i H => ∃ (xs : List V) (x : V), SqT K H a xs ∧ xs[i]? = some x, fun i H v H' => ∃ T x, v = .ref T ∧ H T = none ∧ H' = upd H T (.tup [.int (i : Nat), x]) ∧ ∀ xs, SqT K H a xs → xs[i]? = some x, fun i H => ∃ xs : List V, SqT K H a xs ∧ xs.length = i⟩
theorem turn_enumT {P : Program} {w : World} {K : PySem.W.Frag} {elts : List Expr} {kk : Nat} {tpos : Pos} (a e it : Addr) :
    Turn P w K (.Tuple elts kk tpos) (IteT K a) [e, it] e (fun i h => (∃ old, IsEnum h e it ((i : Nat) : Int) old) ∧ h.IsTupleIter it a i ∧ e ≠ it) where
  mem := by simp
  obj := fun i h st b hb => by
    obtain ⟨⟨old, he⟩, ⟨o, ho, hc, hd⟩, _⟩ := st
    have e' : b = e ∨ b = it := by simpa using hb
    rcases e' with z | z
    · rw [z]; exact ⟨_, he, fun v q => nomatch q⟩
    · rw [z]; exact ⟨o, ho, fun v q => by rw [hd] at q; cases q⟩
  keep := fun i h h' st k => let ⟨⟨old, he⟩, hi, hne⟩ := st; ⟨⟨old, k e (by simp) _ he⟩, hi.at fun o q => k it (by simp) o q, hne⟩
  item := by
    intro X hP hw hK hc i pins s σ H E I hf st hg
    subst hP hw hK
    obtain ⟨⟨old, he⟩, hit, hne⟩ := st
    obtain ⟨xs, x, hq, hx⟩ := hg
    obtain ⟨its, rv, p, hz⟩ := I.tuple hq
    obtain ⟨u, hu, ru⟩ := rv.get hx
    have hel : e < s.heap.objs.size := Heap.lt_size he
    have hil : it < s.heap.objs.size := by obtain ⟨_, q, _⟩ := hit; exact Heap.lt_size q
    have hait : a ≠ it := fun z => by
      obtain ⟨o, ho, hc1, _⟩ := hit
      obtain ⟨o2, ho2, hc2, _⟩ := p
      rw [z] at ho2
      rw [ho] at ho2
      cases ho2
      rw [hc1] at hc2
      injection hc2 with z2
      exact absurd z2 (by decide)
    have hae : a ≠ e := fun z => by
      obtain ⟨o2, ho2, hc2, _⟩ := p
      have he2 : s.heap.get? e = _ := he
      rw [z, he2] at ho2
      cases ho2
      injection hc2 with z2
      exact absurd z2 (by decide)
    have D := Draws.tuple (prog := X.prog) (w := X.w) (A := X.A.in1) (I.ok.hd hc) it a hait its.toArray
    have hlt : i < its.length := (List.getElem?_eq_some_iff.mp hu).1
    have W := GoesN.enumFrom (elts := elts) (x1 := kk) (pos := tpos) 0 D e hne (fun hm => by
      have : e = it ∨ e = a := by simpa using hm
      rcases this with z | z
      · exact hne z
      · exact hae z.symm) (by simp)
    refine W.goes i s _ E (by simpa using hlt) ⟨⟨old, by simpa using he⟩, hit, p⟩ fun v h' tk hY st' hk htk => ?_
    obtain ⟨T, t, y, rfl, hTn, hy, hT⟩ := hY
    have : u = y := by
      simp [hu] at hy
      rw [List.getElem?_eq_getElem hlt] at hu
      cases hu
      exact hy.symm ▸ rfl
    subst this
    have new : ObjOk X.prog X.w (upd H T (.tup [.int (i : Nat), x])) h' T (.tup [.int (i : Nat), x]) :=
      ⟨by show 2 ≤ sizeLine; decide, [.int i t, u], .cons ⟨_, rfl⟩ (.cons ru .nil), by
        obtain ⟨o, q1, q2, q3⟩ := hT
        exact ⟨o, q1, q2, by simpa using q3⟩⟩
    have I1 : Inv X pins σ (upd H T (.tup [.int (i : Nat), x])) { s with heap := h', toks := tk } :=
      I.turnedNew (ch := [e, it]) (fun b ob hb q => hk b ob hb q) hf hTn new
    refine ⟨.ref T, _, I1, rfl, ⟨_, x, rfl, I.hok.fresh hTn, rfl, fun ys hy => by rw [I.tuple_inj hy hq]; exact hx⟩, ⟨?_, st'.2.1, hne⟩, fun b hb => ?_⟩
    · obtain ⟨⟨old', he'⟩, _⟩ := st'
      exact ⟨old', by simpa using he'⟩
    · have hb' : b < s.heap.objs.size := by
        have e' : b = e ∨ b = it := by simpa using hb
        rcases e' with z | z
        · rw [z]; exact hel
        · rw [z]; exact hil
      rw [upd_ne (Nat.ne_of_lt (Nat.lt_of_lt_of_le hb' hTn))]
      exact (hf b hb).1
  done := by
    intro X hP hw hK hc i pins s σ H E I hf st hg
    subst hP hw hK
    obtain ⟨⟨old, he⟩, hit, hne⟩ := st
    obtain ⟨xs, hq, hx⟩ := hg
    obtain ⟨its, rv, p, hz⟩ := I.tuple hq
    have hl := rv.length
    have hait : a ≠ it := fun z => by
      obtain ⟨o, ho, hc1, _⟩ := hit
      obtain ⟨o2, ho2, hc2, _⟩ := p
      rw [z] at ho2
      rw [ho] at ho2
      cases ho2
      rw [hc1] at hc2
      injection hc2 with z2
      exact absurd z2 (by decide)
    have hae : a ≠ e := fun z => by
      obtain ⟨o2, ho2, hc2, _⟩ := p
      have he2 : s.heap.get? e = _ := he
      rw [z, he2] at ho2
      cases ho2
      injection hc2 with z2
      exact absurd z2 (by decide)
    have D := Draws.tuple (prog := X.prog) (w := X.w) (A := X.A.in1) (I.ok.hd hc) it a hait its.toArray
    have W := GoesN.enumFrom (elts := elts) (x1 := kk) (pos := tpos) 0 D e hne (fun hm => by
      have : e = it ∨ e = a := by simpa using hm
      rcases this with z | z
      · exact hne z
      · exact hae z.symm) (by simp)
    have hn : its.toArray.size = i := by simp; omega
    subst hn
    exact W.stops s _ E ⟨⟨old, by simpa using he⟩, hit, p⟩ fun h' tk hk htk => I.turnedL (t' := tk) (ch := [e, it]) hk hf
  self := fun A i s Q E st h => let ⟨⟨_, he⟩, _⟩ := st; wpAny_pyIter_enum he h
def rEnumA (K : PySem.W.Frag) : RI := fun vs H R => ∃ a xs, vs = [.ref a] ∧ ((SqL K H a xs ∧ R (Ite K a) H) ∨ (SqT K H a xs ∧ R (IteT K a) H))
theorem pi_enumA {X : Cx} {e : Expr} {ta : TA} {p pos tpos : Pos} {elts : List Expr} {kk : Nat} (hg : Gl X "enumerate") (hm : X.mg "enumerate" = none) (ha : PA X [e] ta) (hs : starEach [e] X.env = [(false, eval e X.env)] := by rfl) :
    PI X (.Tuple elts kk tpos) (.Call (.Name "enumerate" p) [e] [] pos) (tI (rEnumA X.K) ta) := by
  refine ⟨fun pins s σ H R I h => ?_⟩
  refine Call_ (ld_blt I hg hm boot_enumerate (PyProof.Rows.callWith_type1 (thn (ha.run pos pins s σ H _ I h) fun us s1 ⟨vs, H1, I1, r1, q1⟩ => ?_) hs rfl))
  obtain ⟨a, xs, ex, q⟩ := q1
  subst ex
  cases r1 with
  | cons r rr =>
    cases rr
    cases r
    rcases q with ⟨hq, q⟩ | ⟨hq, q⟩
    · obtain ⟨its, rv, p', hz⟩ := I1.list hq
      refine call_enumerate_list p'.isList fun h' he hit hsz hk => wpAny_pyIter_enum he ?_
      have I2 : Inv X pins σ H1 { s1 with heap := h' } := I1.kept (t' := s1.toks) hk
      refine ⟨s1.heap.objs.size + 1, [s1.heap.objs.size + 1, s1.heap.objs.size], _, _, H1, rfl, I2, turn_enum a (s1.heap.objs.size + 1) s1.heap.objs.size, ⟨⟨.none, he⟩, hit, Nat.succ_ne_self _⟩, fun b hb => ?_, q⟩
      have e' : b = s1.heap.objs.size + 1 ∨ b = s1.heap.objs.size := by simpa using hb
      have hle : s1.heap.objs.size ≤ b := by
        rcases e' with z | z
        · rw [z]; exact Nat.le_add_right _ _
        · rw [z]; exact Nat.le_refl _
      exact I1.fpOk hle (I1.hok.fresh hle)
    · obtain ⟨its, rv, p', hz⟩ := I1.tuple hq
      refine mp_enum_begins1 (begins_tuple a its.toArray) p' fun h' he hit hsz hk => wpAny_pyIter_enum he ?_
      have I2 : Inv X pins σ H1 { s1 with heap := h' } := I1.kept (t' := s1.toks) hk
      refine ⟨s1.heap.objs.size + 1, [s1.heap.objs.size + 1, s1.heap.objs.size], _, _, H1, rfl, I2, turn_enumT a (s1.heap.objs.size + 1) s1.heap.objs.size, ⟨⟨.none, he⟩, ⟨_, hit, rfl, rfl⟩, Nat.succ_ne_self _⟩, fun b hb => ?_, q⟩
      have e' : b = s1.heap.objs.size + 1 ∨ b = s1.heap.objs.size := by simpa using hb
      have hle : s1.heap.objs.size ≤ b := by
        rcases e' with z | z
        · rw [z]; exact Nat.le_add_right _ _
        · rw [z]; exact Nat.le_refl _
      exact I1.fpOk hle (I1.hok.fresh hle)
section
variable {K : PySem.W.Frag}
theorem walk_enumT {a : Addr} {xs : List V} {ds : List PyData} {G : Hp} (q : SqT K G a xs) (h : DtAll K G ds xs) : WalkD K (IteT K a) (enumD ds) G := by
  have l1 := h.len
  refine ⟨fun i H hi le => ?_, fun H le => ⟨xs, sqT_mono le q, by rw [enumD_len, l1]⟩, fun i H x H' d G2 e g le y => ?_⟩
  · rw [enumD_len, l1] at hi
    exact ⟨xs, xs[i], sqT_mono le q, by simp [hi]⟩
  · obtain ⟨T, w, rfl, hT, rfl, y1⟩ := y
    obtain ⟨e0, he0, rfl⟩ := enumD_get e
    obtain ⟨v', e3, hd3⟩ := h.get he0
    have l : Le G H := fun a o z => le a o (g a o z)
    have z1 := y1 xs (sqT_mono l q)
    rw [e3] at z1
    cases z1
    exact pair_step le hT dtInt (Dt.mono g _ _ hd3)
@[simp] def hEnumA : List PyData → Option (List PyData)
  | [.list xs] => some (enumD xs)
  | [.tuple xs] => some (enumD xs)
  | _ => none
theorem id_enumA : ItD K (rEnumA K) hEnumA := by
  intro ds vs G H le hd is e R k
  unfold hEnumA at e
  split at e
  · cases e
    obtain ⟨v, rfl, h1⟩ := dt1 hd
    simp only [Dt] at h1
    obtain ⟨a, xs, rfl, q, r⟩ := h1
    exact ⟨a, xs, rfl, .inl ⟨.inl (rd_mono le q), k _ (walk_enumL q r)⟩⟩
  · cases e
    obtain ⟨v, rfl, h1⟩ := dt1 hd
    simp only [Dt] at h1
    obtain ⟨a, xs, rfl, q, r⟩ := h1
    exact ⟨a, xs, rfl, .inr ⟨sqT_mono le q, k _ (walk_enumT q r)⟩⟩
  · cases e
end
end MP
namespace MP
open PySem PySem.Spec PyProof.Rows L2
variable [LamT]
def SqK (K : PySem.W.Frag) : Bool → Hp → Addr → List V → Prop
  | true, H, a, xs => SqL K H a xs
  | false, H, a, xs => SqT K H a xs
def IsSqK : Bool → Heap → Addr → Array Value → Prop
  | true, h, a, xs => h.IsList a xs
  | false, h, a, xs => h.IsTuple a xs
def IsItK : Bool → Heap → Addr → Addr → Nat → Prop
  | true, h, it, a, i => h.IsListIter it a i
  | false, h, it, a, i => h.IsTupleIter it a i
def itO : Bool → Addr → Obj
  | true, a => { cls := .type "list_iterator", data := .fields #[.ref a, .int 0 0] }
  | false, a => { cls := .type "tuple_iterator", data := .fields #[.ref a, .int 0 0] }
theorem drawsK {prog : Program} {w : World} {A : Around} (l : Bool) (hh : A.handled = none) (it a : Addr) (hne : a ≠ it) (items : Array Value) :
    Draws prog w A it [it, a] items.size (fun i v => items[i]? = some v) (fun i h => IsItK l h it a i ∧ IsSqK l h a items) := by
  cases l with
  | true => exact Draws.list hh it a hne items
  | false => exact Draws.tuple hh it a hne items
theorem beginsK (l : Bool) (a : Addr) (items : Array Value) : Begins (.ref a) (itO l a) fun h => IsSqK l h a items := by
  cases l with
  | true => exact begins_list a items
  | false => exact begins_tuple a items
theorem seqK {X : Cx} {pins : List (Addr × Obj)} {σ : L2.St} {H : Hp} {s : Shared} (I : Inv X pins σ H s) {l : Bool} {a : Addr} {xs : List V} (h : SqK X.K l H a xs) : ∃ its, Vals xs its ∧ IsSqK l s.heap a its.toArray := by
  cases l with
  | true =>
    obtain ⟨its, rv, p, _⟩ := I.list h
    exact ⟨its, rv, p.isList⟩
  | false =>
    obtain ⟨its, rv, p, _⟩ := I.tuple h
    exact ⟨its, rv, p⟩
theorem seqK_inj {X : Cx} {pins : List (Addr × Obj)} {σ : L2.St} {H : Hp} {s : Shared} (I : Inv X pins σ H s) {l : Bool} {a : Addr} {xs ys : List V} (h : SqK X.K l H a xs) (h' : SqK X.K l H a ys) : xs = ys := by
  cases l with
  | true => exact I.list_inj h h'
  | false => exact I.tuple_inj h h'
theorem IsItK.obj {l : Bool} {h : Heap} {it a : Addr} {i : Nat} (x : IsItK l h it a i) : ∃ o, h.get? it = some o ∧ ∀ v, o.data ≠ .cell v := by
  cases l with
  | true => obtain ⟨o, e, _, d⟩ := x; exact ⟨o, e, fun v q => by rw [d] at q; cases q⟩
  | false => obtain ⟨o, e, _, d⟩ := x; exact ⟨o, e, fun v q => by rw [d] at q; cases q⟩
theorem IsItK.at {l : Bool} {h h' : Heap} {it a : Addr} {i : Nat} (x : IsItK l h it a i) (k : ∀ o, h.get? it = some o → h'.get? it = some o) : IsItK l h' it a i := by
  cases l with
  | true => exact Heap.IsListIter.at x k
  | false => exact Heap.IsTupleIter.at x k
theorem IsItK.zero {l : Bool} {h : Heap} {it a : Addr} (e : h.get? it = some (itO l a)) : IsItK l h it a 0 := by
  cases l with
  | true => exact ⟨_, e, rfl, rfl⟩
  | false => exact ⟨_, e, rfl, rfl⟩
theorem IsSqK.lt {l : Bool} {h : Heap} {a : Addr} {xs : Array Value} (x : IsSqK l h a xs) : a < h.objs.size := by
  cases l with
  | true => obtain ⟨o, e, _⟩ := x; exact Heap.lt_size e
  | false => obtain ⟨o, e, _⟩ := x; exact Heap.lt_size e
def ItZ2 (K : PySem.W.Frag) (l m : Bool) (a b : Addr) : It :=
  ⟨fun i H => ∃ (xs ys : List V) (x y : V), SqK K l H a xs ∧ SqK K m H b ys ∧ xs[i]? = some x ∧ ys[i]? = some y,
    fun i H v H' => ∃ T x y, v = .ref T ∧ H T = none ∧ H' = upd H T (.tup [x, y]) ∧ (∀ xs, SqK K l H a xs → xs[i]? = some x) ∧ ∀ ys, SqK K m H b ys → ys[i]? = some y,
    fun i H => ∃ xs ys : List V, SqK K l H a xs ∧ SqK K m H b ys ∧ min xs.length ys.length = i⟩
theorem turn_zip2 {P : Program} {w : World} {K : PySem.W.Frag} {elts : List Expr} {kk : Nat} {tpos : Pos} {l m : Bool} {a b z TI TO i1 i2 : Addr} (S : ZipSep2 z TI TO i1 i2 [i1, a] [i2, b]) (na : a ≠ i1) (nb : b ≠ i2) :
    Turn P w K (.Tuple elts kk tpos) (ItZ2 K l m a b) [z, TI, TO, i1, i2] z (fun i h => IsZip h z TI TO .none ∧ IsTupOf2 h TI (.ref i1) (.ref i2) ∧ (∃ x y, IsTupOf2 h TO x y) ∧ IsItK l h i1 a i ∧ IsItK m h i2 b i) where
  mem := by simp
  obj := fun i h st c hc => by
    obtain ⟨hz, hTI, ⟨x, y, hTO⟩, h1, h2⟩ := st
    have e' : c = z ∨ c = TI ∨ c = TO ∨ c = i1 ∨ c = i2 := by simpa using hc
    rcases e' with q | q | q | q | q
    · rw [q]; exact ⟨_, hz, fun v q => nomatch q⟩
    · rw [q]; exact ⟨_, hTI, fun v q => nomatch q⟩
    · rw [q]; exact ⟨_, hTO, fun v q => nomatch q⟩
    · rw [q]; exact h1.obj
    · rw [q]; exact h2.obj
  keep := fun i h h' st k => by
    obtain ⟨hz, hTI, ⟨x, y, hTO⟩, h1, h2⟩ := st
    exact ⟨k z (by simp) _ hz, k TI (by simp) _ hTI, ⟨x, y, k TO (by simp) _ hTO⟩, h1.at fun o q => k i1 (by simp) o q, h2.at fun o q => k i2 (by simp) o q⟩
  item := by
    intro X hP hw hK hc i pins s σ H E I hf st hg
    subst hP hw hK
    obtain ⟨hz, hTI, hTO, h1, h2⟩ := st
    obtain ⟨xs, ys, x, y, hqx, hqy, hx, hy⟩ := hg
    obtain ⟨its, rv, p⟩ := seqK I hqx
    obtain ⟨its2, rv2, p2⟩ := seqK I hqy
    obtain ⟨u, hu, ru⟩ := rv.get hx
    obtain ⟨u2, hu2, ru2⟩ := rv2.get hy
    have D1 := drawsK (prog := X.prog) (w := X.w) (A := X.A.in1) l (I.ok.hd hc) i1 a na its.toArray
    have D2 := drawsK (prog := X.prog) (w := X.w) (A := X.A.in1) m (I.ok.hd hc) i2 b nb its2.toArray
    have W := GoesN.zip2 (elts := elts) (x1 := kk) (pos := tpos) S D1 D2
    have l1 := (List.getElem?_eq_some_iff.mp hu).1
    have l2 := (List.getElem?_eq_some_iff.mp hu2).1
    have small : ∀ c ∈ [z, TI, TO, i1, i2], c < s.heap.objs.size := fun c hcm => by
      have e' : c = z ∨ c = TI ∨ c = TO ∨ c = i1 ∨ c = i2 := by simpa using hcm
      obtain ⟨x0, y0, hTO'⟩ := hTO
      rcases e' with q | q | q | q | q
      · rw [q]; exact Heap.lt_size hz
      · rw [q]; exact Heap.lt_size hTI
      · rw [q]; exact Heap.lt_size hTO'
      · rw [q]; obtain ⟨_, e1, _⟩ := h1.obj; exact Heap.lt_size e1
      · rw [q]; obtain ⟨_, e2, _⟩ := h2.obj; exact Heap.lt_size e2
    refine W.goes i s _ E (by simp; omega) ⟨hz, hTI, hTO, ⟨h1, p⟩, h2, p2⟩ fun v h' tk hY st' hk htk => ?_
    obtain ⟨T, v1, v2, rfl, hTn, e1, e2, hT⟩ := hY
    have q1 : u = v1 := by
      rw [List.getElem?_toArray, hu] at e1
      exact Option.some.inj e1
    have q2 : u2 = v2 := by
      rw [List.getElem?_toArray, hu2] at e2
      exact Option.some.inj e2
    subst q1 q2
    have new : ObjOk X.prog X.w (upd H T (.tup [x, y])) h' T (.tup [x, y]) :=
      ⟨by show 2 ≤ sizeLine; decide, [u, u2], .cons ru (.cons ru2 .nil), hT⟩
    have I1 : Inv X pins σ (upd H T (.tup [x, y])) { s with heap := h', toks := tk } :=
      I.turnedNew (ch := [z, TI, TO, i1, i2]) (fun c ob hb q => hk c ob (fun hm => hb (by
        have : c = z ∨ c = TO ∨ c = i1 ∨ c = i2 := by simpa using hm
        rcases this with q | q | q | q <;> simp [q])) q) hf hTn new
    refine ⟨.ref T, _, I1, rfl, ⟨_, x, y, rfl, I.hok.fresh hTn, rfl, fun l hl => by rw [seqK_inj I hl hqx]; exact hx, fun l hl => by rw [seqK_inj I hl hqy]; exact hy⟩, ⟨st'.1, st'.2.1, st'.2.2.1, st'.2.2.2.1.1, st'.2.2.2.2.1⟩, fun c hcm => ?_⟩
    rw [upd_ne (Nat.ne_of_lt (Nat.lt_of_lt_of_le (small c hcm) hTn))]
    exact (hf c hcm).1
  done := by
    intro X hP hw hK hc i pins s σ H E I hf st hg
    subst hP hw hK
    obtain ⟨hz, hTI, hTO, h1, h2⟩ := st
    obtain ⟨xs, ys, hqx, hqy, hend⟩ := hg
    obtain ⟨its, rv, p⟩ := seqK I hqx
    obtain ⟨its2, rv2, p2⟩ := seqK I hqy
    have l1 := rv.length
    have l2 := rv2.length
    have D1 := drawsK (prog := X.prog) (w := X.w) (A := X.A.in1) l (I.ok.hd hc) i1 a na its.toArray
    have D2 := drawsK (prog := X.prog) (w := X.w) (A := X.A.in1) m (I.ok.hd hc) i2 b nb its2.toArray
    have W := GoesN.zip2 (elts := elts) (x1 := kk) (pos := tpos) S D1 D2
    have hn : min its.toArray.size its2.toArray.size = i := by simp; omega
    subst hn
    exact wpAny_mono (W.stops s (fun s1 => Inv X pins σ H s1) E ⟨hz, hTI, hTO, ⟨h1, p⟩, h2, p2⟩ fun h' tk hk htk => I.turnedL (t' := tk) (ch := [z, TI, TO, i1, i2]) (fun c ob hb q => hk c ob (fun hm => hb (by
        have : c = z ∨ c = TO ∨ c = i1 ∨ c = i2 := by simpa using hm
        rcases this with q | q | q | q <;> simp [q])) q) hf) (fun _ _ h => h) fun _ _ h => h
  self := fun A i s Q E st h => wpAny_pyIter_zip st.1 h
def ItZ3 (K : PySem.W.Frag) (l m n : Bool) (a b c : Addr) : It :=
  ⟨fun i H => ∃ (xs ys zs : List V) (x y z : V), SqK K l H a xs ∧ SqK K m H b ys ∧ SqK K n H c zs ∧ xs[i]? = some x ∧ ys[i]? = some y ∧ zs[i]? = some z,
    fun i H v H' => ∃ T x y z, v = .ref T ∧ H T = none ∧ H' = upd H T (.tup [x, y, z]) ∧ (∀ xs, SqK K l H a xs → xs[i]? = some x) ∧ (∀ ys, SqK K m H b ys → ys[i]? = some y) ∧ ∀ zs, SqK K n H c zs → zs[i]? = some z,
    fun i H => ∃ xs ys zs : List V, SqK K l H a xs ∧ SqK K m H b ys ∧ SqK K n H c zs ∧ min (min xs.length ys.length) zs.length = i⟩
theorem turn_zip3 {P : Program} {w : World} {K : PySem.W.Frag} {elts : List Expr} {kk : Nat} {tpos : Pos} {l m n : Bool} {a b c z TI TO i1 i2 i3 : Addr} (S : ZipSep3 z TI TO i1 i2 i3 [i1, a] [i2, b] [i3, c]) (na : a ≠ i1) (nb : b ≠ i2) (nc : c ≠ i3) :
    Turn P w K (.Tuple elts kk tpos) (ItZ3 K l m n a b c) [z, TI, TO, i1, i2, i3] z (fun i h => IsZip h z TI TO .none ∧ IsTupOf3 h TI (.ref i1) (.ref i2) (.ref i3) ∧ (∃ x y u, IsTupOf3 h TO x y u) ∧ IsItK l h i1 a i ∧ IsItK m h i2 b i ∧ IsItK n h i3 c i) where
  mem := by simp
  obj := fun i h st d hd => by
    obtain ⟨hz, hTI, ⟨x, y, u, hTO⟩, h1, h2, h3⟩ := st
    have e' : d = z ∨ d = TI ∨ d = TO ∨ d = i1 ∨ d = i2 ∨ d = i3 := by simpa using hd
    rcases e' with q | q | q | q | q | q
    · rw [q]; exact ⟨_, hz, fun v q => nomatch q⟩
    · rw [q]; exact ⟨_, hTI, fun v q => nomatch q⟩
    · rw [q]; exact ⟨_, hTO, fun v q => nomatch q⟩
    · rw [q]; exact h1.obj
    · rw [q]; exact h2.obj
    · rw [q]; exact h3.obj
  keep := fun i h h' st k => by
    obtain ⟨hz, hTI, ⟨x, y, u, hTO⟩, h1, h2, h3⟩ := st
    exact ⟨k z (by simp) _ hz, k TI (by simp) _ hTI, ⟨x, y, u, k TO (by simp) _ hTO⟩, h1.at fun o q => k i1 (by simp) o q, h2.at fun o q => k i2 (by simp) o q, h3.at fun o q => k i3 (by simp) o q⟩
  item := by
    intro X hP hw hK hc i pins s σ H E I hf st hg
    subst hP hw hK
    obtain ⟨hz, hTI, hTO, h1, h2, h3⟩ := st
    obtain ⟨xs, ys, zs, x, y, e, hqx, hqy, hqz, hx, hy, he⟩ := hg
    obtain ⟨its, rv, p⟩ := seqK I hqx
    obtain ⟨its2, rv2, p2⟩ := seqK I hqy
    obtain ⟨its3, rv3, p3⟩ := seqK I hqz
    obtain ⟨u, hu, ru⟩ := rv.get hx
    obtain ⟨u2, hu2, ru2⟩ := rv2.get hy
    obtain ⟨u3, hu3, ru3⟩ := rv3.get he
    have D1 := drawsK (prog := X.prog) (w := X.w) (A := X.A.in1) l (I.ok.hd hc) i1 a na its.toArray
    have D2 := drawsK (prog := X.prog) (w := X.w) (A := X.A.in1) m (I.ok.hd hc) i2 b nb its2.toArray
    have D3 := drawsK (prog := X.prog) (w := X.w) (A := X.A.in1) n (I.ok.hd hc) i3 c nc its3.toArray
    have W := GoesN.zip3 (elts := elts) (x1 := kk) (pos := tpos) S D1 D2 D3
    have l1 := (List.getElem?_eq_some_iff.mp hu).1
    have l2 := (List.getElem?_eq_some_iff.mp hu2).1
    have l3 := (List.getElem?_eq_some_iff.mp hu3).1
    have small : ∀ d ∈ [z, TI, TO, i1, i2, i3], d < s.heap.objs.size := fun d hcm => by
      have e' : d = z ∨ d = TI ∨ d = TO ∨ d = i1 ∨ d = i2 ∨ d = i3 := by simpa using hcm
      obtain ⟨x0, y0, u0, hTO'⟩ := hTO
      rcases e' with q | q | q | q | q | q
      · rw [q]; exact Heap.lt_size hz
      · rw [q]; exact Heap.lt_size hTI
      · rw [q]; exact Heap.lt_size hTO'
      · rw [q]; obtain ⟨_, e1, _⟩ := h1.obj; exact Heap.lt_size e1
      · rw [q]; obtain ⟨_, e2, _⟩ := h2.obj; exact Heap.lt_size e2
      · rw [q]; obtain ⟨_, e3, _⟩ := h3.obj; exact Heap.lt_size e3
    refine W.goes i s _ E (by simp; omega) ⟨hz, hTI, hTO, ⟨h1, p⟩, ⟨h2, p2⟩, h3, p3⟩ fun v h' tk hY st' hk htk => ?_
    obtain ⟨T, v1, v2, v3, rfl, hTn, e1, e2, e3, hT⟩ := hY
    have q1 : u = v1 := by
      rw [List.getElem?_toArray, hu] at e1
      exact Option.some.inj e1
    have q2 : u2 = v2 := by
      rw [List.getElem?_toArray, hu2] at e2
      exact Option.some.inj e2
    have q3 : u3 = v3 := by
      rw [List.getElem?_toArray, hu3] at e3
      exact Option.some.inj e3
    subst q1 q2 q3
    have new : ObjOk X.prog X.w (upd H T (.tup [x, y, e])) h' T (.tup [x, y, e]) :=
      ⟨by show 3 ≤ sizeLine; decide, [u, u2, u3], .cons ru (.cons ru2 (.cons ru3 .nil)), hT⟩
    have I1 : Inv X pins σ (upd H T (.tup [x, y, e])) { s with heap := h', toks := tk } :=
      I.turnedNew (ch := [z, TI, TO, i1, i2, i3]) (fun d ob hb q => hk d ob (fun hm => hb (by
        have : d = z ∨ d = TO ∨ d = i1 ∨ d = i2 ∨ d = i3 := by simpa using hm
        rcases this with q | q | q | q | q <;> simp [q])) q) hf hTn new
    refine ⟨.ref T, _, I1, rfl, ⟨_, x, y, e, rfl, I.hok.fresh hTn, rfl, fun l hl => by rw [seqK_inj I hl hqx]; exact hx, fun l hl => by rw [seqK_inj I hl hqy]; exact hy, fun l hl => by rw [seqK_inj I hl hqz]; exact he⟩, ⟨st'.1, st'.2.1, st'.2.2.1, st'.2.2.2.1.1, st'.2.2.2.2.1.1, st'.2.2.2.2.2.1⟩, fun d hcm => ?_⟩
    rw [upd_ne (Nat.ne_of_lt (Nat.lt_of_lt_of_le (small d hcm) hTn))]
    exact (hf d hcm).1
  done := by
    intro X hP hw hK hc i pins s σ H E I hf st hg
    subst hP hw hK
    obtain ⟨hz, hTI, hTO, h1, h2, h3⟩ := st
    obtain ⟨xs, ys, zs, hqx, hqy, hqz, hend⟩ := hg
    obtain ⟨its, rv, p⟩ := seqK I hqx
    obtain ⟨its2, rv2, p2⟩ := seqK I hqy
    obtain ⟨its3, rv3, p3⟩ := seqK I hqz
    have l1 := rv.length
    have l2 := rv2.length
    have l3 := rv3.length
    have D1 := drawsK (prog := X.prog) (w := X.w) (A := X.A.in1) l (I.ok.hd hc) i1 a na its.toArray
    have D2 := drawsK (prog := X.prog) (w := X.w) (A := X.A.in1) m (I.ok.hd hc) i2 b nb its2.toArray
    have D3 := drawsK (prog := X.prog) (w := X.w) (A := X.A.in1) n (I.ok.hd hc) i3 c nc its3.toArray
    have W := GoesN.zip3 (elts := elts) (x1 := kk) (pos := tpos) S D1 D2 D3
    have hn : min (min its.toArray.size its2.toArray.size) its3.toArray.size = i := by simp; omega
    subst hn
    exact wpAny_mono (W.stops s (fun s1 => Inv X pins σ H s1) E ⟨hz, hTI, hTO, ⟨h1, p⟩, ⟨h2, p2⟩, h3, p3⟩ fun h' tk hk htk => I.turnedL (t' := tk) (ch := [z, TI, TO, i1, i2, i3]) (fun d ob hb q => hk d ob (fun hm => hb (by
        have : d = z ∨ d = TO ∨ d = i1 ∨ d = i2 ∨ d = i3 := by simpa using hm
        rcases this with q | q | q | q | q <;> simp [q])) q) hf) (fun _ _ h => h) fun _ _ h => h
  self := fun A i s Q E st h => wpAny_pyIter_zip st.1 h
def rZipM (K : PySem.W.Frag) : RI := fun vs H R => ∃ (l m : Bool) (a b : Addr) (xs ys : List V), vs = [.ref a, .ref b] ∧ SqK K l H a xs ∧ SqK K m H b ys ∧ R (ItZ2 K l m a b) H
def rZip3 (K : PySem.W.Frag) : RI := fun vs H R => ∃ (l m n : Bool) (a b c : Addr) (xs ys zs : List V), vs = [.ref a, .ref b, .ref c] ∧ SqK K l H a xs ∧ SqK K m H b ys ∧ SqK K n H c zs ∧ R (ItZ3 K l m n a b c) H
theorem pi_zipM {X : Cx} {e e2 : Expr} {ta : TA} {p pos tpos : Pos} {elts : List Expr} {kk : Nat} (hg : Gl X "zip") (hm : X.mg "zip" = none) (ha : PA X [e, e2] ta)
    (hs : starEach [e, e2] X.env = (false, eval e X.env) :: starEach [e2] X.env := by rfl) (hpl : (backTo pos (starEach [e2] X.env)).any (·.1) = false := by rfl) :
    PI X (.Tuple elts kk tpos) (.Call (.Name "zip" p) [e, e2] [] pos) (tI (rZipM X.K) ta) := by
  refine ⟨fun pins s σ H R I h => ?_⟩
  refine Call_ (ld_blt I hg hm PyProof.Rows.boot_zip (PyProof.Rows.callWith_type1 (thn (ha.run pos pins s σ H _ I h) fun us s1 ⟨vs, H1, I1, r1, q1⟩ => ?_) hs hpl))
  obtain ⟨l, m, a, b, xs, ys, ex, hqx, hqy, q⟩ := q1
  subst ex
  cases r1 with
  | cons r rr =>
    cases rr with
    | cons r' rr =>
      cases rr
      cases r
      cases r'
      obtain ⟨its, rv, p1⟩ := seqK I1 hqx
      obtain ⟨its2, rv2, p2⟩ := seqK I1 hqy
      have la := p1.lt
      have lb := p2.lt
      refine zip_begins2 (beginsK l a its.toArray) (beginsK m b its2.toArray) p1 p2 fun h' hz hTI hTO h1 h2 hsz hk => wpAny_pyIter_zip hz ?_
      have I2 : Inv X pins σ H1 { s1 with heap := h' } := I1.kept (t' := s1.toks) hk
      refine ⟨s1.heap.objs.size + 4, [s1.heap.objs.size + 4, s1.heap.objs.size + 2, s1.heap.objs.size + 3, s1.heap.objs.size, s1.heap.objs.size + 1], _, _, H1, rfl, I2, turn_zip2 (zip_sep2 (fp1 := [a]) (fp2 := [b]) (fun c hc => by rw [List.mem_singleton.mp hc]; exact la) (fun c hc => by rw [List.mem_singleton.mp hc]; exact lb)) (Nat.ne_of_lt la) (Nat.ne_of_lt (Nat.lt_succ_of_lt lb)), ⟨hz, hTI, ⟨_, _, hTO⟩, IsItK.zero h1, IsItK.zero h2⟩, fun c hcm => ?_, q⟩
      have e' : c = s1.heap.objs.size + 4 ∨ c = s1.heap.objs.size + 2 ∨ c = s1.heap.objs.size + 3 ∨ c = s1.heap.objs.size ∨ c = s1.heap.objs.size + 1 := by simpa using hcm
      have hle : s1.heap.objs.size ≤ c := by
        rcases e' with z | z | z | z | z
        · rw [z]; exact Nat.le_add_right _ _
        · rw [z]; exact Nat.le_add_right _ _
        · rw [z]; exact Nat.le_add_right _ _
        · rw [z]; exact Nat.le_refl _
        · rw [z]; exact Nat.le_add_right _ _
      exact I1.fpOk hle (I1.hok.fresh hle)
theorem pi_zip3 {X : Cx} {e e2 e3 : Expr} {ta : TA} {p pos tpos : Pos} {elts : List Expr} {kk : Nat} (hg : Gl X "zip") (hm : X.mg "zip" = none) (ha : PA X [e, e2, e3] ta)
    (hs : starEach [e, e2, e3] X.env = (false, eval e X.env) :: starEach [e2, e3] X.env := by rfl) (hpl : (backTo pos (starEach [e2, e3] X.env)).any (·.1) = false := by rfl) :
    PI X (.Tuple elts kk tpos) (.Call (.Name "zip" p) [e, e2, e3] [] pos) (tI (rZip3 X.K) ta) := by
  refine ⟨fun pins s σ H R I h => ?_⟩
  refine Call_ (ld_blt I hg hm PyProof.Rows.boot_zip (PyProof.Rows.callWith_type1 (thn (ha.run pos pins s σ H _ I h) fun us s1 ⟨vs, H1, I1, r1, q1⟩ => ?_) hs hpl))
  obtain ⟨l, m, n, a, b, c, xs, ys, zs, ex, hqx, hqy, hqz, q⟩ := q1
  subst ex
  cases r1 with
  | cons r rr =>
    cases rr with
    | cons r' rr =>
      cases rr with
      | cons r'' rr =>
        cases rr
        cases r
        cases r'
        cases r''
        obtain ⟨its, rv, p1⟩ := seqK I1 hqx
        obtain ⟨its2, rv2, p2⟩ := seqK I1 hqy
        obtain ⟨its3, rv3, p3⟩ := seqK I1 hqz
        have la := p1.lt
        have lb := p2.lt
        have lc := p3.lt
        refine zip_begins3 (beginsK l a its.toArray) (beginsK m b its2.toArray) (beginsK n c its3.toArray) p1 p2 p3 fun h' hz hTI hTO h1 h2 h3 hsz hk => wpAny_pyIter_zip hz ?_
        have I2 : Inv X pins σ H1 { s1 with heap := h' } := I1.kept (t' := s1.toks) hk
        refine ⟨s1.heap.objs.size + 5, [s1.heap.objs.size + 5, s1.heap.objs.size + 3, s1.heap.objs.size + 4, s1.heap.objs.size, s1.heap.objs.size + 1, s1.heap.objs.size + 2], _, _, H1, rfl, I2, turn_zip3 (zip_sep3 (fp1 := [a]) (fp2 := [b]) (fp3 := [c]) (fun d hc => by rw [List.mem_singleton.mp hc]; exact la) (fun d hc => by rw [List.mem_singleton.mp hc]; exact lb) (fun d hc => by rw [List.mem_singleton.mp hc]; exact lc)) (Nat.ne_of_lt la) (Nat.ne_of_lt (Nat.lt_succ_of_lt lb)) (Nat.ne_of_lt (Nat.lt_succ_of_lt (Nat.lt_succ_of_lt lc))), ⟨hz, hTI, ⟨_, _, _, hTO⟩, IsItK.zero h1, IsItK.zero h2, IsItK.zero h3⟩, fun d hcm => ?_, q⟩
        have e' : d = s1.heap.objs.size + 5 ∨ d = s1.heap.objs.size + 3 ∨ d = s1.heap.objs.size + 4 ∨ d = s1.heap.objs.size ∨ d = s1.heap.objs.size + 1 ∨ d = s1.heap.objs.size + 2 := by simpa using hcm
        have hle : s1.heap.objs.size ≤ d := by
          rcases e' with z | z | z | z | z | z
          · rw [z]; exact Nat.le_add_right _ _
          · rw [z]; exact Nat.le_add_right _ _
          · rw [z]; exact Nat.le_add_right _ _
          · rw [z]; exact Nat.le_refl _
          · rw [z]; exact Nat.le_add_right _ _
          · rw [z]; exact Nat.le_add_right _ _
        exact I1.fpOk hle (I1.hok.fresh hle)
section
variable {K : PySem.W.Frag}
@[simp] def seqD : PyData → Option (List PyData)
  | .list xs => some xs
  | .tuple xs => some xs
  | _ => none
theorem dt_seq {G : Hp} {d : PyData} {ds : List PyData} {v : V} (h : Dt K G d v) (e : seqD d = some ds) : ∃ l a xs, v = .ref a ∧ SqK K l G a xs ∧ DtAll K G ds xs := by
  cases d with
  | list ds' =>
    cases e
    simp only [Dt] at h
    obtain ⟨a, xs, rfl, q, r⟩ := h
    exact ⟨true, a, xs, rfl, .inl q, r⟩
  | tuple ds' =>
    cases e
    simp only [Dt] at h
    obtain ⟨a, xs, rfl, q, r⟩ := h
    exact ⟨false, a, xs, rfl, q, r⟩
  | _ => cases e
theorem sqK_mono {l : Bool} {G G' : Hp} {a : Addr} {xs : List V} (g : Le G G') (h : SqK K l G a xs) : SqK K l G' a xs := by
  cases l with
  | true => exact sqL_mono g h
  | false => exact sqT_mono g h
theorem walk_zip2 {l m : Bool} {a b : Addr} {xs ys : List V} {ds es : List PyData} {G : Hp} (q : SqK K l G a xs) (h : DtAll K G ds xs) (q2 : SqK K m G b ys) (h2 : DtAll K G es ys) : WalkD K (ItZ2 K l m a b) (zipD ds es) G := by
  have l1 := h.len
  have l2 := h2.len
  have ll : (zipD ds es).length = min xs.length ys.length := by unfold zipD; rw [List.length_zipWith, l1, l2]
  refine ⟨fun i H hi le => ?_, fun H le => ⟨xs, ys, sqK_mono le q, sqK_mono le q2, by rw [ll]⟩, fun i H x H' d G2 e g le y => ?_⟩
  · rw [ll] at hi
    exact ⟨xs, ys, xs[i]'(by omega), ys[i]'(by omega), sqK_mono le q, sqK_mono le q2, by simp [show i < xs.length by omega], by simp [show i < ys.length by omega]⟩
  · obtain ⟨T, v, w, rfl, hT, rfl, y1, y2⟩ := y
    obtain ⟨c, d', e1, e2, rfl⟩ := zipD_get e
    obtain ⟨v', e3, hd3⟩ := h.get e1
    obtain ⟨w', e4, hd4⟩ := h2.get e2
    have l : Le G H := fun a o z => le a o (g a o z)
    have z1 := y1 xs (sqK_mono l q)
    have z2 := y2 ys (sqK_mono l q2)
    rw [e3] at z1
    rw [e4] at z2
    cases z1
    cases z2
    exact pair_step le hT (Dt.mono g _ _ hd3) (Dt.mono g _ _ hd4)
def zip3D : List PyData → List PyData → List PyData → List PyData
  | x :: xs, y :: ys, z :: zs => .tuple [x, y, z] :: zip3D xs ys zs
  | _, _, _ => []
theorem zip3D_len : ∀ (xs ys zs : List PyData), (zip3D xs ys zs).length = min (min xs.length ys.length) zs.length
  | x :: xs, y :: ys, z :: zs => by
    have := zip3D_len xs ys zs
    simp only [zip3D, List.length_cons, this]
    omega
  | [], _, _ => by simp [zip3D]
  | _ :: _, [], _ => by simp [zip3D]
  | _ :: _, _ :: _, [] => by simp [zip3D]
theorem zip3D_get : ∀ {xs ys zs : List PyData} {i : Nat} {d : PyData}, (zip3D xs ys zs)[i]? = some d → ∃ a b c, xs[i]? = some a ∧ ys[i]? = some b ∧ zs[i]? = some c ∧ d = .tuple [a, b, c]
  | x :: xs, y :: ys, z :: zs, 0, d, h => by
    simp only [zip3D, List.getElem?_cons_zero, Option.some.injEq] at h
    exact ⟨x, y, z, rfl, rfl, rfl, h.symm⟩
  | x :: xs, y :: ys, z :: zs, i + 1, d, h => by
    simp only [zip3D, List.getElem?_cons_succ] at h
    obtain ⟨a, b, c, e1, e2, e3, e⟩ := zip3D_get h
    exact ⟨a, b, c, by simpa using e1, by simpa using e2, by simpa using e3, e⟩
  | [], _, _, _, _, h => by simp [zip3D] at h
  | _ :: _, [], _, _, _, h => by simp [zip3D] at h
  | _ :: _, _ :: _, [], _, _, h => by simp [zip3D] at h
theorem walk_zip3 {l m n : Bool} {a b c : Addr} {xs ys zs : List V} {ds es fs : List PyData} {G : Hp} (q : SqK K l G a xs) (h : DtAll K G ds xs) (q2 : SqK K m G b ys) (h2 : DtAll K G es ys) (q3 : SqK K n G c zs) (h3 : DtAll K G fs zs) : WalkD K (ItZ3 K l m n a b c) (zip3D ds es fs) G := by
  have l1 := h.len
  have l2 := h2.len
  have l3 := h3.len
  have ll : (zip3D ds es fs).length = min (min xs.length ys.length) zs.length := by rw [zip3D_len, l1, l2, l3]
  refine ⟨fun i H hi le => ?_, fun H le => ⟨xs, ys, zs, sqK_mono le q, sqK_mono le q2, sqK_mono le q3, by rw [ll]⟩, fun i H x H' d G2 e g le y => ?_⟩
  · rw [ll] at hi
    exact ⟨xs, ys, zs, xs[i]'(by omega), ys[i]'(by omega), zs[i]'(by omega), sqK_mono le q, sqK_mono le q2, sqK_mono le q3, by simp [show i < xs.length by omega], by simp [show i < ys.length by omega], by simp [show i < zs.length by omega]⟩
  · obtain ⟨T, v, w, u, rfl, hT, rfl, y1, y2, y3⟩ := y
    obtain ⟨c, d', f', e1, e2, e3, rfl⟩ := zip3D_get e
    obtain ⟨v', e4, hd4⟩ := h.get e1
    obtain ⟨w', e5, hd5⟩ := h2.get e2
    obtain ⟨u', e6, hd6⟩ := h3.get e3
    have l : Le G H := fun a o z => le a o (g a o z)
    have z1 := y1 xs (sqK_mono l q)
    have z2 := y2 ys (sqK_mono l q2)
    have z3 := y3 zs (sqK_mono l q3)
    rw [e4] at z1
    rw [e5] at z2
    rw [e6] at z3
    cases z1
    cases z2
    cases z3
    refine ⟨upd G2 T (.tup [v, w, u]), Step.new le hT, ?_⟩
    have g2 := (Step.new (o := .tup [v, w, u]) le hT).g
    simp only [Dt, DtAll]
    exact ⟨T, [v, w, u], rfl, .inl (.inl upd_same), v, [w, u], rfl, Dt.mono g2 _ v (Dt.mono g _ _ hd4), w, [u], rfl, Dt.mono g2 _ w (Dt.mono g _ _ hd5), u, [], rfl, Dt.mono g2 _ u (Dt.mono g _ _ hd6), rfl⟩
@[simp] def hZipM : List PyData → Option (List PyData)
  | [x, y] => match seqD x, seqD y with
    | some xs, some ys => some (zipD xs ys)
    | _, _ => none
  | _ => none
@[simp] def hZip3 : List PyData → Option (List PyData)
  | [x, y, z] => match seqD x, seqD y, seqD z with
    | some xs, some ys, some zs => some (zip3D xs ys zs)
    | _, _, _ => none
  | _ => none
theorem id_zipM : ItD K (rZipM K) hZipM := by
  intro ds vs G H le hd is e R k
  unfold hZipM at e
  split at e
  · rename_i x y
    split at e
    · rename_i xs ys e1 e2
      cases e
      obtain ⟨v, w, rfl, h1, h2⟩ := dt2 hd
      obtain ⟨l, a, us, rfl, q, r⟩ := dt_seq h1 e1
      obtain ⟨m, b, ws, rfl, q2, r2⟩ := dt_seq h2 e2
      exact ⟨l, m, a, b, us, ws, rfl, sqK_mono le q, sqK_mono le q2, k _ (walk_zip2 q r q2 r2)⟩
    · cases e
  · cases e
theorem id_zip3 : ItD K (rZip3 K) hZip3 := by
  intro ds vs G H le hd is e R k
  unfold hZip3 at e
  split at e
  · rename_i x y z
    split at e
    · rename_i xs ys zs e1 e2 e3
      cases e
      obtain ⟨v, w, u, rfl, h1, h2, h3⟩ := dt3 hd
      obtain ⟨l, a, us, rfl, q, r⟩ := dt_seq h1 e1
      obtain ⟨m, b, ws, rfl, q2, r2⟩ := dt_seq h2 e2
      obtain ⟨n, c, ts, rfl, q3, r3⟩ := dt_seq h3 e3
      exact ⟨l, m, n, a, b, c, us, ws, ts, rfl, sqK_mono le q, sqK_mono le q2, sqK_mono le q3, k _ (walk_zip3 q r q2 r2 q3 r3)⟩
    · cases e
  · cases e
end
end MP
namespace PySem
open Sem (wp)
abbrev ZipO (h : Heap) (z TI TO : Addr) (v0 : Value) (f : Bool) : Prop :=
  h.get? z = some { cls := .type "zip", dict := none, data := .fields #[v0, .bool f, .bool false, .ref TI, .ref TO], slots := #[] }
def ZipAny (h : Heap) (z TI TO : Addr) : Prop := ∃ v0 f, (v0 = .none ∨ ∃ T : Addr, v0 = rawInt T) ∧ ZipO h z TI TO v0 f
section
variable {prog : Program} {w : World} {A : Around} {E : Value → Shared → Prop} {s : Shared} {z TI TO i1 i2 : Addr} {fp1 fp2 : List Addr} {n1 n2 i : Nat} {P1 P2 : Nat → Value → Prop} {St1 St2 : Nat → Heap → Prop}
theorem mp_alive {a : Addr} {Q : Option Obj → Shared → Prop} (h : Q (s.heap.get? a) s) : wpAny (model prog w) A (loadIfAlive a) Q E s := fun _ _ _ => h
theorem mp_isFree {v0 : Value} {f : Bool} {Q : Bool → Shared → Prop} (hv : v0 = .none ∨ ∃ T : Addr, v0 = rawInt T) (hz : ZipO s.heap z TI TO v0 f) (free : Q true s)
    (held : ∀ h', ZipO h' z TI TO v0 true → Heap.SameBut z s.heap h' → Q false { s with heap := h' }) : wpAny (model prog w) A (Builtin.SmallTypes.ownedTupleIsFree (.ref z)) Q E s := by
  unfold Builtin.SmallTypes.ownedTupleIsFree
  rcases hv with rfl | ⟨T, rfl⟩
  · exact wpAny_bind (wpAny_field hz rfl (x := .none) rfl (wpAny_pure free))
  · refine wpAny_bind (wpAny_field hz rfl (x := rawInt T) rfl ?_)
    show wpAny _ _ (loadIfAlive ((T : Int).toNat) >>= _) _ _ _
    rw [Int.toNat_natCast]
    refine wpAny_bind (mp_alive ?_)
    cases hT : s.heap.get? T with
    | none =>
      simp only [Option.isNone_none, if_true]
      exact wpAny_pure free
    | some oT =>
      simp only [Option.isNone_some, Bool.false_eq_true, if_false]
      refine wpAny_bind (wpAny_field hz rfl (x := .bool f) rfl ?_)
      cases f with
      | true =>
        rw [if_neg (show ¬ ((Value.bool true != Value.bool true) = true) from Bool.false_ne_true)]
        exact wpAny_pure (held s.heap hz (Heap.SameBut.refl _ _))
      | false =>
        rw [if_pos (show (Value.bool false != Value.bool true) = true from rfl)]
        exact wpAny_bind (wpAny_setField_rec hz (by simp) fun h₁ hz₁ hs₁ => wpAny_pure (held h₁ hz₁ hs₁))
theorem mp_zip_item {Q : Value → Shared → Prop} (S : ZipSep2 z TI TO i1 i2 fp1 fp2) (D1 : Draws prog w A i1 fp1 n1 P1 St1) (D2 : Draws prog w A i2 fp2 n2 P2 St2)
    (hz : ZipAny s.heap z TI TO) (hTI : IsTupOf2 s.heap TI (.ref i1) (.ref i2)) (hTO : ∃ a1 a2, IsTupOf2 s.heap TO a1 a2) (st1 : St1 i s.heap) (st2 : St2 i s.heap) (hlt1 : i < n1) (hlt2 : i < n2)
    (hQ : ∀ x1 x2 h' tk, P1 i x1 → P2 i x2 → ZipAny h' z TI TO → (∃ a1 a2, IsTupOf2 h' TO a1 a2) → St1 (i + 1) h' → St2 (i + 1) h' → IsTupOf2 h' s.heap.objs.size x1 x2 → h'.objs.size = s.heap.objs.size + 1 →
      (∀ c o, c ≠ z → c ≠ TO → c ≠ i1 → c ≠ i2 → s.heap.get? c = some o → h'.get? c = some o) → Q (.ref s.heap.objs.size) { s with heap := h', toks := tk }) :
    wpAny (model prog w) A (Builtin.«zip.__next__» ⟨[.ref z], []⟩) (fun fin s' => ∃ v, fin = .done (.ret v) ∧ Q v s') E s := by
  obtain ⟨hp, g, d, tk0, os⟩ := s
  obtain ⟨v0, f, hv, hz⟩ := hz
  obtain ⟨a1, a2, hTO⟩ := hTO
  show wpAny _ _ (field (.ref z) 2 >>= _) _ _ _
  refine wpAny_bind (wpAny_field hz rfl (x := .bool false) rfl ?_)
  show wpAny _ _ (field (.ref z) 3 >>= _) _ _ _
  refine wpAny_bind (wpAny_field hz rfl (x := .ref TI) rfl ?_)
  refine wpAny_bind (wpAny_seqItems hTI rfl ?_)
  show wpAny _ _ (Builtin.SmallTypes.ownedTupleIsFree (.ref z) >>= _) _ _ _
  refine wpAny_bind (mp_isFree hv hz ?free fun h₁ hz₁ hs₁ => ?held)
  case held =>
    replace hs₁ : Heap.SameBut z hp h₁ := hs₁
    simp only [Bool.false_eq_true, if_false]
    refine wpAny_bind ?_
    rw [← Array.forIn_toList]
    simp only [List.forIn_cons, List.forIn_nil]
    refine wpAny_bind (wpAny_bind (wpAny_holding ?_))
    show wpAny _ _ (Builtin.SmallTypes.nextOf (.ref i1) >>= _) _ _ ⟨h₁, g, d, tk0, os⟩
    refine wpAny_bind (D1.item i _ _ _ hlt1 (D1.over st1 hs₁ S.zf1) fun x1 p1 tk1 hx1 sn1 hp1 => wpAny_pure ?_)
    replace hp1 : Heap.SameBut i1 h₁ p1 := hp1
    refine wpAny_pure ?_
    refine wpAny_bind (wpAny_bind (wpAny_holding ?_))
    show wpAny _ _ (Builtin.SmallTypes.nextOf (.ref i2) >>= _) _ _ ⟨p1, g, d, tk1, os⟩
    refine wpAny_bind (D2.item i _ _ _ hlt2 (D2.over (D2.over st2 hs₁ S.zf2) hp1 S.sep1_2) fun x2 p2 tk2 hx2 sn2 hp2 => wpAny_pure ?_)
    replace hp2 : Heap.SameBut i2 p1 p2 := hp2
    refine wpAny_pure (wpAny_pure ?_)
    show wpAny _ _ (newTuple [x1, x2] >>= _) _ _ ⟨p2, g, d, tk2, os⟩
    refine wpAny_bind (wpAny_newTuple ?_)
    have hsz : p2.objs.size = hp.objs.size := by rw [hp2.1, hp1.1, hs₁.1]
    have hz2 : ZipO p2 z TI TO v0 true := hp2.extBut _ _ S.zi2 (hp1.extBut _ _ S.zi1 hz₁)
    have hk : ∀ c o, c ≠ z → c ≠ TO → c ≠ i1 → c ≠ i2 → hp.get? c = some o → p2.get? c = some o := fun c o cz _ c1 c2 e => hp2.extBut _ _ c2 (hp1.extBut _ _ c1 (hs₁.extBut _ _ cz e))
    have hO : IsTupOf2 p2 TO a1 a2 := hp2.extBut _ _ S.Ti2 (hp1.extBut _ _ S.Ti1 (hs₁.extBut _ _ S.TOz hTO))
    have hj1 : St1 (i + 1) p2 := D1.over sn1 hp2 S.sep2_1
    refine wpAny_pure ⟨_, rfl, ?_⟩
    show Q (.ref p2.objs.size) _
    have hpp : IsTupOf2 (p2.push { cls := .type "tuple", data := .seq #[x1, x2] }) p2.objs.size x1 x2 := Heap.get?_push_size _ rfl
    have hz4 : (p2.push { cls := .type "tuple", data := .seq #[x1, x2] }).objs.size = p2.objs.size + 1 := Heap.size_push ..
    rw [hsz] at hpp hz4 ⊢
    exact hQ x1 x2 _ tk2 hx1 hx2 ⟨v0, true, hv, Heap.get?_push_of_some _ hz2⟩ ⟨a1, a2, Heap.get?_push_of_some _ hO⟩ (D1.frame _ _ _ hj1 fun b hb o e => Heap.get?_push_of_some _ e) (D2.frame _ _ _ sn2 fun b hb o e => Heap.get?_push_of_some _ e) hpp hz4 fun c o cz cT c1 c2 e => Heap.get?_push_of_some _ (hk c o cz cT c1 c2 e)
  case free =>
    simp only [if_true]
    refine wpAny_bind (wpAny_rule ?_)
    refine wpAny_bind (wpAny_field hz rfl (x := .ref TO) rfl ?_)
    refine wpAny_bind (wpAny_setField_rec hz (by simp) fun g0 hz0 hs0 => ?_)
    replace hz0 : ZipO g0 z TI TO .ellipsis f := hz0
    replace hs0 : Heap.SameBut z hp g0 := hs0
    refine wpAny_bind ?_
    simp only [List.zipIdx_cons, List.zipIdx_nil, List.forIn_cons, List.forIn_nil]
    refine wpAny_bind (wpAny_bind (wpAny_onRaise ?_))
    show wpAny _ _ (Builtin.SmallTypes.nextOf (.ref i1) >>= _) _ _ ⟨g0, g, d, tk0, os⟩
    refine wpAny_bind (D1.item i _ _ _ hlt1 (D1.over st1 hs0 S.zf1) fun x1 p1 tk1 hx1 sn1 hp1 => wpAny_pure ?_)
    replace hp1 : Heap.SameBut i1 g0 p1 := hp1
    have hU1 : IsTupOf2 p1 TO a1 a2 := hp1.extBut _ _ S.Ti1 (hs0.extBut _ _ S.TOz hTO)
    refine wpAny_bind (wpAny_seqItems (s := ⟨p1, g, d, tk1, os⟩) hU1 rfl ?_)
    refine wpAny_bind (updateSeq_IsTupOf2 (s := ⟨p1, g, d, tk1, os⟩) hU1 fun g1 hT1 hs1 => ?_)
    replace hT1 : IsTupOf2 g1 TO x1 a2 := hT1
    replace hs1 : Heap.SameBut TO p1 g1 := hs1
    refine wpAny_bind (wpAny_letGo (wpAny_pure ?_))
    refine wpAny_bind (wpAny_bind (wpAny_onRaise ?_))
    show wpAny _ _ (Builtin.SmallTypes.nextOf (.ref i2) >>= _) _ _ ⟨g1, g, d, tk1, os⟩
    refine wpAny_bind (D2.item i _ _ _ hlt2 (D2.over (D2.over (D2.over st2 hs0 S.zf2) hp1 S.sep1_2) hs1 S.Tf2) fun x2 p2 tk2 hx2 sn2 hp2 => wpAny_pure ?_)
    replace hp2 : Heap.SameBut i2 g1 p2 := hp2
    have hU2 : IsTupOf2 p2 TO x1 a2 := hp2.extBut _ _ S.Ti2 hT1
    refine wpAny_bind (wpAny_seqItems (s := ⟨p2, g, d, tk2, os⟩) hU2 rfl ?_)
    refine wpAny_bind (updateSeq_IsTupOf2 (s := ⟨p2, g, d, tk2, os⟩) hU2 fun g2 hT2 hs2 => ?_)
    replace hT2 : IsTupOf2 g2 TO x1 x2 := hT2
    replace hs2 : Heap.SameBut TO p2 g2 := hs2
    refine wpAny_bind (wpAny_letGo (wpAny_pure (wpAny_pure ?_)))
    refine wpAny_bind (wpAny_seqItems (s := ⟨g2, g, d, tk2, os⟩) hT2 rfl ?_)
    refine wpAny_bind (wpAny_newTuple ?_)
    have hsz : g2.objs.size = hp.objs.size := by rw [hs2.1, hp2.1, hs1.1, hp1.1, hs0.1]
    have hzz : ZipO g2 z TI TO .ellipsis f := (hs2.extBut _ _ S.TOz.symm (hp2.extBut _ _ S.zi2 (hs1.extBut _ _ S.TOz.symm (hp1.extBut _ _ S.zi1 hz0))))
    have hkk : ∀ c o, c ≠ z → c ≠ TO → c ≠ i1 → c ≠ i2 → hp.get? c = some o → g2.get? c = some o := fun c o cz cT c1 c2 e =>
      (hs2.extBut _ _ cT (hp2.extBut _ _ c2 (hs1.extBut _ _ cT (hp1.extBut _ _ c1 (hs0.extBut _ _ cz e)))))
    have hj1 : St1 (i + 1) g2 := (D1.over (D1.over (D1.over sn1 hs1 S.Tf1) hp2 S.sep2_1) hs2 S.Tf1)
    have hj2 : St2 (i + 1) g2 := (D2.over sn2 hs2 S.Tf2)
    have hzlt : z < g2.objs.size := Heap.lt_size hzz
    show wpAny _ _ (Builtin.SmallTypes.ownedTupleHandOut (.ref z) (.ref g2.objs.size) >>= _) _ _ ⟨g2.push { cls := .type "tuple", data := .seq #[x1, x2] }, g, d, tk2, os⟩
    refine wpAny_bind ?_
    unfold Builtin.SmallTypes.ownedTupleHandOut
    have hz₆ : ZipO (g2.push { cls := .type "tuple", data := .seq #[x1, x2] }) z TI TO .ellipsis f := Heap.get?_push_of_some _ hzz
    refine wpAny_bind (wpAny_setField_rec hz₆ (by simp) fun h₇ hz₇ hs₇ => ?_)
    replace hz₇ : ZipO h₇ z TI TO (rawInt g2.objs.size) f := hz₇
    refine wpAny_setField_rec hz₇ (by simp) fun h₈ hz₈ hs₈ => ?_
    replace hz₈ : ZipO h₈ z TI TO (rawInt g2.objs.size) false := hz₈
    replace hs₇ : Heap.SameBut z (g2.push { cls := .type "tuple", data := .seq #[x1, x2] }) h₇ := hs₇
    replace hs₈ : Heap.SameBut z h₇ h₈ := hs₈
    have up : ∀ c o, c ≠ z → g2.get? c = some o → h₈.get? c = some o := fun c o c1 e => hs₈.extBut _ _ c1 (hs₇.extBut _ _ c1 (Heap.get?_push_of_some _ e))
    have hT₈ : IsTupOf2 h₈ g2.objs.size x1 x2 := hs₈.extBut _ _ (Nat.ne_of_gt hzlt) (hs₇.extBut _ _ (Nat.ne_of_gt hzlt) (Heap.get?_push_size _ rfl))
    have hz8 : h₈.objs.size = g2.objs.size + 1 := by rw [hs₈.1, hs₇.1, Heap.size_push]
    rw [hsz] at hz₈ hT₈ hz8
    refine wpAny_pure ⟨_, rfl, ?_⟩
    show Q (.ref g2.objs.size) ⟨h₈, g, d, tk2, os⟩
    rw [hsz]
    exact hQ x1 x2 h₈ tk2 hx1 hx2 ⟨_, false, .inr ⟨_, rfl⟩, hz₈⟩ ⟨_, _, up _ _ S.TOz hT2⟩ (D1.frame _ _ _ hj1 fun b hb o e => up b o (fun q => S.zf1 (q ▸ hb)) e) (D2.frame _ _ _ hj2 fun b hb o e => up b o (fun q => S.zf2 (q ▸ hb)) e) hT₈ hz8 fun c o cz cT c1 c2 e => up c o cz (hkk c o cz cT c1 c2 e)
theorem mp_zip_end {Q : Fin → Shared → Prop} (S : ZipSep2 z TI TO i1 i2 fp1 fp2) (D1 : Draws prog w A i1 fp1 n1 P1 St1) (D2 : Draws prog w A i2 fp2 n2 P2 St2)
    (hz : ZipAny s.heap z TI TO) (hTI : IsTupOf2 s.heap TI (.ref i1) (.ref i2)) (hTO : ∃ a1 a2, IsTupOf2 s.heap TO a1 a2) (st1 : St1 i s.heap) (st2 : St2 i s.heap) (hle1 : i ≤ n1) (hle2 : i ≤ n2) (hend : i = n1 ∨ i = n2)
    (hE : ∀ h' tk e, (∀ c o, c ≠ z → c ≠ TO → c ≠ i1 → c ≠ i2 → s.heap.get? c = some o → h'.get? c = some o) → (∃ o, h'.get? e = some o ∧ o.cls = .type "StopIteration") → E (.ref e) { s with heap := h', toks := tk }) :
    wpAny (model prog w) A (Builtin.«zip.__next__» ⟨[.ref z], []⟩) Q E s := by
  obtain ⟨hp, g, d, tk0, os⟩ := s
  obtain ⟨v0, f, hv, hz⟩ := hz
  obtain ⟨a1, a2, hTO⟩ := hTO
  show wpAny _ _ (field (.ref z) 2 >>= _) _ _ _
  refine wpAny_bind (wpAny_field hz rfl (x := .bool false) rfl ?_)
  show wpAny _ _ (field (.ref z) 3 >>= _) _ _ _
  refine wpAny_bind (wpAny_field hz rfl (x := .ref TI) rfl ?_)
  refine wpAny_bind (wpAny_seqItems hTI rfl ?_)
  show wpAny _ _ (Builtin.SmallTypes.ownedTupleIsFree (.ref z) >>= _) _ _ _
  refine wpAny_bind (mp_isFree hv hz ?free fun h₁ hz₁ hs₁ => ?held)
  case held =>
    replace hs₁ : Heap.SameBut z hp h₁ := hs₁
    simp only [Bool.false_eq_true, if_false]
    refine wpAny_bind ?_
    rw [← Array.forIn_toList]
    simp only [List.forIn_cons, List.forIn_nil]
    refine wpAny_bind (wpAny_bind (wpAny_holding ?_))
    show wpAny _ _ (Builtin.SmallTypes.nextOf (.ref i1) >>= _) _ _ ⟨h₁, g, d, tk0, os⟩
    by_cases hlt1 : i < n1
    · refine wpAny_bind (D1.item i _ _ _ hlt1 (D1.over st1 hs₁ S.zf1) fun x1 p1 tk1 hx1 sn1 hp1 => wpAny_pure ?_)
      replace hp1 : Heap.SameBut i1 h₁ p1 := hp1
      refine wpAny_pure ?_
      have hi2 : i = n2 := by omega
      refine wpAny_bind (wpAny_bind (wpAny_holding ?_))
      show wpAny _ _ (Builtin.SmallTypes.nextOf (.ref i2) >>= _) _ _ ⟨p1, g, d, tk1, os⟩
      refine wpAny_bind (D2.done ⟨p1, g, d, tk1, os⟩ _ _ (by rw [← hi2]; exact D2.over (D2.over st2 hs₁ S.zf2) hp1 S.sep1_2) fun q e hq he => ?_)
      replace hq : Heap.ExtBut i2 p1 q := hq
      exact hE q tk1 e (fun c o cz cT c1 c2 x => hq _ _ c2 (hp1.extBut _ _ c1 (hs₁.extBut _ _ cz x))) he
    · have hi1 : i = n1 := by omega
      refine wpAny_bind (D1.done ⟨h₁, g, d, tk0, os⟩ _ _ (by rw [← hi1]; exact D1.over st1 hs₁ S.zf1) fun q e hq he => ?_)
      replace hq : Heap.ExtBut i1 h₁ q := hq
      exact hE q tk0 e (fun c o cz cT c1 c2 x => hq _ _ c1 (hs₁.extBut _ _ cz x)) he
  case free =>
    simp only [if_true]
    refine wpAny_bind (wpAny_rule ?_)
    refine wpAny_bind (wpAny_field hz rfl (x := .ref TO) rfl ?_)
    refine wpAny_bind (wpAny_setField_rec hz (by simp) fun g0 hz0 hs0 => ?_)
    replace hz0 : ZipO g0 z TI TO .ellipsis f := hz0
    replace hs0 : Heap.SameBut z hp g0 := hs0
    refine wpAny_bind ?_
    simp only [List.zipIdx_cons, List.zipIdx_nil, List.forIn_cons, List.forIn_nil]
    refine wpAny_bind (wpAny_bind (wpAny_onRaise ?_))
    show wpAny _ _ (Builtin.SmallTypes.nextOf (.ref i1) >>= _) _ _ ⟨g0, g, d, tk0, os⟩
    by_cases hlt1 : i < n1
    · refine wpAny_bind (D1.item i _ _ _ hlt1 (D1.over st1 hs0 S.zf1) fun x1 p1 tk1 hx1 sn1 hp1 => wpAny_pure ?_)
      replace hp1 : Heap.SameBut i1 g0 p1 := hp1
      have hU1 : IsTupOf2 p1 TO a1 a2 := hp1.extBut _ _ S.Ti1 (hs0.extBut _ _ S.TOz hTO)
      refine wpAny_bind (wpAny_seqItems (s := ⟨p1, g, d, tk1, os⟩) hU1 rfl ?_)
      refine wpAny_bind (updateSeq_IsTupOf2 (s := ⟨p1, g, d, tk1, os⟩) hU1 fun g1 hT1 hs1 => ?_)
      replace hT1 : IsTupOf2 g1 TO x1 a2 := hT1
      replace hs1 : Heap.SameBut TO p1 g1 := hs1
      refine wpAny_bind (wpAny_letGo (wpAny_pure ?_))
      have hi2 : i = n2 := by omega
      refine wpAny_bind (wpAny_bind (wpAny_onRaise ?_))
      show wpAny _ _ (Builtin.SmallTypes.nextOf (.ref i2) >>= _) _ _ ⟨g1, g, d, tk1, os⟩
      refine wpAny_bind (D2.done ⟨g1, g, d, tk1, os⟩ _ _ (by rw [← hi2]; exact (D2.over (D2.over (D2.over st2 hs0 S.zf2) hp1 S.sep1_2) hs1 S.Tf2)) fun q e hq he => ?_)
      replace hq : Heap.ExtBut i2 g1 q := hq
      obtain ⟨oe, hoe, hce⟩ := he
      replace hoe : q.get? e = some oe := hoe
      have hzq : ZipO q z TI TO .ellipsis f := hq _ _ S.zi2 (hs1.extBut _ _ S.TOz.symm (hp1.extBut _ _ S.zi1 hz0))
      have hez : e ≠ z := fun x => by subst x; rw [hzq] at hoe; cases hoe; simp at hce
      refine wpAny_setField_rec (s := ⟨q, g, d, tk1, os⟩) hzq (by simp) fun q' _ hq' => ?_
      replace hq' : Heap.SameBut z q q' := hq'
      exact hE q' tk1 e (fun c o cz cT c1 c2 x => hq'.extBut _ _ cz (hq _ _ c2 (hs1.extBut _ _ cT (hp1.extBut _ _ c1 (hs0.extBut _ _ cz x))))) ⟨oe, hq'.extBut _ _ hez hoe, hce⟩
    · have hi1 : i = n1 := by omega
      refine wpAny_bind (D1.done ⟨g0, g, d, tk0, os⟩ _ _ (by rw [← hi1]; exact (D1.over st1 hs0 S.zf1)) fun q e hq he => ?_)
      replace hq : Heap.ExtBut i1 g0 q := hq
      obtain ⟨oe, hoe, hce⟩ := he
      replace hoe : q.get? e = some oe := hoe
      have hzq : ZipO q z TI TO .ellipsis f := hq _ _ S.zi1 hz0
      have hez : e ≠ z := fun x => by subst x; rw [hzq] at hoe; cases hoe; simp at hce
      refine wpAny_setField_rec (s := ⟨q, g, d, tk0, os⟩) hzq (by simp) fun q' _ hq' => ?_
      replace hq' : Heap.SameBut z q q' := hq'
      exact hE q' tk0 e (fun c o cz cT c1 c2 x => hq'.extBut _ _ cz (hq _ _ c1 (hs0.extBut _ _ cz x))) ⟨oe, hq'.extBut _ _ hez hoe, hce⟩
theorem mp_nextOf_item {Q : Value → Shared → Prop} (S : ZipSep2 z TI TO i1 i2 fp1 fp2) (D1 : Draws prog w A.in1 i1 fp1 n1 P1 St1) (D2 : Draws prog w A.in1 i2 fp2 n2 P2 St2)
    (hz : ZipAny s.heap z TI TO) (hTI : IsTupOf2 s.heap TI (.ref i1) (.ref i2)) (hTO : ∃ a1 a2, IsTupOf2 s.heap TO a1 a2) (st1 : St1 i s.heap) (st2 : St2 i s.heap) (hlt1 : i < n1) (hlt2 : i < n2)
    (hQ : ∀ x1 x2 h' tk, P1 i x1 → P2 i x2 → ZipAny h' z TI TO → (∃ a1 a2, IsTupOf2 h' TO a1 a2) → St1 (i + 1) h' → St2 (i + 1) h' → IsTupOf2 h' s.heap.objs.size x1 x2 → h'.objs.size = s.heap.objs.size + 1 →
      (∀ c o, c ≠ z → c ≠ TO → c ≠ i1 → c ≠ i2 → s.heap.get? c = some o → h'.get? c = some o) → Q (.ref s.heap.objs.size) { s with heap := h', toks := tk }) :
    wpAny (model prog w) A (Builtin.SmallTypes.nextOf (.ref z)) Q E s := by
  have hT : s.TypeIs (.ref z) "zip" := by
    obtain ⟨v0, f, _, h⟩ := hz
    exact ⟨_, h, rfl⟩
  unfold Builtin.SmallTypes.nextOf
  exact wpAny_bind (wpAny_callSpecial?_slot (name := Str.ofString "__next__") hT F.slot_zip_next
    (wpAny_call_entry F.slot_zip_next hT F.entry_zip_next (mp_zip_item S D1 D2 hz hTI hTO st1 st2 hlt1 hlt2 fun x1 x2 h' tk y1 y2 b1 b2 d1 d2 b5 b6 b7 => wpAny_pure (hQ x1 x2 h' tk y1 y2 b1 b2 d1 d2 b5 b6 b7)) (F.args_zip_next_1 _)))
theorem mp_nextOf_end {Q : Value → Shared → Prop} (S : ZipSep2 z TI TO i1 i2 fp1 fp2) (D1 : Draws prog w A.in1 i1 fp1 n1 P1 St1) (D2 : Draws prog w A.in1 i2 fp2 n2 P2 St2)
    (hz : ZipAny s.heap z TI TO) (hTI : IsTupOf2 s.heap TI (.ref i1) (.ref i2)) (hTO : ∃ a1 a2, IsTupOf2 s.heap TO a1 a2) (st1 : St1 i s.heap) (st2 : St2 i s.heap) (hle1 : i ≤ n1) (hle2 : i ≤ n2) (hend : i = n1 ∨ i = n2)
    (hE : ∀ h' tk e, (∀ c o, c ≠ z → c ≠ TO → c ≠ i1 → c ≠ i2 → s.heap.get? c = some o → h'.get? c = some o) → (∃ o, h'.get? e = some o ∧ o.cls = .type "StopIteration") → E (.ref e) { s with heap := h', toks := tk }) :
    wpAny (model prog w) A (Builtin.SmallTypes.nextOf (.ref z)) Q E s := by
  have hT : s.TypeIs (.ref z) "zip" := by
    obtain ⟨v0, f, _, h⟩ := hz
    exact ⟨_, h, rfl⟩
  unfold Builtin.SmallTypes.nextOf
  exact wpAny_bind (wpAny_callSpecial?_slot (name := Str.ofString "__next__") hT F.slot_zip_next
    (wpAny_call_entry F.slot_zip_next hT F.entry_zip_next (mp_zip_end S D1 D2 hz hTI hTO st1 st2 hle1 hle2 hend hE) (F.args_zip_next_1 _)))
end
end PySem
namespace PySem
open Sem (wp)
section
variable {prog : Program} {w : World} {A : Around} {E : Value → Shared → Prop} {s : Shared} {e z TI TO i1 i2 : Addr} {fp1 fp2 : List Addr} {n1 n2 i : Nat} {c : Int} {P1 P2 : Nat → Value → Prop} {St1 St2 : Nat → Heap → Prop}
theorem mp_enumz_item {old : Value} {Q : Value → Shared → Prop} (S : ZipSep2 z TI TO i1 i2 fp1 fp2) (D1 : Draws prog w A.in1 i1 fp1 n1 P1 St1) (D2 : Draws prog w A.in1 i2 fp2 n2 P2 St2)
    (ez : e ≠ z) (eI : e ≠ TI) (eO : e ≠ TO) (e1 : e ∉ fp1) (e2 : e ∉ fp2) (he : IsEnum s.heap e z c old)
    (hz : ZipAny s.heap z TI TO) (hTI : IsTupOf2 s.heap TI (.ref i1) (.ref i2)) (hTO : ∃ a1 a2, IsTupOf2 s.heap TO a1 a2) (st1 : St1 i s.heap) (st2 : St2 i s.heap) (hlt1 : i < n1) (hlt2 : i < n2)
    (hQ : ∀ x1 x2 h' tk, P1 i x1 → P2 i x2 → IsEnumOut h' e z (c + 1) (.ref s.heap.objs.size) (s.heap.objs.size + 1) → ZipAny h' z TI TO → (∃ a1 a2, IsTupOf2 h' TO a1 a2) → St1 (i + 1) h' → St2 (i + 1) h' → IsTupOf2 h' s.heap.objs.size x1 x2 →
      h'.get? (s.heap.objs.size + 1) = some { cls := .type "tuple", data := .seq #[.int c tk, .ref s.heap.objs.size] } → h'.objs.size = s.heap.objs.size + 2 →
      (∀ b o, b ≠ e → b ≠ z → b ≠ TO → b ≠ i1 → b ≠ i2 → s.heap.get? b = some o → h'.get? b = some o) → Q (.ref (s.heap.objs.size + 1)) { s with heap := h', toks := tk + 1 }) :
    wpAny (model prog w) A (Builtin.«enumerate.__next__» ⟨[.ref e], []⟩) (fun fin s' => ∃ v, fin = .done (.ret v) ∧ Q v s') E s := by
  have ei1 : e ≠ i1 := fun q => e1 (by rw [q]; exact S.mem1)
  have ei2 : e ≠ i2 := fun q => e2 (by rw [q]; exact S.mem2)
  obtain ⟨hp, g, d, tk₀, os⟩ := s
  show wpAny _ _ (field (.ref e) 2 >>= _) _ _ _
  refine wpAny_bind (wpAny_field he rfl (x := .ref z) rfl ?_)
  refine wpAny_bind (mp_nextOf_item S D1 D2 hz hTI hTO st1 st2 hlt1 hlt2 fun x1 x2 h₁ tk q1 q2 hz₁ hO₁ hj1 hj2 hT₁ hn₁ hk₁ => ?_)
  replace hT₁ : IsTupOf2 h₁ hp.objs.size x1 x2 := hT₁
  replace hn₁ : h₁.objs.size = hp.objs.size + 1 := hn₁
  have hel : e < hp.objs.size := Heap.lt_size he
  have he₁ : IsEnum h₁ e z c old := hk₁ e _ ez eO ei1 ei2 he
  show wpAny _ _ (field (.ref e) 3 >>= _) _ _ ⟨h₁, g, d, tk, os⟩
  refine wpAny_bind (wpAny_field he₁ rfl (x := rawInt c) rfl ?_)
  show wpAny _ _ (field (.ref e) 4 >>= _) _ _ ⟨h₁, g, d, tk, os⟩
  refine wpAny_bind (wpAny_field he₁ rfl (x := .none) rfl ?_)
  show wpAny _ _ (mkInt c >>= _) _ _ ⟨h₁, g, d, tk, os⟩
  refine wpAny_bind (wpAny_mkInt ?_)
  show wpAny _ _ (setField (.ref e) 3 (rawInt (c + 1)) >>= _) _ _ ⟨h₁, g, d, tk + 1, os⟩
  refine wpAny_bind (wpAny_setField_rec he₁ (by simp) fun h₂ he₂ hs₂ => ?_)
  replace hs₂ : Heap.SameBut e h₁ h₂ := hs₂
  replace he₂ : IsEnum h₂ e z (c + 1) old := he₂
  show wpAny _ _ (setField (.ref e) 4 .none >>= _) _ _ ⟨h₂, g, d, tk + 1, os⟩
  refine wpAny_bind (wpAny_setField_rec he₂ (by simp) fun h₃ he₃ hs₃ => ?_)
  replace hs₃ : Heap.SameBut e h₂ h₃ := hs₃
  replace he₃ : IsEnum h₃ e z (c + 1) old := he₃
  show wpAny _ _ (newTuple [.int c tk, .ref hp.objs.size] >>= _) _ _ ⟨h₃, g, d, tk + 1, os⟩
  refine wpAny_bind (wpAny_newTuple ?_)
  have he₄ : IsEnum (h₃.push { cls := .type "tuple", data := .seq #[.int c tk, .ref hp.objs.size] }) e z (c + 1) old := Heap.get?_push_of_some _ he₃
  generalize hh₄ : h₃.push { cls := .type "tuple", data := .seq #[.int c tk, .ref hp.objs.size] } = h₄ at he₄
  have hsz : h₃.objs.size = hp.objs.size + 1 := by rw [hs₃.1, hs₂.1, hn₁]
  have ht₄ : h₄.get? (hp.objs.size + 1) = some { cls := .type "tuple", data := .seq #[.int c tk, .ref hp.objs.size] } := by rw [← hh₄, ← hsz]; exact Heap.get?_push_size _ rfl
  have hz₄ : h₄.objs.size = hp.objs.size + 2 := by rw [← hh₄, Heap.size_push, hsz]
  have up₄ : ∀ b o, b ≠ e → h₁.get? b = some o → h₄.get? b = some o := fun b o hbe hb => by
    rw [← hh₄]; exact Heap.get?_push_of_some _ (hs₃.extBut b o hbe (hs₂.extBut b o hbe hb))
  show wpAny _ _ (Builtin.SmallTypes.ownedTupleIsFree (.ref e) >>= _) _ _ ⟨h₄, g, d, tk + 1, os⟩
  rw [hsz]
  refine wpAny_bind ?_
  · unfold Builtin.SmallTypes.ownedTupleIsFree
    refine wpAny_bind (wpAny_field he₄ rfl (x := .none) rfl (wpAny_pure ?_))
    simp only [if_true]
    refine wpAny_bind (wpAny_rule ?_)
    refine wpAny_bind (wpAny_field he₄ rfl (x := old) rfl ?_)
    refine wpAny_bind (wpAny_setField_rec he₄ (by simp) fun h₅ he₅ hs₅ => ?_)
    replace hs₅ : Heap.SameBut e h₄ h₅ := hs₅
    replace he₅ : IsEnum h₅ e z (c + 1) (.ref hp.objs.size) := he₅
    show wpAny _ _ (Builtin.SmallTypes.ownedTupleHandOut (.ref e) (.ref (hp.objs.size + 1)) >>= _) _ _ ⟨h₅, g, d, tk + 1, os⟩
    refine wpAny_bind ?_
    · unfold Builtin.SmallTypes.ownedTupleHandOut
      refine wpAny_bind (wpAny_setField_rec he₅ (by simp) fun h₆ he₆ hs₆ => ?_)
      replace hs₆ : Heap.SameBut e h₅ h₆ := hs₆
      replace he₆ : IsEnumOut h₆ e z (c + 1) (.ref hp.objs.size) (hp.objs.size + 1) := he₆
      refine wpAny_setField_rec he₆ (by simp) fun h₇ he₇ hs₇ => ?_
      replace hs₇ : Heap.SameBut e h₆ h₇ := hs₇
      replace he₇ : IsEnumOut h₇ e z (c + 1) (.ref hp.objs.size) (hp.objs.size + 1) := he₇
      have up₇ : ∀ b o, b ≠ e → h₄.get? b = some o → h₇.get? b = some o := fun b o hbe y => hs₇.extBut b o hbe (hs₆.extBut b o hbe (hs₅.extBut b o hbe y))
      have up : ∀ b o, b ≠ e → h₁.get? b = some o → h₇.get? b = some o := fun b o hbe y => up₇ b o hbe (up₄ b o hbe y)
      refine wpAny_bind (wpAny_letGo (wpAny_pure ⟨_, rfl, hQ x1 x2 h₇ tk q1 q2 he₇ ?_ ?_ ?_ ?_ ?_ ?_ ?_ ?_⟩))
      · obtain ⟨v0, f, hv, hzz⟩ := hz₁
        exact ⟨v0, f, hv, up _ _ ez.symm hzz⟩
      · obtain ⟨a1, a2, h⟩ := hO₁
        exact ⟨a1, a2, up _ _ eO.symm h⟩
      · exact D1.frame _ _ _ hj1 fun b hb o y => up b o (fun q => e1 (q ▸ hb)) y
      · exact D2.frame _ _ _ hj2 fun b hb o y => up b o (fun q => e2 (q ▸ hb)) y
      · exact up _ _ (Nat.ne_of_gt hel) hT₁
      · exact up₇ _ _ (Nat.ne_of_gt (Nat.lt_succ_of_lt hel)) ht₄
      · rw [hs₇.1, hs₆.1, hs₅.1, hz₄]
      · exact fun b o be bz bT b1 b2 hb => up b o be (hk₁ b o bz bT b1 b2 hb)
theorem mp_goes_enumz {elts : List Expr} {x1 : Nat} {pos : Pos} (S : ZipSep2 z TI TO i1 i2 fp1 fp2) (D1 : Draws prog w A.in1.in1 i1 fp1 n1 P1 St1) (D2 : Draws prog w A.in1.in1 i2 fp2 n2 P2 St2)
    (ez : e ≠ z) (eI : e ≠ TI) (eO : e ≠ TO) (e1 : e ∉ fp1) (e2 : e ∉ fp2) {i : Nat} {Q : Value → Shared → Prop} (he : ∃ old, IsEnum s.heap e z ((i : Nat) : Int) old)
    (hz : ZipAny s.heap z TI TO) (hTI : IsTupOf2 s.heap TI (.ref i1) (.ref i2)) (hTO : ∃ a1 a2, IsTupOf2 s.heap TO a1 a2) (st1 : St1 i s.heap) (st2 : St2 i s.heap) (hlt1 : i < n1) (hlt2 : i < n2)
    (hQ : ∀ x1 x2 h' tk t, P1 i x1 → P2 i x2 → (∃ old, IsEnum h' e z (((i + 1 : Nat)) : Int) old) → ZipAny h' z TI TO → (∃ a1 a2, IsTupOf2 h' TO a1 a2) → St1 (i + 1) h' → St2 (i + 1) h' → IsTupOf2 h' s.heap.objs.size x1 x2 →
      h'.get? (s.heap.objs.size + 1) = some { cls := .type "tuple", data := .seq #[.int ((i : Nat) : Int) t, .ref s.heap.objs.size] } →
      (∀ b o, b ≠ e → b ≠ z → b ≠ TO → b ≠ i1 → b ≠ i2 → s.heap.get? b = some o → h'.get? b = some o) → Q (.ref (s.heap.objs.size + 1)) { s with heap := h', toks := tk }) :
    wpAny (model prog w) A (pyNext (.ref e)) (fun r s₁ => ∃ v, r = some v ∧ wpAny (model prog w) A (letOwnedTupleGo (.Tuple elts x1 pos) (.ref e) v) (fun _ s₂ => Q v s₂) E s₁) E s := by
  obtain ⟨old, he⟩ := he
  have hT : s.TypeIs (.ref e) "enumerate" := ⟨_, he, rfl⟩
  have hel : e < s.heap.objs.size := Heap.lt_size he
  unfold pyNext
  refine wpAny_bind (wpAny_attempt (wpAny_callSpecial?_slot (name := Str.ofString "__next__") hT F.slot_enumerate_next
    (wpAny_call_entry F.slot_enumerate_next hT F.entry_enumerate_next
      (mp_enumz_item S D1 D2 ez eI eO e1 e2 he hz hTI hTO st1 st2 hlt1 hlt2 fun x1 x2 h' tk q1 q2 ho hz' hO' hj1 hj2 hT1 hT2 hsz hk => wpAny_pure ?_) (F.args_enumerate_next_1 _))))
  refine ⟨_, rfl, wpAny_letOwnedTupleGo_enum ho fun h'' he' hs' => ?_⟩
  replace hs' : Heap.SameBut e h' h'' := hs'
  have up : ∀ b o, b ≠ e → h'.get? b = some o → h''.get? b = some o := fun b o hb y => hs'.extBut b o hb y
  refine hQ x1 x2 h'' (tk + 1) tk q1 q2 ⟨_, by rw [show ((i + 1 : Nat) : Int) = (i : Int) + 1 by omega]; exact he'⟩ ?_ ?_ ?_ ?_ ?_ ?_ ?_
  · obtain ⟨v0, f, hv, hzz⟩ := hz'
    exact ⟨v0, f, hv, up _ _ ez.symm hzz⟩
  · obtain ⟨a1, a2, h⟩ := hO'
    exact ⟨a1, a2, up _ _ eO.symm h⟩
  · exact D1.frame _ _ _ hj1 fun b hb o y => up b o (fun q => e1 (q ▸ hb)) y
  · exact D2.frame _ _ _ hj2 fun b hb o y => up b o (fun q => e2 (q ▸ hb)) y
  · exact up _ _ (Nat.ne_of_gt hel) hT1
  · exact up _ _ (Nat.ne_of_gt (Nat.lt_succ_of_lt hel)) hT2
  · exact fun b o be bz bT b1 b2 hb => up b o be (hk b o be bz bT b1 b2 hb)
theorem mp_ends_enumz {S' : Shared → Prop} (S : ZipSep2 z TI TO i1 i2 fp1 fp2) (D1 : Draws prog w A.in1.in1 i1 fp1 n1 P1 St1) (D2 : Draws prog w A.in1.in1 i2 fp2 n2 P2 St2) {i : Nat} {c : Int} (he : ∃ old, IsEnum s.heap e z c old)
    (hz : ZipAny s.heap z TI TO) (hTI : IsTupOf2 s.heap TI (.ref i1) (.ref i2)) (hTO : ∃ a1 a2, IsTupOf2 s.heap TO a1 a2) (st1 : St1 i s.heap) (st2 : St2 i s.heap) (hle1 : i ≤ n1) (hle2 : i ≤ n2) (hend : i = n1 ∨ i = n2)
    (hQ : ∀ h' tk, (∀ b o, b ≠ z → b ≠ TO → b ≠ i1 → b ≠ i2 → s.heap.get? b = some o → h'.get? b = some o) → S' { s with heap := h', toks := tk }) :
    wpAny (model prog w) A (pyNext (.ref e)) (fun r s₁ => r = none ∧ S' s₁) E s := by
  obtain ⟨old, he⟩ := he
  have hT : s.TypeIs (.ref e) "enumerate" := ⟨_, he, rfl⟩
  unfold pyNext
  refine wpAny_bind (wpAny_attempt (wpAny_callSpecial?_slot (name := Str.ofString "__next__") hT F.slot_enumerate_next
    (wpAny_call_entry F.slot_enumerate_next hT F.entry_enumerate_next ?_ (F.args_enumerate_next_1 _))))
  show wpAny _ _ (field (.ref e) 2 >>= _) _ _ _
  refine wpAny_bind (wpAny_field he rfl (x := .ref z) rfl ?_)
  refine wpAny_bind (mp_nextOf_end S D1 D2 hz hTI hTO st1 st2 hle1 hle2 hend fun h' tk x hk hx' => ?_)
  obtain ⟨o, ho, hc⟩ := hx'
  refine wpAny_bind (wpAny_isInstance (T := "StopIteration") (b := true) ⟨o, ho, hc⟩ isSubtype_stop ?_)
  exact wpAny_pure ⟨rfl, hQ h' tk hk⟩
end
end PySem
namespace MP
open PySem PySem.Spec PyProof.Rows L2
variable [LamT]
def ItEZ (K : PySem.W.Frag) (l m : Bool) (a b : Addr) : It :=
  ⟨fun i H => ∃ (xs ys : List V) (x y : V), SqK K l H a xs ∧ SqK K m H b ys ∧ xs[i]? = some x ∧ ys[i]? = some y,
    fun i H v H' => ∃ T0 T x y, v = .ref T ∧ H T0 = none ∧ H T = none ∧ T ≠ T0 ∧ H' = upd (upd H T0 (.tup [x, y])) T (.tup [.int (i : Nat), .ref T0]) ∧ (∀ xs, SqK K l H a xs → xs[i]? = some x) ∧ ∀ ys, SqK K m H b ys → ys[i]? = some y,
    fun i H => ∃ xs ys : List V, SqK K l H a xs ∧ SqK K m H b ys ∧ min xs.length ys.length = i⟩
theorem turn_enumz {P : Program} {w : World} {K : PySem.W.Frag} {elts : List Expr} {kk : Nat} {tpos : Pos} {l m : Bool} {a b e z TI TO i1 i2 : Addr} (S : ZipSep2 z TI TO i1 i2 [i1, a] [i2, b]) (na : a ≠ i1) (nb : b ≠ i2)
    (ez : e ≠ z) (eI : e ≠ TI) (eO : e ≠ TO) (e1 : e ∉ [i1, a]) (e2 : e ∉ [i2, b]) :
    Turn P w K (.Tuple elts kk tpos) (ItEZ K l m a b) [e, z, TI, TO, i1, i2] e (fun i h => (∃ old, IsEnum h e z ((i : Nat) : Int) old) ∧ ZipAny h z TI TO ∧ IsTupOf2 h TI (.ref i1) (.ref i2) ∧ (∃ x y, IsTupOf2 h TO x y) ∧ IsItK l h i1 a i ∧ IsItK m h i2 b i) where
  mem := by simp
  obj := fun i h st c hc => by
    obtain ⟨⟨old, he⟩, ⟨v0, f, _, hz⟩, hTI, ⟨x, y, hTO⟩, h1, h2⟩ := st
    have e' : c = e ∨ c = z ∨ c = TI ∨ c = TO ∨ c = i1 ∨ c = i2 := by simpa using hc
    rcases e' with q | q | q | q | q | q
    · rw [q]; exact ⟨_, he, fun v q => nomatch q⟩
    · rw [q]; exact ⟨_, hz, fun v q => nomatch q⟩
    · rw [q]; exact ⟨_, hTI, fun v q => nomatch q⟩
    · rw [q]; exact ⟨_, hTO, fun v q => nomatch q⟩
    · rw [q]; exact h1.obj
    · rw [q]; exact h2.obj
  keep := fun i h h' st k => by
    obtain ⟨⟨old, he⟩, ⟨v0, f, hv, hz⟩, hTI, ⟨x, y, hTO⟩, h1, h2⟩ := st
    exact ⟨⟨old, k e (by simp) _ he⟩, ⟨v0, f, hv, k z (by simp) _ hz⟩, k TI (by simp) _ hTI, ⟨x, y, k TO (by simp) _ hTO⟩, h1.at fun o q => k i1 (by simp) o q, h2.at fun o q => k i2 (by simp) o q⟩
  item := by
    intro X hP hw hK hc i pins s σ H E I hf st hg
    subst hP hw hK
    obtain ⟨he, hz, hTI, hTO, h1, h2⟩ := st
    obtain ⟨xs, ys, x, y, hqx, hqy, hx, hy⟩ := hg
    obtain ⟨its, rv, p⟩ := seqK I hqx
    obtain ⟨its2, rv2, p2⟩ := seqK I hqy
    obtain ⟨u, hu, ru⟩ := rv.get hx
    obtain ⟨u2, hu2, ru2⟩ := rv2.get hy
    have D1 := drawsK (prog := X.prog) (w := X.w) (A := X.A.in1.in1) l (I.ok.hd hc) i1 a na its.toArray
    have D2 := drawsK (prog := X.prog) (w := X.w) (A := X.A.in1.in1) m (I.ok.hd hc) i2 b nb its2.toArray
    have l1 := (List.getElem?_eq_some_iff.mp hu).1
    have l2 := (List.getElem?_eq_some_iff.mp hu2).1
    have small : ∀ c ∈ [e, z, TI, TO, i1, i2], c < s.heap.objs.size := fun c hcm => by
      have e' : c = e ∨ c = z ∨ c = TI ∨ c = TO ∨ c = i1 ∨ c = i2 := by simpa using hcm
      obtain ⟨x0, y0, hTO'⟩ := hTO
      obtain ⟨old, he'⟩ := he
      obtain ⟨v0, f, _, hz'⟩ := hz
      rcases e' with q | q | q | q | q | q
      · rw [q]; exact Heap.lt_size he'
      · rw [q]; exact Heap.lt_size hz'
      · rw [q]; exact Heap.lt_size hTI
      · rw [q]; exact Heap.lt_size hTO'
      · rw [q]; obtain ⟨_, e1, _⟩ := h1.obj; exact Heap.lt_size e1
      · rw [q]; obtain ⟨_, e2, _⟩ := h2.obj; exact Heap.lt_size e2
    refine mp_goes_enumz (elts := elts) (x1 := kk) (pos := tpos) S D1 D2 ez eI eO e1 e2 he hz hTI hTO ⟨h1, p⟩ ⟨h2, p2⟩ (by simpa using l1) (by simpa using l2) fun v1 v2 h' tk t g1 g2 he' hz' hO' st1 st2 hT0 hT hk => ?_
    have q1 : u = v1 := by
      rw [List.getElem?_toArray, hu] at g1
      exact Option.some.inj g1
    have q2 : u2 = v2 := by
      rw [List.getElem?_toArray, hu2] at g2
      exact Option.some.inj g2
    subst q1 q2
    have new0 : ObjOk X.prog X.w (upd H s.heap.objs.size (.tup [x, y])) h' s.heap.objs.size (.tup [x, y]) :=
      ⟨by show 2 ≤ sizeLine; decide, [u, u2], .cons ru (.cons ru2 .nil), ⟨_, hT0, rfl, _, rfl⟩⟩
    have I1 : Inv X pins σ (upd H s.heap.objs.size (.tup [x, y])) { s with heap := h', toks := tk } :=
      I.turnedNew (ch := [e, z, TI, TO, i1, i2]) (fun c ob hb q => hk c ob (fun q' => hb (by simp [q'])) (fun q' => hb (by simp [q'])) (fun q' => hb (by simp [q'])) (fun q' => hb (by simp [q'])) (fun q' => hb (by simp [q'])) q) hf (Nat.le_refl _) new0
    have fr0 : H s.heap.objs.size = none := I.hok.fresh (Nat.le_refl _)
    have fr1 : H (s.heap.objs.size + 1) = none := I.hok.fresh (Nat.le_succ _)
    have ne : s.heap.objs.size + 1 ≠ s.heap.objs.size := Nat.succ_ne_self _
    have new1 : ObjOk X.prog X.w (upd (upd H s.heap.objs.size (.tup [x, y])) (s.heap.objs.size + 1) (.tup [.int (i : Nat), .ref s.heap.objs.size])) h' (s.heap.objs.size + 1) (.tup [.int (i : Nat), .ref s.heap.objs.size]) :=
      ⟨by show 2 ≤ sizeLine; decide, [.int i t, .ref s.heap.objs.size], .cons ⟨_, rfl⟩ (.cons rfl .nil), ⟨_, hT, rfl, _, rfl⟩⟩
    have I2 : Inv X pins σ (upd (upd H s.heap.objs.size (.tup [x, y])) (s.heap.objs.size + 1) (.tup [.int (i : Nat), .ref s.heap.objs.size])) { s with heap := h', toks := tk } :=
      I1.take (h' := h') (t' := tk) (fun b ob _ q => q) (I.fpOk (H' := upd H s.heap.objs.size (.tup [x, y])) (Nat.le_succ _) (by rw [upd_ne ne]; exact fr1)) new1
    refine ⟨.ref (s.heap.objs.size + 1), _, I2, rfl, ⟨s.heap.objs.size, s.heap.objs.size + 1, x, y, rfl, fr0, fr1, ne, rfl, fun l hl => by rw [seqK_inj I hl hqx]; exact hx, fun l hl => by rw [seqK_inj I hl hqy]; exact hy⟩, ⟨he', hz', ?_, hO', st1.1, st2.1⟩, fun c hcm => ?_⟩
    · exact hk TI _ eI.symm S.TIz S.TITO S.TIi1 S.TIi2 hTI
    · have := small c hcm
      rw [upd_ne (Nat.ne_of_lt (Nat.lt_succ_of_lt this)), upd_ne (Nat.ne_of_lt this)]
      exact (hf c hcm).1
  done := by
    intro X hP hw hK hc i pins s σ H E I hf st hg
    subst hP hw hK
    obtain ⟨he, hz, hTI, hTO, h1, h2⟩ := st
    obtain ⟨xs, ys, hqx, hqy, hend⟩ := hg
    obtain ⟨its, rv, p⟩ := seqK I hqx
    obtain ⟨its2, rv2, p2⟩ := seqK I hqy
    have l1 := rv.length
    have l2 := rv2.length
    have D1 := drawsK (prog := X.prog) (w := X.w) (A := X.A.in1.in1) l (I.ok.hd hc) i1 a na its.toArray
    have D2 := drawsK (prog := X.prog) (w := X.w) (A := X.A.in1.in1) m (I.ok.hd hc) i2 b nb its2.toArray
    refine mp_ends_enumz S D1 D2 (i := i) he hz hTI hTO ⟨h1, p⟩ ⟨h2, p2⟩ (by simp; omega) (by simp; omega) (by simp; omega) fun h' tk hk => I.turnedL (t' := tk) (ch := [e, z, TI, TO, i1, i2]) (fun c ob hb q => hk c ob (fun q' => hb (by simp [q'])) (fun q' => hb (by simp [q'])) (fun q' => hb (by simp [q'])) (fun q' => hb (by simp [q'])) q) hf
  self := fun A i s Q E st h => let ⟨⟨_, he⟩, _⟩ := st; wpAny_pyIter_enum he h
end MP
namespace PySem
open Sem (wp)
theorem mp_enumz_new {z TI TO : Addr} :
    Meets (Builtin.«enumerate.__new__» ⟨[.type "enumerate", .ref z], []⟩) (fun _ R s => IsZip s.heap z TI TO .none ∧
      R (.ok (.ret (.ref s.heap.objs.size))) { s with heap := s.heap.push { cls := .type "enumerate", data := .fields #[.none, .bool false, .ref z, rawInt 0, .none, .none] } }) :=
  .of_wp fun prog w A R s h => by
    obtain ⟨hp, g, d, tk, os⟩ := s; obtain ⟨h1, h⟩ := h
    have hsub := sub_enumerate
    have q1 : ∀ {A' : Around} {E : Value → Shared → Prop} {Q : Value → Shared → Prop}, Q (.ref z) ⟨hp, g, d, tk, os⟩ → wpAny (model prog w) A' (pyIter (.ref z)) Q E ⟨hp, g, d, tk, os⟩ :=
      fun q => wpAny_pyIter_zip h1 q
    wp_walk using q1
    refine wpAny_stack_any fun st => wpAny_pure ?_
    split
    · rename_i c _ _ _ _ _
      cases (c == Value.type "enumerate")
      · wp_walk using q1
        exact ⟨_, rfl, h⟩
      · wp_walk using q1
        exact ⟨_, rfl, h⟩
    · wp_walk using q1
      exact ⟨_, rfl, h⟩
section
variable {prog : Program} {w : World} {A : Around} {E : Value → Shared → Prop} {s : Shared}
theorem mp_enumz_begins {z TI TO : Addr} {Q : Value → Shared → Prop} (hz : IsZip s.heap z TI TO .none)
    (h : ∀ h', IsEnum h' s.heap.objs.size z 0 .none → h'.objs.size = s.heap.objs.size + 1 → (∀ b o, s.heap.get? b = some o → h'.get? b = some o) → Q (.ref s.heap.objs.size) { s with heap := h' }) :
    wpAny (model prog w) A (call (.type "enumerate") [.ref z]) Q E s := by
  refine callType_new F.called_enumerate (by decide) (F.typeCall_enumerate_1 _) (F.newCall_enumerate_1 _) (fun obj => F.args_object_init_2 obj _) F.entry_enumerate_new
    (mp_enumz_new (z := z) (TI := TI) (TO := TO)) ⟨hz, ?_⟩
  have he : IsEnum (s.heap.push { cls := .type "enumerate", data := .fields #[.none, .bool false, .ref z, rawInt 0, .none, .none] }) s.heap.objs.size z 0 .none := Heap.get?_push_size _ rfl
  refine ⟨⟨_, he, rfl⟩, h _ he (Heap.size_push ..) fun b o x => Heap.get?_push_of_some _ x⟩
end
end PySem
namespace MP
open PySem PySem.Spec PyProof.Rows L2
def rEnumZ (K : PySem.W.Frag) : RI := fun vs H R => ∃ (l m : Bool) (a b : Addr) (xs ys : List V), vs = [.ref a, .ref b] ∧ SqK K l H a xs ∧ SqK K m H b ys ∧ R (ItEZ K l m a b) H
theorem pi_enumZ {X : Cx} {e e2 : Expr} {ta : TA} {p p' pos pos' tpos : Pos} {elts : List Expr} {kk : Nat} (hg : Gl X "enumerate") (hm : X.mg "enumerate" = none) (hg' : Gl X "zip") (hm' : X.mg "zip" = none) (ha : PA X [e, e2] ta)
    (hs : starEach [e, e2] X.env = (false, eval e X.env) :: starEach [e2] X.env := by rfl) (hpl : (backTo pos' (starEach [e2] X.env)).any (·.1) = false := by rfl) :
    PI X (.Tuple elts kk tpos) (.Call (.Name "enumerate" p) [.Call (.Name "zip" p') [e, e2] [] pos'] [] pos) (tI (rEnumZ X.K) ta) := by
  refine ⟨fun pins s σ H R I h => ?_⟩
  refine Call_ (ld_blt I hg hm boot_enumerate (PyProof.Rows.callWith_type1 (Calls.spliced_cons ?_) rfl rfl))
  refine Call_ (ld_blt I hg' hm' PyProof.Rows.boot_zip (PyProof.Rows.callWith_type1 (thn (ha.run pos' pins s σ H _ I h) fun us s1 ⟨vs, H1, I1, r1, q1⟩ => ?_) hs hpl))
  obtain ⟨l, m, a, b, xs, ys, ex, hqx, hqy, q⟩ := q1
  subst ex
  cases r1 with
  | cons r rr =>
    cases rr with
    | cons r' rr =>
      cases rr
      cases r
      cases r'
      obtain ⟨its, rv, p1⟩ := seqK I1 hqx
      obtain ⟨its2, rv2, p2⟩ := seqK I1 hqy
      have la := p1.lt
      have lb := p2.lt
      refine zip_begins2 (beginsK l a its.toArray) (beginsK m b its2.toArray) p1 p2 fun h' hz hTI hTO h1 h2 hsz hk => Calls.spliced_nil ?_
      refine mp_enumz_begins (s := { s1 with heap := h' }) hz fun h2' he hsz2 hk2 => wpAny_pyIter_enum he ?_
      replace hsz2 : h2'.objs.size = h'.objs.size + 1 := hsz2
      replace hk2 : ∀ b o, h'.get? b = some o → h2'.get? b = some o := hk2
      have hN : h'.objs.size = s1.heap.objs.size + 5 := hsz
      have I2 : Inv X pins σ H1 { s1 with heap := h2' } := I1.kept (t' := s1.toks) fun b o e => hk2 b o (hk b o e)
      have ne : ∀ c : Nat, c < h'.objs.size → h'.objs.size ≠ c := fun c hc => Nat.ne_of_gt hc
      refine ⟨h'.objs.size, [h'.objs.size, s1.heap.objs.size + 4, s1.heap.objs.size + 2, s1.heap.objs.size + 3, s1.heap.objs.size, s1.heap.objs.size + 1], _, _, H1, rfl, I2,
        turn_enumz (zip_sep2 (fp1 := [a]) (fp2 := [b]) (fun c hc => by rw [List.mem_singleton.mp hc]; exact la) (fun c hc => by rw [List.mem_singleton.mp hc]; exact lb)) (Nat.ne_of_lt la) (Nat.ne_of_lt (Nat.lt_succ_of_lt lb)) (ne _ ?_) (ne _ ?_) (ne _ ?_) ?_ ?_,
        ⟨⟨.none, he⟩, ⟨_, _, .inl rfl, hk2 _ _ hz⟩, hk2 _ _ hTI, ⟨_, _, hk2 _ _ hTO⟩, (IsItK.zero h1).at fun o q => hk2 _ o q, (IsItK.zero h2).at fun o q => hk2 _ o q⟩, fun c hcm => ?_, q⟩
      · rw [hN]; show s1.heap.objs.size + 4 < s1.heap.objs.size + 5; omega
      · rw [hN]; show s1.heap.objs.size + 2 < s1.heap.objs.size + 5; omega
      · rw [hN]; show s1.heap.objs.size + 3 < s1.heap.objs.size + 5; omega
      · intro hmem
        have : h'.objs.size = s1.heap.objs.size ∨ h'.objs.size = a := by simpa using hmem
        rw [hN] at this
        have la' : a < s1.heap.objs.size := la
        rcases this with z | z
        · exact absurd z (Nat.ne_of_gt (Nat.lt_add_of_pos_right (by decide)))
        · exact absurd z (Nat.ne_of_gt (Nat.lt_of_lt_of_le la' (Nat.le_add_right _ _)))
      · intro hmem
        have : h'.objs.size = s1.heap.objs.size + 1 ∨ h'.objs.size = b := by simpa using hmem
        rw [hN] at this
        have lb' : b < s1.heap.objs.size := lb
        rcases this with z | z
        · exact absurd z (by show ¬ (s1.heap.objs.size + 5 = s1.heap.objs.size + 1); omega)
        · exact absurd z (Nat.ne_of_gt (Nat.lt_of_lt_of_le lb' (Nat.le_add_right _ _)))
      · have e' : c = h'.objs.size ∨ c = s1.heap.objs.size + 4 ∨ c = s1.heap.objs.size + 2 ∨ c = s1.heap.objs.size + 3 ∨ c = s1.heap.objs.size ∨ c = s1.heap.objs.size + 1 := by simpa using hcm
        have hle : s1.heap.objs.size ≤ c := by
          rcases e' with z | z | z | z | z | z
          · rw [z, hN]; exact Nat.le_add_right _ _
          · rw [z]; exact Nat.le_add_right _ _
          · rw [z]; exact Nat.le_add_right _ _
          · rw [z]; exact Nat.le_add_right _ _
          · rw [z]; exact Nat.le_refl _
          · rw [z]; exact Nat.le_add_right _ _
        exact I1.fpOk hle (I1.hok.fresh hle)
section
variable {K : PySem.W.Frag}
theorem walk_enumz {l m : Bool} {a b : Addr} {xs ys : List V} {ds es : List PyData} {G : Hp} (q : SqK K l G a xs) (h : DtAll K G ds xs) (q2 : SqK K m G b ys) (h2 : DtAll K G es ys) : WalkD K (ItEZ K l m a b) (enumD (zipD ds es)) G := by
  have l1 := h.len
  have l2 := h2.len
  have ll : (enumD (zipD ds es)).length = min xs.length ys.length := by rw [enumD_len]; unfold zipD; rw [List.length_zipWith, l1, l2]
  refine ⟨fun i H hi le => ?_, fun H le => ⟨xs, ys, sqK_mono le q, sqK_mono le q2, by rw [ll]⟩, fun i H x H' d G2 e g le y => ?_⟩
  · rw [ll] at hi
    exact ⟨xs, ys, xs[i]'(by omega), ys[i]'(by omega), sqK_mono le q, sqK_mono le q2, by simp [show i < xs.length by omega], by simp [show i < ys.length by omega]⟩
  · obtain ⟨T0, T, v, w, rfl, hT0, hT, hne, rfl, y1, y2⟩ := y
    obtain ⟨e0, he0, rfl⟩ := enumD_get e
    obtain ⟨c, d', e1, e2, rfl⟩ := zipD_get he0
    obtain ⟨v', e3, hd3⟩ := h.get e1
    obtain ⟨w', e4, hd4⟩ := h2.get e2
    have l : Le G H := fun a o z => le a o (g a o z)
    have z1 := y1 xs (sqK_mono l q)
    have z2 := y2 ys (sqK_mono l q2)
    rw [e3] at z1
    rw [e4] at z2
    cases z1
    cases z2
    obtain ⟨G3, st, hd⟩ := pair_step le hT0 (Dt.mono g _ _ hd3) (Dt.mono g _ _ hd4)
    have hT' : upd H T0 (.tup [v, w]) T = none := by rw [upd_ne hne]; exact hT
    obtain ⟨G4, st2, hd2⟩ := pair_step (a := .int i) (x := .int i) st.le hT' dtInt hd
    exact ⟨G4, st.trans st2, hd2⟩
@[simp] def hEnumZ : List PyData → Option (List PyData)
  | [x, y] => match seqD x, seqD y with
    | some xs, some ys => some (enumD (zipD xs ys))
    | _, _ => none
  | _ => none
theorem id_enumZ : ItD K (rEnumZ K) hEnumZ := by
  intro ds vs G H le hd is e R k
  unfold hEnumZ at e
  split at e
  · rename_i x y
    split at e
    · rename_i xs ys e1 e2
      cases e
      obtain ⟨v, w, rfl, h1, h2⟩ := dt2 hd
      obtain ⟨l, a, us, rfl, q, r⟩ := dt_seq h1 e1
      obtain ⟨m, b, ws, rfl, q2, r2⟩ := dt_seq h2 e2
      exact ⟨l, m, a, b, us, ws, rfl, sqK_mono le q, sqK_mono le q2, k _ (walk_enumz q r q2 r2)⟩
    · cases e
  · cases e
end
end MP
namespace MP
open PySem PySem.Spec PyProof.Rows L2
variable [LamT]
section
variable {X : Cx} {pins : List (Addr × Obj)} {σ : L2.St} {H : Hp} {s : Shared}
mutual
theorem dt_reads (I : Inv X pins σ H s) {G : Hp} (le : Le G H) : ∀ (d : PyData) (v : V) (u : Value), Dt X.K G d v → RelV v u → ∃ as, Reads s.heap u d as
  | .none, v, u, h, r => by
    simp only [Dt] at h
    subst h
    cases r
    exact ⟨_, .none⟩
  | .bool b, v, u, h, r => by
    simp only [Dt] at h
    subst h
    cases r
    exact ⟨_, .bool b⟩
  | .int i, v, u, h, r => by
    simp only [Dt] at h
    subst h
    obtain ⟨t, rfl⟩ := r
    exact ⟨_, .int i t⟩
  | .str z, v, u, h, r => by
    simp only [Dt] at h
    subst h
    obtain ⟨t, rfl⟩ := r
    exact ⟨_, .str z t⟩
  | .list ds, v, u, h, r => by
    simp only [Dt] at h
    obtain ⟨a, xs, rfl, q, hd⟩ := h
    cases r
    obtain ⟨its, rv, o, e, hc, n, hdat⟩ := seqK (l := true) I (show SqK X.K true H a xs from .inl (rd_mono le q))
    obtain ⟨as, ra⟩ := dts_reads I le ds xs its hd rv
    exact ⟨_, .list e hc hdat (by simpa using ra)⟩
  | .tuple ds, v, u, h, r => by
    simp only [Dt] at h
    obtain ⟨a, xs, rfl, q, hd⟩ := h
    cases r
    obtain ⟨its, rv, o, e, hc, n, hdat⟩ := seqK (l := false) I (show SqK X.K false H a xs from sqT_mono le q)
    obtain ⟨as, ra⟩ := dts_reads I le ds xs its hd rv
    exact ⟨_, .tuple e hc hdat (by simpa using ra)⟩
  | .dict _, v, u, h, _ => by
    simp only [Dt] at h
theorem dts_reads (I : Inv X pins σ H s) {G : Hp} (le : Le G H) : ∀ (ds : List PyData) (vs : List V) (us : List Value), DtAll X.K G ds vs → Vals vs us → ∃ as, ReadsAll s.heap us ds as
  | [], vs, us, h, r => by
    simp only [DtAll] at h
    subst h
    cases r
    exact ⟨_, .nil⟩
  | d :: ds, vs, us, h, r => by
    simp only [DtAll] at h
    obtain ⟨v, r', rfl, h1, h2⟩ := h
    cases r with
    | cons r1 r2 =>
      obtain ⟨as, a1⟩ := dt_reads I le d v _ h1 r1
      obtain ⟨bs, a2⟩ := dts_reads I le ds r' _ h2 r2
      exact ⟨_, .cons a1 a2⟩
end
end
mutual
theorem reads_lt {h : Heap} : ∀ {v : Value} {d : PyData} {as : List Addr}, Reads h v d as → ∀ a ∈ as, a < h.objs.size
  | _, _, _, .none, a, ha => by cases ha
  | _, _, _, .bool _, a, ha => by cases ha
  | _, _, _, .int _ _, a, ha => by cases ha
  | _, _, _, .str _ _, a, ha => by cases ha
  | _, _, _, .list e _ _ r, a, ha => by
    rcases List.mem_cons.mp ha with rfl | ha
    · exact Heap.lt_size e
    · exact readsAll_lt r a ha
  | _, _, _, .tuple _ _ _ r, a, ha => readsAll_lt r a ha
  | _, _, _, .dict e _ _ r1 r2, a, ha => by
    rcases List.mem_cons.mp ha with rfl | ha
    · exact Heap.lt_size e
    · rcases List.mem_append.mp ha with ha | ha
      · exact readsAll_lt r1 a ha
      · exact readsAll_lt r2 a ha
theorem readsAll_lt {h : Heap} : ∀ {vs : List Value} {ds : List PyData} {as : List Addr}, ReadsAll h vs ds as → ∀ a ∈ as, a < h.objs.size
  | _, _, _, .nil, a, ha => by cases ha
  | _, _, _, .cons r1 r2, a, ha => by
    rcases List.mem_append.mp ha with ha | ha
    · exact reads_lt r1 a ha
    · exact readsAll_lt r2 a ha
end
def leD : PyData → PyData → Bool := PySem.W.dataLe false fun d => d
def sortD (ds : List PyData) : List PyData := ds.mergeSort leD
def tupB : PyData → Bool
  | .tuple (_ :: _) => true
  | _ => false
def othB : PyData → Bool
  | .none => false
  | .tuple _ => false
  | _ => true
def sortOk (ds : List PyData) : Bool := ds.all (fun d => ds.all fun e => PySem.W.alike d e) && (ds.all tupB || ds.all othB) && ds.all (fun d => decide (d.depth ≤ 50)) && decide (ds.length ≤ 1000000)
theorem sortOk_of {ds : List PyData} (h : sortOk ds = true) : PySem.W.AllAlike (ds.map fun d => d) ∧ PySem.W.Sortable (ds.map fun d => d) ∧ (∀ d ∈ ds, d.depth ≤ 50) ∧ ds.length ≤ 1000000 := by
  simp only [sortOk, Bool.and_eq_true, List.all_eq_true, decide_eq_true_eq, Bool.or_eq_true] at h
  obtain ⟨⟨⟨h1, h2⟩, h3⟩, h4⟩ := h
  rw [List.map_id']
  refine ⟨fun d hd e he => h1 d hd e he, ?_, h3, h4⟩
  rcases h2 with h2 | h2
  · refine .inl fun d hd => ?_
    have := h2 d hd
    cases d with
    | tuple xs =>
      cases xs with
      | nil => cases this
      | cons x r => exact ⟨x, r, rfl⟩
    | _ => cases this
  · refine .inr fun d hd => ?_
    have := h2 d hd
    cases d with
    | none => cases this
    | tuple xs => cases this
    | _ => exact ⟨fun z => (by cases z), fun xs z => (by cases z)⟩
def RV (K : PySem.W.Frag) (G : Hp) (u : Value) (d : PyData) : Prop := ∃ x, RelV x u ∧ Dt K G d x
theorem each_of {K : PySem.W.Frag} {G : Hp} : ∀ {ds : List PyData} {vs : List V} {us : List Value}, DtAll K G ds vs → Vals vs us → PySem.W.EachIs (RV K G) us ds
  | [], vs, us, h, r => by
    simp only [DtAll] at h
    subst h
    cases r
    exact .nil
  | d :: ds, vs, us, h, r => by
    simp only [DtAll] at h
    obtain ⟨v, r', rfl, h1, h2⟩ := h
    cases r with
    | cons r1 r2 => exact .cons ⟨v, r1, h1⟩ (each_of h2 r2)
theorem each_to {K : PySem.W.Frag} {G : Hp} : ∀ {ds : List PyData} {us : List Value}, PySem.W.EachIs (RV K G) us ds → ∃ vs, Vals vs us ∧ DtAll K G ds vs
  | [], _, .nil => ⟨[], .nil, by simp only [DtAll]⟩
  | d :: ds, _, .cons ⟨v, r1, h1⟩ t => by
    obtain ⟨vs, r, h⟩ := each_to t
    refine ⟨v :: vs, .cons r1 r, ?_⟩
    simp only [DtAll]
    exact ⟨v, vs, rfl, h1, h⟩
theorem each_reads {h : Heap} {a : Addr} : ∀ {ds : List PyData} {us : List Value} {as : List Addr}, ReadsAll h us ds as → (∀ b ∈ as, b < h.objs.size) → h.objs.size ≤ a → ∀ {h' : Heap}, (∀ b o, h.get? b = some o → h'.get? b = some o) →
    PySem.W.EachIs (fun v b => ∃ as, Reads h' v b as ∧ a ∉ as) us ds
  | [], _, _, .nil, _, _, _, _ => .nil
  | d :: ds, _, _, .cons (as := bs) (bs := cs) r1 r2, hb, ha, h', hk => by
    refine .cons ⟨_, PyProof.Rows.Reads.keeps hk r1, fun z => ?_⟩ (each_reads r2 (fun b hb' => hb b (List.mem_append_right _ hb')) ha hk)
    have := hb a (List.mem_append_left _ z)
    exact absurd this (Nat.not_lt.mpr ha)
def rSorted (K : PySem.W.Frag) : RN := fun xs H Q => ∃ (p : Addr) (l : Bool) (ys : List V) (ds : List PyData) (G : Hp), xs = [.ref p] ∧ SqK K l H p ys ∧ Le G H ∧ DtAll K G ds ys ∧ sortOk ds = true ∧ ∀ q ws, H q = none → DtAll K G (sortD ds) ws → Q (.ref q) (upd H q (.lst ws))
theorem sort_vals {X : Cx} {pins : List (Addr × Obj)} {σ : L2.St} {H : Hp} {s : Shared} (I : Inv X pins σ H s) (hu : X.A.units + 60 < cLine) {G : Hp} {ds : List PyData} {ys : List V} {its : List Value} {Q : VK} (le : Le G H) (hd : DtAll X.K G ds ys) (rv : Vals ys its) (hs : sortOk ds = true)
    (q : ∀ q ws, H q = none → DtAll X.K G (sortD ds) ws → Q (.ref q) (upd H q (.lst ws))) {E : Value → Shared → Prop} :
    wpAny (model X.prog X.w) X.A.in1 (call (.builtin "list.sort") [.ref s.heap.objs.size]) (fun _ s' => EP X pins σ Q (.ref s.heap.objs.size) s') E { s with heap := s.heap.push { cls := .type "list", data := .seq its.toArray } } := by
  obtain ⟨h1, h2, h3, h4⟩ := sortOk_of hs
  have hN : (s.heap.push { cls := .type "list", data := .seq its.toArray }).get? s.heap.objs.size = some (seqObj "list" its.toArray 0) := Heap.get?_push_size _ rfl
  have up : ∀ b o, s.heap.get? b = some o → (s.heap.push { cls := .type "list", data := .seq its.toArray }).get? b = some o := fun b o e => Heap.get?_push_of_some _ e
  obtain ⟨as, ra⟩ := dts_reads I le ds ys its hd rv
  have sl : ds.length ≤ sizeLine := by rw [sizeLine_eq]; omega
  refine PySem.W.list_sort_data (s := { s with heap := s.heap.push { cls := .type "list", data := .seq its.toArray } }) (R := RV X.K G) (enc := fun d => d) (vs := its) (bs := ds) hN (each_of hd rv) (each_reads ra (readsAll_lt ra) (Nat.le_refl _) up) h1 h2 sl (fun b hb => ?_) fun out ho eo => ?_
  · have := h3 b hb
    show X.A.in1.units + 1 + b.depth < cLine
    have e : X.A.in1.units = X.A.units + 1 := rfl
    omega
  · obtain ⟨ws, rw', hw⟩ := each_to eo
    obtain ⟨c, hc⟩ := sortedHeap_at (vs := its) (out := out.toArray) hN
    have hold : ∀ b o, s.heap.get? b = some o → (sortedHeap (s.heap.push { cls := .type "list", data := .seq its.toArray }) s.heap.objs.size its out.toArray).get? b = some o := fun b o e => by
      have hb := Heap.lt_size e
      rw [sortedHeap_old (Nat.ne_of_lt hb) (by rw [Heap.size_push]; exact Nat.lt_succ_of_lt hb)]
      exact up b o e
    have new : ObjOk X.prog X.w (upd H s.heap.objs.size (.lst ws)) (sortedHeap (s.heap.push { cls := .type "list", data := .seq its.toArray }) s.heap.objs.size its out.toArray) s.heap.objs.size (.lst ws) := by
      refine ⟨?_, out, c, rw', hc⟩
      have := rw'.length
      rw [this, ho]; exact sl
    exact ⟨.ref s.heap.objs.size, _, I.turnedNew (t' := s.toks) (ch := []) (fun b o _ e => hold b o e) (fun b hb => nomatch hb) (Nat.le_refl _) new, rfl, q _ _ (I.hok.fresh (Nat.le_refl _)) hw⟩
theorem call_sorted {X : Cx} (hu : X.A.units + 60 < cLine) : CallR X (.builtin "sorted") (rSorted X.K) := by
  intro pins s σ H xs us Q I r h
  obtain ⟨p, l, ys, ds, G, rfl, hq, le, hd, hs, q⟩ := h
  cases r with
  | cons r rr =>
    cases rr
    cases r
    obtain ⟨its, rv, hp⟩ := seqK I hq
    have h4 := (sortOk_of hs).2.2.2
    have ll : its.length = ds.length := by rw [← rv.length]; exact hd.len.symm
    have sl : its.length ≤ sizeLine := by rw [sizeLine_eq]; omega
    refine PySem.Calls.call_function_entry kind_sorted plain_sorted entry_sorted (args_sorted1 _) ?_
    unfold Builtin.«sorted»
    refine wpAny_bind (m := checkCount "sorted" 1 1 _) (wpAny_pure ?_)
    obtain ⟨T, o, n, hT, ho, hc, hdat⟩ : ∃ (T : String) (o : Obj) (n : Nat), (T = "list" ∨ T = "tuple") ∧ s.heap.get? p = some o ∧ o.cls = .type T ∧ o.data = .seq its.toArray n := by
      cases l with
      | true =>
        obtain ⟨o, e, hc, n, hd⟩ := hp
        exact ⟨"list", o, n, .inl rfl, e, hc, hd⟩
      | false =>
        obtain ⟨o, e, hc, n, hd⟩ := hp
        exact ⟨"tuple", o, n, .inr rfl, e, hc, hd⟩
    refine wpAny_bind (wpAny_collect_seq p hT ho hc hdat (fun h' hk => ?_) (by simpa using sl))
    have I1 : Inv X pins σ H { s with heap := h' } := I.kept (t' := s.toks) hk
    show wpAny _ _ (newList its >>= _) _ _ _
    refine wpAny_bind (wpAny_newList ?_ sl)
    refine wpAny_bind (wpAny_holding (wpAny_mono (sort_vals I1 hu le hd rv hs q) (fun _ s' x => ?_) fun _ _ e => e))
    exact wpAny_pure ⟨_, rfl, x⟩
end MP
namespace MP
open PySem L2
variable [LamT]
section
variable {K : PySem.W.Frag} {np : Nat}
open Classical in
noncomputable def lockS {α : Type} (i : Nat) (m : Sl → Option (α × Sl)) : Sl → Option (α × Sl) := fun ρ => match ρ[i]? with
  | some (some (.ls ys)) => (m (ρ.set i (some (.lk .non ys)))).bind fun p => match p.2[i]? with
    | some (some (.lk _ ys')) => if ∀ v, m (ρ.set i (some (.lk v ys))) = some (p.1, p.2.set i (some (.lk v ys'))) then some (p.1, p.2.set i (some (.ls ys'))) else none
    | _ => none
  | _ => m ρ
theorem lockS_some {α : Type} {i : Nat} {m : Sl → Option (α × Sl)} {ρ ρ' : Sl} {ys : List Vl} {x : α} (h : ρ[i]? = some (some (.ls ys))) (e : lockS i m ρ = some (x, ρ')) :
    ∃ (ρ1 : Sl) (ys' : List Vl), i < ρ1.length ∧ ρ' = ρ1.set i (some (.ls ys')) ∧ ∀ v, m (ρ.set i (some (.lk v ys))) = some (x, ρ1.set i (some (.lk v ys'))) := by
  unfold lockS at e
  rw [h] at e
  obtain ⟨⟨y, ρ1⟩, e1, e⟩ := bind_some e
  simp only at e
  split at e
  · rename_i v ys' q
    split at e
    · rename_i hv
      simp only [Option.some.injEq, Prod.mk.injEq] at e
      obtain ⟨rfl, rfl⟩ := e
      exact ⟨ρ1, ys', (List.getElem?_eq_some_iff.mp q).1, rfl, hv⟩
    · cases e
  · cases e
theorem lockS_not {α : Type} {i : Nat} {m : Sl → Option (α × Sl)} {ρ : Sl} (h : ∀ ys, ρ[i]? ≠ some (some (.ls ys))) : lockS i m ρ = m ρ := by
  unfold lockS
  split
  · rename_i ys q
    exact absurd q (h ys)
  · rfl
theorem OwnE.nameS {G H : Hp} {ρ : Sl} {σ : St} {F : FP} {i : Nat} {ys : List Vl} (h : OwnE K G H ρ σ F) (e : ρ[i]? = some (some (.ls ys))) : ∃ v, OwnE K G H (ρ.set i (some (.lk v ys))) σ F := by
  obtain ⟨v, F1, F2, h1, h2, h3, f⟩ := h.take e
  have hi : (ρ.set i none)[i]? = some none := by
    rw [List.getElem?_set_self]
    exact (List.getElem?_eq_some_iff.mp e).1
  have ho : Own K G H (.lk v ys) v F1 := by
    simp only [Own] at h2 ⊢
    exact ⟨trivial, h2⟩
  have h4 := h3.put hi h1 ho
  rw [List.set_set] at h4
  exact ⟨v, h4.congr fun a => by rw [f]⟩
theorem OwnE.unnameS {G H : Hp} {ρ : Sl} {σ : St} {F : FP} {i : Nat} {ys : List Vl} {v : V} (hl : i < ρ.length) (h : OwnE K G H (ρ.set i (some (.lk v ys))) σ F) : OwnE K G H (ρ.set i (some (.ls ys))) σ F := by
  obtain ⟨w, F1, F2, h1, h2, h3, f⟩ := h.take (List.getElem?_set_self hl)
  rw [List.set_set] at h3
  have hi : (ρ.set i none)[i]? = some none := List.getElem?_set_self hl
  have ho : Own K G H (.ls ys) w F1 := by
    simp only [Own] at h2 ⊢
    exact h2.2
  have h4 := h3.put hi h1 ho
  rw [List.set_set] at h4
  exact h4.congr fun a => by rw [f]
theorem ss_lockS {i : Nat} {t : TS} {m : MS} (h : SimS K np t m) : SimS K np t (lockS i m) := by
  intro σ ρ F G H hE ok x ρ' e D p
  by_cases hl : ∃ ys, ρ[i]? = some (some (.ls ys))
  · obtain ⟨ys, hl⟩ := hl
    obtain ⟨ρ1, ys', q, rfl, hv⟩ := lockS_some hl e
    obtain ⟨v, hN⟩ := hE.nameS hl
    refine h σ _ F G H hN ok x _ (hv v) D ?_
    cases x with
    | nx => intro σ' F' G' H' a b c d; exact p σ' F' G' H' a (OwnE.unnameS q b) c d
    | bk => intro σ' F' G' H' a b c d; exact p σ' F' G' H' a (OwnE.unnameS q b) c d
    | ct => intro σ' F' G' H' a b c d; exact p σ' F' G' H' a (OwnE.unnameS q b) c d
    | rt y => intro v' σ' Fx F' G' H' a o b c d; exact p v' σ' Fx F' G' H' a o (OwnE.unnameS q b) c d
  · rw [lockS_not fun ys z => hl ⟨ys, z⟩] at e
    exact h σ ρ F G H hE ok x ρ' e D p
@[simp] def mItS1 (h : List PyData → List PyData) (i : Nat) : MItG := fun ρ => match ρ[i]? with
  | some (some (.lk v ys)) => (fzL ys).bind fun ds => some (h ds, fun ρ' => ρ'[i]? = some (some (.lk v ys)))
  | _ => none
@[simp] def mItS2 (h : List PyData → List PyData → List PyData) (i j : Nat) : MItG := fun ρ => match ρ[i]?, ρ[j]? with
  | some (some (.lk v ys)), some (some (.lk w zs)) => (fzL ys).bind fun ds => (fzL zs).bind fun es => some (h ds es, fun ρ' => ρ'[i]? = some (some (.lk v ys)) ∧ ρ'[j]? = some (some (.lk w zs)))
  | _, _ => none
theorem lc_ofS {G H : Hp} {ρ : Sl} {σ : St} {F : FP} {i : Nat} {v : V} {ys : List Vl} {ds : List PyData} (h : OwnE K G H ρ σ F) (e : ρ[i]? = some (some (.lk v ys))) (hf : fzL ys = some ds) : LC K v ds G H := by
  obtain ⟨w, F1, F2, h1, h2, h3, f⟩ := h.take e
  simp only [Own] at h2
  obtain ⟨rfl, q, vs, F', e1, e2, e3, _⟩ := h2
  exact ⟨q, vs, e1, e2, own_fz e3 hf⟩
theorem named_var {G H : Hp} {ρ : Sl} {σ : St} {F : FP} {i : Nat} {v : V} {ys : List Vl} (h : OwnE K G H ρ σ F) (e : ρ[i]? = some (some (.lk v ys))) : σ[i]? = some (some v) := by
  obtain ⟨w, F1, F2, h1, h2, h3, f⟩ := h.take e
  simp only [Own] at h2
  rw [h1, h2.1]
theorem sig_seqS {i : Nat} : SimItG K (tI (rSeq K) (tCons (tVar i) tNil)) (mItS1 (fun ds => ds) i) := by
  intro σ ρ F G H hE ok ds gd e R kk
  unfold mItS1 at e
  split at e
  · rename_i v ys q
    obtain ⟨es, e1, e⟩ := bind_some e
    simp only [Option.some.injEq, Prod.mk.injEq] at e
    obtain ⟨rfl, rfl⟩ := e
    have hl := lc_ofS hE q e1
    obtain ⟨q', vs, rfl, hs⟩ := hl.sq
    refine ⟨_, named_var hE q, .inl ⟨q', rfl, ⟨vs, hs⟩, ?_⟩⟩
    exact kk _ _ walkc_list fun G2 H2 ρ2 σ2 F2 hE2 hg => lc_ofS hE2 hg e1
  · cases e
theorem sig_zipS {i j : Nat} : SimItG K (tI (rZip K) (tCons (tVar i) (tCons (tVar j) tNil))) (mItS2 zipD i j) := by
  intro σ ρ F G H hE ok ds gd e R kk
  unfold mItS2 at e
  split at e
  · rename_i v ys v2 zs q q2
    obtain ⟨es, e1, e⟩ := bind_some e
    obtain ⟨es2, e2, e⟩ := bind_some e
    simp only [Option.some.injEq, Prod.mk.injEq] at e
    obtain ⟨rfl, rfl⟩ := e
    have hl := lc_ofS hE q e1
    have hl2 := lc_ofS hE q2 e2
    obtain ⟨q', vs, rfl, hs⟩ := hl.sq
    obtain ⟨q2', vs2, rfl, hs2⟩ := hl2.sq
    refine ⟨_, named_var hE q, _, named_var hE q2, q', q2', vs, vs2, rfl, .inl ⟨hs, hs2, ?_⟩⟩
    exact kk _ _ walkc_zip fun G2 H2 ρ2 σ2 F2 hE2 hg => ⟨lc_ofS hE2 hg.1 e1, lc_ofS hE2 hg.2 e2⟩
  · cases e
end
end MP
namespace MP
open PySem L2
variable [LamT]
def keyD : L2.Key → PyData
  | .inl i => .int i
  | .inr x => .str x
def keysD : List PyData → Option (List L2.Key)
  | [] => some []
  | .int i :: r => (keysD r).bind fun ks => some (.inl i :: ks)
  | .str x :: r => (keysD r).bind fun ks => some (.inr x :: ks)
  | _ => none
theorem keysD_map : ∀ {ds : List PyData} {ks : List L2.Key}, keysD ds = some ks → ds = ks.map keyD
  | [], ks, h => by
    simp only [keysD, Option.some.injEq] at h
    subst h
    rfl
  | .int i :: r, ks, h => by
    simp only [keysD] at h
    obtain ⟨ks', e, h⟩ := bind_some h
    cases h
    rw [keysD_map e]
    rfl
  | .str x :: r, ks, h => by
    simp only [keysD] at h
    obtain ⟨ks', e, h⟩ := bind_some h
    cases h
    rw [keysD_map e]
    rfl
  | .none :: _, _, h => by simp [keysD] at h
  | .bool _ :: _, _, h => by simp [keysD] at h
  | .list _ :: _, _, h => by simp [keysD] at h
  | .tuple _ :: _, _, h => by simp [keysD] at h
  | .dict _ :: _, _, h => by simp [keysD] at h
section
variable {K : PySem.W.Frag} {G H : Hp}
theorem dt_keys : ∀ {ks : List L2.Key} {vs : List V}, DtAll K G (ks.map keyD) vs → vs = ks.map kV
  | [], vs, h => by
    simp only [List.map_nil, DtAll] at h
    subst h
    rfl
  | .inl i :: ks, vs, h => by
    simp only [List.map_cons, keyD, DtAll, Dt] at h
    obtain ⟨v, r, rfl, rfl, h2⟩ := h
    rw [dt_keys h2]
    rfl
  | .inr x :: ks, vs, h => by
    simp only [List.map_cons, keyD, DtAll, Dt] at h
    obtain ⟨v, r, rfl, rfl, h2⟩ := h
    rw [dt_keys h2]
    rfl
theorem keys_dt : ∀ (ks : List L2.Key), DtAll K G (ks.map keyD) (ks.map kV)
  | [] => by simp only [List.map_nil, DtAll]
  | .inl i :: ks => by
    simp only [List.map_cons, keyD, DtAll, Dt]
    exact ⟨_, _, rfl, rfl, keys_dt ks⟩
  | .inr x :: ks => by
    simp only [List.map_cons, keyD, DtAll, Dt]
    exact ⟨_, _, rfl, rfl, keys_dt ks⟩
theorem dtkv_len : ∀ {kvs : List (List L2.Key × PyData)} {r : List (List L2.Key × V)}, DtKV K G kvs r → r.length = kvs.length
  | [], r, h => by
    simp only [DtKV] at h
    subst h
    rfl
  | (k, d) :: kvs, r, h => by
    simp only [DtKV] at h
    obtain ⟨v, r', rfl, _, h2⟩ := h
    simp [dtkv_len h2]
theorem dtkv_keys : ∀ {kvs : List (List L2.Key × PyData)} {r : List (List L2.Key × V)}, DtKV K G kvs r → r.map (·.1) = kvs.map (·.1)
  | [], r, h => by
    simp only [DtKV] at h
    subst h
    rfl
  | (k, d) :: kvs, r, h => by
    simp only [DtKV] at h
    obtain ⟨v, r', rfl, _, h2⟩ := h
    simp [dtkv_keys h2]
def putD (kvs : List (List L2.Key × PyData)) (k : List L2.Key) (d : PyData) : List (List L2.Key × PyData) :=
  if (kvs.any fun kv => decide (kv.1 = k)) = true then kvs.map (fun kv => if kv.1 = k then (kv.1, d) else kv) else kvs ++ [(k, d)]
theorem dtkv_snoc : ∀ {kvs : List (List L2.Key × PyData)} {r : List (List L2.Key × V)} {k : List L2.Key} {d : PyData} {v : V}, DtKV K G kvs r → Dt K G d v → DtKV K G (kvs ++ [(k, d)]) (r ++ [(k, v)])
  | [], r, k, d, v, h, hd => by
    simp only [DtKV] at h
    subst h
    simp only [List.nil_append, DtKV]
    exact ⟨v, [], rfl, hd, rfl⟩
  | (k', d') :: kvs, r, k, d, v, h, hd => by
    simp only [DtKV] at h
    obtain ⟨v', r', rfl, h1, h2⟩ := h
    simp only [List.cons_append, DtKV]
    exact ⟨v', _, rfl, h1, dtkv_snoc h2 hd⟩
theorem dtkv_map : ∀ {kvs : List (List L2.Key × PyData)} {r : List (List L2.Key × V)} {k : List L2.Key} {d : PyData} {v : V}, DtKV K G kvs r → Dt K G d v → DtKV K G (kvs.map fun kv => if kv.1 = k then (kv.1, d) else kv) (r.map fun kv => if kv.1 = k then (kv.1, v) else kv)
  | [], r, k, d, v, h, hd => by
    simp only [DtKV] at h
    subst h
    simp only [List.map_nil, DtKV]
  | (k', d') :: kvs, r, k, d, v, h, hd => by
    simp only [DtKV] at h
    obtain ⟨v', r', rfl, h1, h2⟩ := h
    simp only [List.map_cons]
    have ih := dtkv_map (k := k) h2 hd
    by_cases e : k' = k
    · simp only [e, if_true, DtKV]
      exact ⟨v, _, rfl, hd, ih⟩
    · simp only [e, if_false, DtKV]
      exact ⟨v', _, rfl, h1, ih⟩
theorem dtkv_put {kvs : List (List L2.Key × PyData)} {r : List (List L2.Key × V)} {k : List L2.Key} {d : PyData} {v : V} (h : DtKV K G kvs r) (hd : Dt K G d v) : DtKV K G (putD kvs k d) (putK r k v) := by
  have e : (kvs.any fun kv => decide (kv.1 = k)) = r.any fun kv => decide (kv.1 = k) := by
    have q := dtkv_keys h
    have a1 : (kvs.any fun kv => decide (kv.1 = k)) = (kvs.map (·.1)).any fun z => decide (z = k) := by rw [List.any_map]; rfl
    have a2 : (r.any fun kv => decide (kv.1 = k)) = (r.map (·.1)).any fun z => decide (z = k) := by rw [List.any_map]; rfl
    rw [a1, a2, q]
  unfold putD putK
  rw [e]
  split
  · exact dtkv_map h hd
  · exact dtkv_snoc h hd
@[simp] def mDNew : M := fun ρ => some (.dt [], ρ)
theorem sim_dnew : Sim K tDNewT mDNew := by
  intro σ ρ F G H hE ok x ρ' e Q k
  simp only [mDNew, Option.some.injEq, Prod.mk.injEq] at e
  obtain ⟨rfl, rfl⟩ := e
  intro p hp
  obtain ⟨a1, a2, a3⟩ := ok_own (o := .dT []) ok hp
  refine k (.ref p) (one p) F G _ ?_ (OwnE.mono (fun _ _ h => h) _ _ _ hE a3) a1 a2
  simp only [Own]
  exact ⟨p, [], rfl, upd_same, by simp only [DtKV], fun _ => rfl⟩
def rDPut (r : RN) : RN := fun vs H Q => match vs with
  | y :: o :: ks => r ks H fun k H' => ∃ a H4, o = .ref a ∧ DPut H' a k y H4 ∧ Q .non H4
  | _ => False
@[simp] def φDPut (h : HD) : Φ
  | [y, .dt kvs, .fz a, .fz b] => (erase y).bind fun d => match h [a, b] with
    | some (.ntp es) => (keysD es).bind fun ks => if small (kvs.length + 1) then some (.fz .none, [.fz d, .dt (putD kvs ks d), .fz a, .fz b]) else none
    | _ => none
  | _ => none
theorem shD_of {d : PyData} {v : V} (le : Le G H) (h : Dt K G d v) : ShD K G H d v := by
  cases d with
  | list ds =>
    simp only [Dt] at h
    obtain ⟨a, xs, rfl, q, r⟩ := h
    exact ⟨a, xs, rfl, rd_mono le q, r⟩
  | _ => exact h
theorem shAll_of (le : Le G H) : ∀ {ds : List PyData} {vs : List V}, DtAll K G ds vs → ShAll K G H ds vs
  | [], vs, h => by
    simp only [DtAll] at h
    exact h
  | d :: ds, vs, h => by
    simp only [DtAll] at h
    obtain ⟨v, r, rfl, h1, h2⟩ := h
    exact ⟨v, r, rfl, shD_of le h1, shAll_of le h2⟩
theorem os_dput {r : RN} {h : HD} (o : OpD K r h) : OpSem K (rDPut r) (φDPut h) := by
  intro vs xs F G H ho ok x ys e Q k
  unfold φDPut at e
  split at e
  · rename_i y kvs a b
    obtain ⟨d, e1, e⟩ := bind_some e
    split at e
    · rename_i es e2
      obtain ⟨ks, e3, e⟩ := bind_some e
      split at e
      · rename_i hz
        simp only [Option.some.injEq, Prod.mk.injEq] at e
        obtain ⟨rfl, rfl⟩ := e
        obtain ⟨v1, v2, v3, v4, A, B, C, D, rfl, h1, h2, h3, h4, f⟩ := own4 ho
        have c0 := h3.fz0
        have d0 := h4.fz0
        have ok1 : Ok G H (fun a => A a + B a) := ok.congr fun a => by rw [f, c0, d0]; omega
        obtain ⟨ok2, fr2⟩ := thaw_ok ok1
        have hd := Own.frz (thaw_le ok1) y v1 A d h1 e1 thaw_at
        have h2' := Own.mono (thaw_le ok1) _ v2 B h2 fun _ _ => rfl
        have h3' := Dt.mono (thaw_le ok1) _ v3 h3.fzF
        have h4' := Dt.mono (thaw_le ok1) _ v4 h4.fzF
        simp only [Own] at h2'
        obtain ⟨pd, kvs', rfl, hpd, hkv, fB⟩ := h2'
        have hsh : ShAll K (thaw G H A) H [a, b] [v3, v4] := shAll_of ok2.le (by
          simp only [DtAll]
          exact ⟨v3, [v4], rfl, h3', v4, [], rfl, h4', rfl⟩)
        refine o [a, b] [v3, v4] (thaw G H A) H ok2.le hsh (.ntp es) e2 _ fun p ws hp hws => ?_
        have ees := keysD_map e3
        subst ees
        have ews := dt_keys hws
        subst ews
        have npd : pd ≠ p := fun z => by rw [z, hp] at hpd; cases hpd
        obtain ⟨a1, a2, a3⟩ := ok_new (o := .tup (ks.map kV)) ok2 hp
        have hpd' : upd H p (.tup (ks.map kV)) pd = some (.dT kvs') := by rw [upd_ne npd]; exact hpd
        have okp : Ok (upd (thaw G H A) p (.tup (ks.map kV))) (upd H p (.tup (ks.map kV))) (fun a => one pd a + (fun _ => 0 : FP) a) := a1.congr fun a => by rw [fB]; rfl
        obtain ⟨b1, b2, b3⟩ := ok_write (o' := .dT (putK kvs' ks v1)) (F' := fun _ => 0) okp hpd' fun a => Nat.le_refl _
        refine ⟨pd, _, rfl, DPut.t hpd' upd_same (by
          rw [dtkv_len hkv]
          have := small_line hz
          omega), ?_⟩
        have gle : Le (thaw G H A) (upd (thaw G H A) p (.tup (ks.map kV))) := a2.g
        refine k .non (fun _ => 0) (fun a => one pd a) _ _ (Own.ofD dtNone) (mk4 (Own.ofD (Dt.mono gle _ _ hd)) (B := fun a => one pd a) ?_ (Own.ofD (Dt.mono gle _ _ h3')) (Own.ofD (Dt.mono gle _ _ h4')) fun a => by simp) (b1.congr fun a => by simp) ?_
        · simp only [Own]
          exact ⟨pd, _, rfl, upd_same, dtkv_put (DtKV.mono gle _ _ hkv) (Dt.mono gle _ _ hd), fun _ => rfl⟩
        · refine ((((fr2.congr (F1 := F) (fun a => ?_) fun _ => rfl).trans a2).congr (fun _ => rfl) (F2 := fun a => one pd a + (fun _ => 0 : FP) a) fun a => ?_).trans b2).congr (fun _ => rfl) fun a => by simp
          · rw [f, c0, d0]; omega
          · rw [fB]; simp
      · cases e
    · cases e
  · cases e
def keyTs (kvs : List (List L2.Key × PyData)) : List PyData := kvs.map fun kv => .tuple (kv.1.map keyD)
def rSortedD (K : PySem.W.Frag) : RN := fun xs H Q => ∃ (p : Addr) (kvs : List (List L2.Key × PyData)) (kvs' : List (List L2.Key × V)) (G : Hp), xs = [.ref p] ∧ H p = some (.dT kvs') ∧ DtKV K G kvs kvs' ∧ Le G H ∧ (∀ a xs, H a = some (.tup xs) → G a = some (.tup xs)) ∧ sortOk (keyTs kvs) = true ∧
  ∀ q ws, H q = none → DtAll K G (sortD (keyTs kvs)) ws → Q (.ref q) (upd H q (.lst ws))
def rSortedA (K : PySem.W.Frag) : RN := fun xs H Q => rSorted K xs H Q ∨ rSortedD K xs H Q
@[simp] def hSorted : HD
  | [.list ds] => if sortOk ds then some (.nls (sortD ds)) else none
  | [.tuple ds] => if sortOk ds then some (.nls (sortD ds)) else none
  | _ => none
@[simp] def φSorted : Φ := fun xs => match xs with
  | [.dt kvs] => if sortOk (keyTs kvs) then some (.ls ((sortD (keyTs kvs)).map .fz), [.dt kvs]) else none
  | _ => φD hSorted xs
theorem od_sorted : OpD K (rSortedA K) hSorted := by
  intro ds vs G H le hd res e Q k
  unfold hSorted at e
  split at e
  · split at e
    · rename_i hs
      cases e
      obtain ⟨v, rfl, h1⟩ := sh1 hd
      obtain ⟨p, ws, rfl, q1, d1⟩ := shList h1
      exact .inl ⟨p, true, ws, _, G, rfl, .inl q1, le, d1, hs, k⟩
    · cases e
  · split at e
    · rename_i hs
      cases e
      obtain ⟨v, rfl, h1⟩ := sh1 hd
      have h2 : Dt K G (.tuple _) v := h1
      simp only [Dt] at h2
      obtain ⟨p, ws, rfl, q1, d1⟩ := h2
      exact .inl ⟨p, false, ws, _, G, rfl, sqT_mono le q1, le, d1, hs, k⟩
    · cases e
  · cases e
theorem os_sorted : OpSem K (rSortedA K) φSorted := by
  intro vs xs F G H ho ok x ys e Q k
  unfold φSorted at e
  split at e
  · rename_i kvs
    split at e
    · rename_i hs
      simp only [Option.some.injEq, Prod.mk.injEq] at e
      obtain ⟨rfl, rfl⟩ := e
      have ho' := ho
      simp only [OwnAll, Own] at ho'
      obtain ⟨v, r, A, B, rfl, ⟨p, kvs', rfl, hp, hkv, f⟩, ⟨rfl, _⟩, _⟩ := ho'
      refine .inr ⟨p, kvs, kvs', G, rfl, hp, hkv, ok.le, ok.tu, hs, ?_⟩
      exact res_step (res := .nls (sortD (keyTs kvs))) ok (Fr.refl ok) ho k
    · cases e
  · exact opD od_sorted vs xs F G H ho ok x ys e Q k
end
end MP
namespace MP
open PySem PySem.Spec PyProof.Rows L2
theorem keys_of {K : PySem.W.Frag} {G H : Hp} {P : Program} {w : World} (tu : ∀ a xs, H a = some (.tup xs) → G a = some (.tup xs)) : ∀ {kvs : List (List L2.Key × PyData)} {kvs' : List (List L2.Key × V)} {xs : List (List L2.Key × Addr × Value)}, DtKV K G kvs kvs' →
    Paired (fun (p : List L2.Key × V) (q : List L2.Key × Addr × Value) => p.1 = q.1 ∧ H q.2.1 = some (.tup (p.1.map kV)) ∧ RelV p.2 q.2.2) kvs' xs → DtAll K G (keyTs kvs) (xs.map fun x => V.ref x.2.1)
  | [], kvs', xs, h, r => by
    simp only [DtKV] at h
    subst h
    cases r
    simp only [keyTs, List.map_nil, DtAll]
  | (k, d) :: kvs, kvs', xs, h, r => by
    simp only [DtKV] at h
    obtain ⟨v, r', rfl, _, h2⟩ := h
    cases r with
    | cons r1 r2 =>
      obtain ⟨_, hb, _⟩ := r1
      have ih := keys_of (P := P) (w := w) tu h2 r2
      simp only [keyTs, List.map_cons, DtAll]
      refine ⟨_, _, rfl, ?_, ih⟩
      simp only [Dt]
      exact ⟨_, _, rfl, .inl (.inl (tu _ _ hb)), keys_dt k⟩
theorem vals_refs : ∀ as : List Addr, Vals (as.map V.ref) (as.map Value.ref)
  | [] => .nil
  | a :: as => .cons rfl (vals_refs as)
theorem call_sortedA {X : Cx} (hu : X.A.units + 60 < cLine) (hc : X.calm = true) : CallR X (.builtin "sorted") (rSortedA X.K) := by
  intro pins s σ H xs us Q I r h
  rcases h with h | h
  · exact call_sorted hu pins s σ H xs us Q I r h
  · obtain ⟨p, kvs, kvs', G, rfl, hp, hkv, le, tu, hs, q⟩ := h
    cases r with
    | cons r rr =>
      cases rr
      cases r
      obtain ⟨z, ns, ks, pr, o, es, ep, ho, hex, hdat, hes, hnd⟩ := I.hok p _ hp
      have h4 := (sortOk_of hs).2.2.2
      have le1 : es.size = ks.length := by rw [← Array.length_toList, hes, List.length_map]
      have lk : ks.length = kvs'.length := (Paired.length pr).symm
      have sl : es.size ≤ sizeLine := by rw [le1, lk]; exact z
      refine PySem.Calls.call_function_entry kind_sorted plain_sorted entry_sorted (args_sorted1 _) ?_
      unfold Builtin.«sorted»
      refine wpAny_bind (m := checkCount "sorted" 1 1 _) (wpAny_pure ?_)
      refine wpAny_bind (PySem.W.kdu_collect (A := X.A.in1) (PySem.KdlSrc.rawDict (es := es) (ep := ep) ns) (I.ok.hd hc) ⟨o, ho, hex, hdat⟩ sl fun h' tk acc hk hit => ?_)
      have I1 : Inv X pins σ H { s with heap := h', toks := tk } := I.kept (t' := tk) hk
      have eacc : acc.toList = (ks.map fun x => x.2.1).map Value.ref := by
        obtain ⟨i1, i2⟩ := hit
        refine List.ext_getElem (by rw [Array.length_toList, i1, le1, List.length_map, List.length_map]) fun i h1 h2 => ?_
        have hi : i < acc.size := by simpa using h1
        obtain ⟨hi2, e⟩ := i2 i acc[i] (by simp [hi])
        have hk2 : i < ks.length := by omega
        have e2 : es[i] = entryOfKey (tupleKind (mixKind X.prog X.w)) ks[i] := by
          have := congrArg (fun l => l[i]?) hes
          simp [hi2, hk2] at this
          exact this
        simp only [Array.getElem_toList, List.getElem_map]
        rw [e, e2]
        rfl
      show wpAny _ _ (newList acc.toList >>= _) _ _ _
      rw [eacc]
      refine wpAny_bind (wpAny_newList ?_ (by rw [List.length_map, List.length_map, ← le1]; exact sl))
      have hd := keys_of (P := X.prog) (w := X.w) tu hkv pr
      have hd' : DtAll X.K G (keyTs kvs) ((ks.map fun x => x.2.1).map V.ref) := by rw [List.map_map]; exact hd
      refine wpAny_bind (wpAny_holding (wpAny_mono (sort_vals I1 hu le hd' (vals_refs _) hs q) (fun _ s' x => ?_) fun _ _ e => e))
      exact wpAny_pure ⟨_, rfl, x⟩
end MP
namespace PySem
open Sem (wp)
open PySem.W PySem.Calls PyProof.Rows PyProof.V PySem.Spec
theorem mp_zip_nolen : typeLookup (.type "zip") "__len__" = pure none := am_miss_of_fast (by decide +kernel)
theorem mp_zip_nohint : typeLookup (.type "zip") "__length_hint__" = pure none := am_miss_of_fast (by decide +kernel)
section
variable {prog : Program} {w : World} {A : Around} {E : Value → Shared → Prop} {s : Shared} {z TI TO i1 i2 : Addr} {fp1 fp2 : List Addr} {n1 n2 i : Nat} {P1 P2 : Nat → Value → Prop} {St1 St2 : Nat → Heap → Prop}
theorem mp_pyNext_item {Q : Option Value → Shared → Prop} (S : ZipSep2 z TI TO i1 i2 fp1 fp2) (D1 : Draws prog w A.in1 i1 fp1 n1 P1 St1) (D2 : Draws prog w A.in1 i2 fp2 n2 P2 St2)
    (hz : ZipAny s.heap z TI TO) (hTI : IsTupOf2 s.heap TI (.ref i1) (.ref i2)) (hTO : ∃ a1 a2, IsTupOf2 s.heap TO a1 a2) (st1 : St1 i s.heap) (st2 : St2 i s.heap) (hlt1 : i < n1) (hlt2 : i < n2)
    (hQ : ∀ x1 x2 h' tk, P1 i x1 → P2 i x2 → ZipAny h' z TI TO → (∃ a1 a2, IsTupOf2 h' TO a1 a2) → St1 (i + 1) h' → St2 (i + 1) h' → IsTupOf2 h' s.heap.objs.size x1 x2 → h'.objs.size = s.heap.objs.size + 1 →
      (∀ c o, c ≠ z → c ≠ TO → c ≠ i1 → c ≠ i2 → s.heap.get? c = some o → h'.get? c = some o) → Q (some (.ref s.heap.objs.size)) { s with heap := h', toks := tk }) :
    wpAny (model prog w) A (pyNext (.ref z)) Q E s := by
  have hT : s.TypeIs (.ref z) "zip" := by
    obtain ⟨v0, f, _, h⟩ := hz
    exact ⟨_, h, rfl⟩
  unfold pyNext
  exact wpAny_bind (wpAny_attempt (wpAny_callSpecial?_slot (name := Str.ofString "__next__") hT F.slot_zip_next
    (wpAny_call_entry F.slot_zip_next hT F.entry_zip_next (mp_zip_item S D1 D2 hz hTI hTO st1 st2 hlt1 hlt2 fun x1 x2 h' tk y1 y2 b1 b2 d1 d2 b5 b6 b7 => wpAny_pure (hQ x1 x2 h' tk y1 y2 b1 b2 d1 d2 b5 b6 b7)) (F.args_zip_next_1 _))))
theorem mp_pyNext_end {Q : Option Value → Shared → Prop} (S : ZipSep2 z TI TO i1 i2 fp1 fp2) (D1 : Draws prog w A.in1 i1 fp1 n1 P1 St1) (D2 : Draws prog w A.in1 i2 fp2 n2 P2 St2)
    (hz : ZipAny s.heap z TI TO) (hTI : IsTupOf2 s.heap TI (.ref i1) (.ref i2)) (hTO : ∃ a1 a2, IsTupOf2 s.heap TO a1 a2) (st1 : St1 i s.heap) (st2 : St2 i s.heap) (hle1 : i ≤ n1) (hle2 : i ≤ n2) (hend : i = n1 ∨ i = n2)
    (hQ : ∀ h' tk, (∀ c o, c ≠ z → c ≠ TO → c ≠ i1 → c ≠ i2 → s.heap.get? c = some o → h'.get? c = some o) → Q none { s with heap := h', toks := tk }) : wpAny (model prog w) A (pyNext (.ref z)) Q E s := by
  have hT : s.TypeIs (.ref z) "zip" := by
    obtain ⟨v0, f, _, h⟩ := hz
    exact ⟨_, h, rfl⟩
  unfold pyNext
  refine wpAny_bind (wpAny_attempt (wpAny_callSpecial?_slot (name := Str.ofString "__next__") hT F.slot_zip_next
    (wpAny_call_entry F.slot_zip_next hT F.entry_zip_next (mp_zip_end S D1 D2 hz hTI hTO st1 st2 hle1 hle2 hend fun h' tk e hk he => ?_) (F.args_zip_next_1 _))))
  obtain ⟨o, ho, hc⟩ := he
  refine wpAny_bind (wpAny_isInstance (T := "StopIteration") (b := true) ⟨o, ho, hc⟩ isSubtype_stop ?_)
  exact wpAny_pure (hQ _ _ hk)
end
structure MadeZ (P1 P2 : Nat → Value → Prop) (lo : Addr) (h : Heap) (as : List Addr) : Prop where
  nd : as.Nodup
  above : ∀ a ∈ as, lo ≤ a
  pairs : ∀ (j : Nat) (a : Addr), as[j]? = some a → ∃ x y, P1 j x ∧ P2 j y ∧ IsTupOf2 h a x y
section
variable {prog : Program} {w : World} {A : Around} {s : Shared} {R : Result → Shared → Prop} {z TI TO i1 i2 : Addr} {fp1 fp2 : List Addr} {n1 n2 : Nat} {P1 P2 : Nat → Value → Prop} {St1 St2 : Nat → Heap → Prop}
theorem mp_loop {L lo : Addr} (S : ZipSep2 z TI TO i1 i2 fp1 fp2) (D1 : Draws prog w A.in1.in1 i1 fp1 n1 P1 St1) (D2 : Draws prog w A.in1.in1 i2 fp2 n2 P2 St2)
    (Lz : L ≠ z) (LI : L ≠ TI) (LO : L ≠ TO) (L1 : L ∉ fp1) (L2 : L ∉ fp2) (zl : z < lo) (Ol : TO < lo) (l1 : i1 < lo) (l2 : i2 < lo) (Ll : L < lo) (hn : min n1 n2 ≤ sizeLine) (res : Value) {h₁ : Heap}
    (hR : ∀ h' tk acc c as, (∀ b o, b ≠ L → b ≠ z → b ≠ TO → b ≠ i1 → b ≠ i2 → h₁.get? b = some o → h'.get? b = some o) → h'.get? L = some { cls := .type "list", dict := none, data := .seq acc c, slots := #[] } → as.length = min n1 n2 → MadeZ P1 P2 lo h' as →
      acc.toList = as.map Value.ref → R (.ok (.ret res)) { s with heap := h', toks := tk }) :
    ∀ (k i : Nat) (h : Heap) (tk c : Nat) (acc : Array Value) (as : List Addr), min n1 n2 - i = k → i ≤ min n1 n2 → ZipAny h z TI TO → IsTupOf2 h TI (.ref i1) (.ref i2) → (∃ a1 a2, IsTupOf2 h TO a1 a2) → St1 i h → St2 i h →
      (∀ b o, b ≠ L → b ≠ z → b ≠ TO → b ≠ i1 → b ≠ i2 → h₁.get? b = some o → h.get? b = some o) →
      h.get? L = some { cls := .type "list", dict := none, data := .seq acc c, slots := #[] } → acc.toList = as.map Value.ref → as.length = i → MadeZ P1 P2 lo h as → lo ≤ h.objs.size →
      codeAny (model prog w) A (.builtin "list.extend.loop" ⟨[.ref L, .ref z, res], []⟩) R { s with heap := h, toks := tk } := by
  have Li1 : L ≠ i1 := fun q => L1 (by rw [q]; exact S.mem1)
  have Li2 : L ≠ i2 := fun q => L2 (by rw [q]; exact S.mem2)
  intro k
  induction k with
  | zero =>
    intro i h tk c acc as hk hi hz hTI hTO st1 st2 hkeep hS hacc hal hG hlo
    refine codeAny_builtin PySem.F.entry_extend_loop ?_
    rw [Around.under_plainId PySem.F.plain_extend_loop _]
    show wpAny _ A.in1 (pyNext (.ref z) >>= _) _ _ _
    refine wpAny_bind (mp_pyNext_end (s := { s with heap := h, toks := tk }) (A := A.in1) S D1 D2 hz hTI hTO st1 st2 (by omega) (by omega) (by omega) fun h' tk' he => ?_)
    refine wpAny_pure (hR h' tk' acc c as (fun b o b0 b1 b2 b3 b4 e => he b o b1 b2 b3 b4 (hkeep b o b0 b1 b2 b3 b4 e)) (he L _ Lz LO Li1 Li2 hS) (by omega) ⟨hG.nd, hG.above, fun j a hj => ?_⟩ hacc)
    obtain ⟨x, y, e1, e2, e3⟩ := hG.pairs j a hj
    have hb := hG.above a (List.mem_of_getElem? hj)
    exact ⟨x, y, e1, e2, he a _ (Nat.ne_of_gt (Nat.lt_of_lt_of_le zl hb)) (Nat.ne_of_gt (Nat.lt_of_lt_of_le Ol hb)) (Nat.ne_of_gt (Nat.lt_of_lt_of_le l1 hb)) (Nat.ne_of_gt (Nat.lt_of_lt_of_le l2 hb)) e3⟩
  | succ k ih =>
    intro i h tk c acc as hk hi hz hTI hTO st1 st2 hkeep hS hacc hal hG hlo
    have hsz : acc.size = i := by rw [← Array.length_toList, hacc, List.length_map, hal]
    refine codeAny_builtin PySem.F.entry_extend_loop ?_
    rw [Around.under_plainId PySem.F.plain_extend_loop _]
    show wpAny _ A.in1 (pyNext (.ref z) >>= _) _ _ _
    refine wpAny_bind (mp_pyNext_item (s := { s with heap := h, toks := tk }) (A := A.in1) S D1 D2 hz hTI hTO st1 st2 (by omega) (by omega) fun x1 x2 h' tk' q1 q2 hz' hO' st1' st2' ht hs' hkp => ?_)
    dsimp only at ht hs' hkp ⊢
    have hS' := hkp L _ Lz LO Li1 Li2 hS
    have up : ∀ b o, b ≠ L → h'.get? b = some o → (h'.update L (Obj.mapSeq (·.push (Value.ref h.objs.size)))).get? b = some o := fun b o hb e => (Heap.get?_update_other _ _ (Ne.symm hb)).trans e
    have hLl : L < h.objs.size := Heap.lt_size hS
    have szu : (h'.update L (Obj.mapSeq (·.push (Value.ref h.objs.size)))).objs.size = h'.objs.size := (Heap.SameBut.update h' L _).1
    show wpAny _ A.in1 (updateSeq L (·.push (Value.ref h.objs.size)) >>= _) _ _ _
    refine wpAny_bind ?_
    refine wpAny_updateSeq hS' rfl (wpAny_pure ⟨plainId_quiet PySem.F.plain_extend_loop _, ih (i + 1) _ tk' _ (acc.push (Value.ref h.objs.size)) (as ++ [h.objs.size]) (by omega) (by omega) ?_ ?_ ?_ ?_ ?_ ?_ (Heap.get?_update_self _ hS' rfl) (by rw [Array.toList_push, hacc, List.map_append]; rfl) (by rw [List.length_append, hal]; rfl) ⟨?_, ?_, ?_⟩ ?_⟩) (by rw [hsz]; omega) (by show (acc.push (Value.ref h.objs.size)).size ≤ sizeLine + 1; rw [Array.size_push, hsz]; omega)
    · obtain ⟨v0, f, hv, hzz⟩ := hz'
      exact ⟨v0, f, hv, up _ _ Lz.symm hzz⟩
    · exact up _ _ LI.symm (hkp TI _ S.TIz S.TITO S.TIi1 S.TIi2 hTI)
    · obtain ⟨a1, a2, e⟩ := hO'
      exact ⟨a1, a2, up _ _ LO.symm e⟩
    · exact D1.frame _ _ _ st1' fun b hb o e => up b o (fun q => L1 (q ▸ hb)) e
    · exact D2.frame _ _ _ st2' fun b hb o e => up b o (fun q => L2 (q ▸ hb)) e
    · exact fun b o b0 b1 b2 b3 b4 e => up b o b0 (hkp b o b1 b2 b3 b4 (hkeep b o b0 b1 b2 b3 b4 e))
    · refine List.nodup_append.mpr ⟨hG.nd, List.nodup_cons.mpr ⟨List.not_mem_nil, List.nodup_nil⟩, fun a ha b hb => ?_⟩
      rw [List.mem_singleton.mp hb]
      obtain ⟨j, hj⟩ := List.mem_iff_getElem?.mp ha
      obtain ⟨_, _, _, _, e⟩ := hG.pairs j a hj
      exact Nat.ne_of_lt (Heap.lt_size e)
    · intro a ha
      rcases List.mem_append.mp ha with ha | ha
      · exact hG.above a ha
      · rw [List.mem_singleton.mp ha]; exact hlo
    · intro j b hj
      rcases Nat.lt_trichotomy j as.length with g1 | g1 | g1
      · rw [List.getElem?_append_left g1] at hj
        obtain ⟨x, y, e1, e2, e3⟩ := hG.pairs j b hj
        have hb := hG.above b (List.mem_of_getElem? hj)
        exact ⟨x, y, e1, e2, up b _ (Nat.ne_of_gt (Nat.lt_of_lt_of_le Ll hb)) (hkp b _ (Nat.ne_of_gt (Nat.lt_of_lt_of_le zl hb)) (Nat.ne_of_gt (Nat.lt_of_lt_of_le Ol hb)) (Nat.ne_of_gt (Nat.lt_of_lt_of_le l1 hb)) (Nat.ne_of_gt (Nat.lt_of_lt_of_le l2 hb)) e3)⟩
      · subst g1
        have hb : h.objs.size = b := by simpa using hj
        subst hb
        rw [hal]
        exact ⟨x1, x2, q1, q2, up _ _ (Nat.ne_of_gt hLl) ht⟩
      · have hnone : (as ++ [h.objs.size])[j]? = none := List.getElem?_eq_none (by rw [List.length_append, List.length_singleton]; omega)
        rw [hnone] at hj; cases hj
    · rw [szu, hs']; exact Nat.le_succ_of_le hlo
end
section
variable {prog : Program} {w : World} {A : Around} {E : Value → Shared → Prop} {s : Shared} {z TI TO i1 i2 : Addr} {fp1 fp2 : List Addr} {n1 n2 : Nat} {P1 P2 : Nat → Value → Prop} {St1 St2 : Nat → Heap → Prop}
theorem mp_hint {Q : Bool → Shared → Prop} (hT : s.TypeIs (.ref z) "zip") (h : Q true s) : wpAny (model prog w) A (Builtin.List.listLengthHint (.ref z)) Q E s := by
  unfold Builtin.List.listLengthHint
  refine wpAny_bind (wpAny_specialOf hT mp_zip_nolen ?_)
  refine wpAny_bind (wpAny_specialOf hT mp_zip_nohint ?_)
  exact wpAny_pure h
theorem mp_ext {R : Result → Shared → Prop} {L : Addr} (S : ZipSep2 z TI TO i1 i2 fp1 fp2) (D1 : Draws prog w A.in1.in1 i1 fp1 n1 P1 St1) (D2 : Draws prog w A.in1.in1 i2 fp2 n2 P2 St2)
    (Lz : L ≠ z) (LI : L ≠ TI) (LO : L ≠ TO) (L1 : L ∉ fp1) (L2 : L ∉ fp2) (hn : min n1 n2 ≤ sizeLine) (res : Value) (c₀ : Nat) (hS : s.heap.get? L = some { cls := .type "list", data := .seq #[] c₀ })
    (hz : ZipAny s.heap z TI TO) (hTI : IsTupOf2 s.heap TI (.ref i1) (.ref i2)) (hTO : ∃ a1 a2, IsTupOf2 s.heap TO a1 a2) (st1 : St1 0 s.heap) (st2 : St2 0 s.heap)
    (hR : ∀ h' tk acc c as, (∀ b o, b ≠ L → b ≠ z → b ≠ TO → b ≠ i1 → b ≠ i2 → s.heap.get? b = some o → h'.get? b = some o) → h'.get? L = some { cls := .type "list", dict := none, data := .seq acc c, slots := #[] } → as.length = min n1 n2 → MadeZ P1 P2 s.heap.objs.size h' as →
      acc.toList = as.map Value.ref → R (.ok (.ret res)) { s with heap := h', toks := tk }) :
    wpAny (model prog w) A.in1 (Builtin.List.listExtendWith (.ref L) (.ref z) res)
      (fun fin s' => match fin with | .done f => R (.ok f) s' | .again c' => c'.quiet = true ∧ codeAny (model prog w) A c' R s') (fun e s' => R (.error e) s') s := by
  have hT : s.TypeIs (.ref z) "zip" := by
    obtain ⟨v0, f, _, h⟩ := hz
    exact ⟨_, h, rfl⟩
  have zl : z < s.heap.objs.size := by obtain ⟨v0, f, _, h⟩ := hz; exact Heap.lt_size h
  have Ol : TO < s.heap.objs.size := by obtain ⟨_, _, h⟩ := hTO; exact Heap.lt_size h
  have l1 : i1 < s.heap.objs.size := by obtain ⟨_, h⟩ := D1.live _ _ st1; exact Heap.lt_size h
  have l2 : i2 < s.heap.objs.size := by obtain ⟨_, h⟩ := D2.live _ _ st2; exact Heap.lt_size h
  have Ll : L < s.heap.objs.size := Heap.lt_size hS
  have key : ∀ (h : Heap) (c₁ tk : Nat), h.objs.size = s.heap.objs.size → (∀ b o, b ≠ L → s.heap.get? b = some o → h.get? b = some o) →
      h.get? L = some { cls := .type "list", data := .seq #[] c₁ } → codeAny (model prog w) A (.builtin "list.extend.loop" ⟨[.ref L, .ref z, res], []⟩) R { s with heap := h, toks := tk } := by
    intro h c₁ tk hsz hk hS₁
    refine mp_loop (s := s) (lo := s.heap.objs.size) (h₁ := s.heap) S D1 D2 Lz LI LO L1 L2 zl Ol l1 l2 Ll hn res hR (min n1 n2) 0 h tk c₁ #[] [] (Nat.sub_zero _) (Nat.zero_le _) ?_ (hk _ _ LI.symm hTI) ?_ (D1.frame _ _ _ st1 fun b hb o e => hk b o (fun q => L1 (q ▸ hb)) e) (D2.frame _ _ _ st2 fun b hb o e => hk b o (fun q => L2 (q ▸ hb)) e)
      (fun b o b0 _ _ _ _ e => hk b o b0 e) hS₁ rfl rfl ⟨List.nodup_nil, (fun _ ha => nomatch ha), (fun j a hj => by simp at hj)⟩ (by rw [hsz]; exact Nat.le_refl _)
    · obtain ⟨v0, f, hv, e⟩ := hz
      exact ⟨v0, f, hv, hk _ _ Lz.symm e⟩
    · obtain ⟨a1, a2, e⟩ := hTO
      exact ⟨a1, a2, hk _ _ LO.symm e⟩
  unfold Builtin.List.listExtendWith
  refine wpAny_bind (wpAny_typeOf (T := "zip") hT ?_)
  have h1 : Builtin.List.listSameRef (.ref L) (.ref z) = false := by simp [Builtin.List.listSameRef, Lz]
  have h2 : (Value.type "zip" == Value.type "list") = false := by decide
  have h3 : (Value.type "zip" == Value.type "tuple") = false := by decide
  simp only [h1, h2, h3, Bool.or_false, Bool.false_eq_true, if_false]
  have hit : ∀ {Q : Value → Shared → Prop} {E : Value → Shared → Prop}, Q (.ref z) s → wpAny (model prog w) A.in1 (pyIter (.ref z)) Q E s := by
    intro Q E q
    refine wpAny_pyIter_slot hT F.slot_zip_iter (wpAny_call_entry F.slot_zip_iter hT F.entry_zip_iter ?_ (F.args_zip_iter_1 _))
    show wpAny _ _ (ret (.ref z)) _ _ s
    exact wpAny_pure ⟨_, rfl, "zip", _, hT, F.slot_zip_next.lookup, q⟩
  refine wpAny_bind (hit ?_)
  refine wpAny_bind (wpAny_holding (mp_hint hT ?_))
  refine wpAny_ite_split (fun _ => ?_) (fun _ => wpAny_pure ⟨plainId_quiet PySem.F.plain_extend_loop _, key _ c₀ _ rfl (fun b o _ e => e) hS⟩)
  refine wpAny_bind (wpAny_rule ?_)
  refine wpAny_bind ?_
  show wpAny _ _ (updateSeq L (·.push .none) >>= fun _ => updateSeq L (·.pop)) _ _ _
  refine wpAny_bind (wpAny_updateSeq hS rfl ?_)
  have hS₂ := Heap.get?_update_self (Obj.mapSeq (·.push Value.none)) hS rfl
  refine wpAny_updateSeq (hz := by seq_fits) hS₂ rfl ?_
  have hS₃ := Heap.get?_update_self (Obj.mapSeq (·.pop)) hS₂ rfl
  refine wpAny_pure ⟨plainId_quiet PySem.F.plain_extend_loop _, key _ _ _ ?_ (fun b o hb e => ?_) hS₃⟩
  · exact ((Heap.SameBut.update _ L _).1).trans (Heap.SameBut.update _ L _).1
  · exact (Heap.get?_update_other _ _ (Ne.symm hb)).trans ((Heap.get?_update_other _ _ (Ne.symm hb)).trans e)
theorem mp_list_zip {Q : Value → Shared → Prop} (S : ZipSep2 z TI TO i1 i2 fp1 fp2) (D1 : Draws prog w A.in1.in1.in1 i1 fp1 n1 P1 St1) (D2 : Draws prog w A.in1.in1.in1 i2 fp2 n2 P2 St2)
    (Il : TI < s.heap.objs.size) (f1 : ∀ b ∈ fp1, b < s.heap.objs.size) (f2 : ∀ b ∈ fp2, b < s.heap.objs.size) (hn : min n1 n2 ≤ sizeLine)
    (hz : ZipAny s.heap z TI TO) (hTI : IsTupOf2 s.heap TI (.ref i1) (.ref i2)) (hTO : ∃ a1 a2, IsTupOf2 s.heap TO a1 a2) (st1 : St1 0 s.heap) (st2 : St2 0 s.heap)
    (hQ : ∀ h' tk acc c as, (∀ b o, b ≠ z → b ≠ TO → b ≠ i1 → b ≠ i2 → s.heap.get? b = some o → h'.get? b = some o) → h'.get? s.heap.objs.size = some { cls := .type "list", dict := none, data := .seq acc c, slots := #[] } → as.length = min n1 n2 → MadeZ P1 P2 (s.heap.objs.size + 1) h' as →
      acc.toList = as.map Value.ref → Q (.ref s.heap.objs.size) { s with heap := h', toks := tk }) :
    wpAny (model prog w) A (call (.type "list") [.ref z]) Q E s := by
  have zl : z < s.heap.objs.size := by obtain ⟨v0, f, _, h⟩ := hz; exact Heap.lt_size h
  have Ol : TO < s.heap.objs.size := by obtain ⟨_, _, h⟩ := hTO; exact Heap.lt_size h
  refine callType_codes (Q₁ := fun obj s₁ => obj = .ref s.heap.objs.size ∧ s₁ = { s with heap := s.heap.push { cls := .type "list", data := .seq #[] } }) PySem.F.called_list (PySem.F.typeCall_list_1 _) PySem.F.entry_list_init
    (code_list_new _ ⟨rfl, rfl⟩) fun obj s₁ h₁ => ?_
  obtain ⟨rfl, rfl⟩ := h₁
  have hS : (s.heap.push { cls := .type "list", data := .seq #[] }).get? s.heap.objs.size = some { cls := .type "list", data := .seq #[] } := Heap.get?_push_size _ rfl
  refine ⟨⟨_, hS, rfl⟩, PySem.F.args_list_init_2 _ _, ?_⟩
  show wpAny _ _ (do let old ← Builtin.List.listItems (.ref s.heap.objs.size); Builtin.List.listUpdate (.ref s.heap.objs.size) (fun _ => #[]); letGo old.toList.reverse; Builtin.List.listExtendWith (.ref s.heap.objs.size) (.ref z) .none) _ _ _
  refine wpAny_bind ?_
  unfold Builtin.List.listItems
  refine wpAny_bind (wpAny_seqItems hS rfl (wpAny_pure ?_))
  show wpAny _ _ (updateSeq s.heap.objs.size (fun _ => #[]) >>= fun _ => letGo (#[] : Array Value).toList.reverse >>= fun _ => Builtin.List.listExtendWith (.ref s.heap.objs.size) (.ref z) .none) _ _ _
  refine wpAny_bind (wpAny_updateSeq hS rfl ?_)
  have hS₂ := Heap.get?_update_self (Obj.mapSeq (fun _ => (#[] : Array Value))) hS rfl
  have oth : ∀ b o, b ≠ s.heap.objs.size → s.heap.get? b = some o → ((s.heap.push { cls := .type "list", data := .seq #[] }).update s.heap.objs.size (Obj.mapSeq (fun _ => (#[] : Array Value)))).get? b = some o :=
    fun b o hb e => (Heap.get?_update_other _ _ (Ne.symm hb)).trans (Heap.get?_push_of_some _ e)
  have old : ∀ b o, s.heap.get? b = some o → ((s.heap.push { cls := .type "list", data := .seq #[] }).update s.heap.objs.size (Obj.mapSeq (fun _ => (#[] : Array Value)))).get? b = some o := fun b o e => oth b o (Nat.ne_of_lt (Heap.lt_size e)) e
  have szu : ((s.heap.push { cls := .type "list", data := .seq #[] }).update s.heap.objs.size (Obj.mapSeq (fun _ => (#[] : Array Value)))).objs.size = s.heap.objs.size + 1 := ((Heap.SameBut.update _ _ _).1).trans (Heap.size_push ..)
  refine wpAny_bind (wpAny_letGo ?_)
  refine mp_ext (A := A.in1) S D1 D2 (Nat.ne_of_gt zl) (Nat.ne_of_gt Il) (Nat.ne_of_gt Ol) (fun h => Nat.lt_irrefl _ (f1 _ h)) (fun h => Nat.lt_irrefl _ (f2 _ h)) hn .none _ hS₂ ?_ (old _ _ hTI) ?_ (D1.frame _ _ _ st1 fun b _ o e => old b o e) (D2.frame _ _ _ st2 fun b _ o e => old b o e) fun h' tk acc c as hk hS' hl hG hacc => ?_
  · obtain ⟨v0, f, hv, e⟩ := hz
    exact ⟨v0, f, hv, old _ _ e⟩
  · obtain ⟨a1, a2, e⟩ := hTO
    exact ⟨a1, a2, old _ _ e⟩
  · refine ⟨rfl, hQ h' tk acc c as (fun b o b1 b2 b3 b4 e => hk b o (Nat.ne_of_lt (Heap.lt_size e)) b1 b2 b3 b4 (old b o e)) hS' hl ?_ hacc⟩
    rw [← szu]
    exact hG
end
end PySem
namespace MP
open PySem PySem.Spec PyProof.Rows L2
variable [LamT]
def rListZ (K : PySem.W.Frag) : RN := fun vs H Q => ∃ (l m : Bool) (a b : Addr) (xs ys : List V) (ds es : List PyData) (G : Hp), vs = [.ref a, .ref b] ∧ SqK K l H a xs ∧ SqK K m H b ys ∧ Le G H ∧ DtAll K G ds xs ∧ DtAll K G es ys ∧ ds.length ≤ 1000000 ∧
  ∀ G' H' q ws, Step G H G' H' → H' q = none → DtAll K G' (zipD ds es) ws → Q (.ref q) (upd H' q (.lst ws))
theorem take_pairs {X : Cx} {pins : List (Addr × Obj)} {σ : L2.St} {H0 : Hp} {s : Shared} {h' : Heap} {tk : Nat} {G : Hp} {lo : Addr} (I0 : Inv X pins σ H0 s) (hlo : s.heap.objs.size ≤ lo) : ∀ (as : List Addr) (ds es : List PyData) (xs ys : List V) (its its2 : List Value) (H1 G1 : Hp), Inv X pins σ H1 { s with heap := h', toks := tk } → Step G H0 G1 H1 → as.Nodup →
    (∀ a ∈ as, lo ≤ a ∧ H1 a = none) → DtAll X.K G ds xs → DtAll X.K G es ys → Vals xs its → Vals ys its2 → as.length = min its.length its2.length → (∀ (j : Nat) (a : Addr), as[j]? = some a → ∃ x y, its[j]? = some x ∧ its2[j]? = some y ∧ IsTupOf2 h' a x y) →
    ∃ H2 G2, Inv X pins σ H2 { s with heap := h', toks := tk } ∧ Step G H0 G2 H2 ∧ DtAll X.K G2 (zipD ds es) (as.map V.ref) ∧ Le G1 G2 ∧ ∀ b, b ∉ as → H1 b = none → H2 b = none
  | [], ds, es, xs, ys, its, its2, H1, G1, I1, st, _, _, hd, he, rv, rv2, hl, _ => by
    refine ⟨H1, G1, I1, st, ?_, fun _ _ h => h, fun b _ h => h⟩
    have l1 := hd.len
    have l2 := he.len
    have l3 := rv.length
    have l4 := rv2.length
    have : zipD ds es = [] := List.eq_nil_of_length_eq_zero (by unfold zipD; rw [List.length_zipWith]; simp at hl; omega)
    rw [this]
    simp only [List.map_nil, DtAll]
  | a :: as, ds, es, xs, ys, its, its2, H1, G1, I1, st, hnd, ha, hd, he, rv, rv2, hl, hp => by
    obtain ⟨x, y, e1, e2, hT⟩ := hp 0 a rfl
    cases ds with
    | nil =>
      simp only [DtAll] at hd
      subst hd
      cases rv
      simp at e1
    | cons d ds =>
      cases es with
      | nil =>
        simp only [DtAll] at he
        subst he
        cases rv2
        simp at e2
      | cons e es =>
        simp only [DtAll] at hd he
        obtain ⟨v, xs', rfl, hdv, hd'⟩ := hd
        obtain ⟨v2, ys', rfl, hev, he'⟩ := he
        cases rv with
        | @cons _ u _ us r1 rr =>
          cases rv2 with
          | @cons _ u2 _ us2 r2 rr2 =>
            have q1 : u = x := by simpa using e1
            have q2 : u2 = y := by simpa using e2
            subst q1 q2
            obtain ⟨ha1, ha2⟩ := ha a (List.mem_cons_self ..)
            have new : ObjOk X.prog X.w (upd H1 a (.tup [v, v2])) h' a (.tup [v, v2]) := ⟨by show 2 ≤ sizeLine; decide, [u, u2], .cons r1 (.cons r2 .nil), ⟨_, hT, rfl, _, rfl⟩⟩
            have I2 : Inv X pins σ (upd H1 a (.tup [v, v2])) { s with heap := h', toks := tk } := I1.take (h' := h') (t' := tk) (fun b ob _ q => q) (I0.fpOk (H' := H1) (Nat.le_trans hlo ha1) ha2) new
            have st2 : Step G H0 (upd G1 a (.tup [v, v2])) (upd H1 a (.tup [v, v2])) := st.trans (Step.new st.le ha2)
            have hnd' := List.nodup_cons.mp hnd
            have hb' : ∀ b ∈ as, lo ≤ b ∧ upd H1 a (.tup [v, v2]) b = none := fun b hb => by
              obtain ⟨b1, b2⟩ := ha b (List.mem_cons_of_mem _ hb)
              exact ⟨b1, by rw [upd_ne (fun z => hnd'.1 (by rw [← z]; exact hb))]; exact b2⟩
            obtain ⟨H2, G2, I3, st3, hz, hle, hno⟩ := take_pairs I0 hlo as ds es xs' ys' us us2 _ _ I2 st2 hnd'.2 hb' hd' he' rr rr2 (by simp at hl; omega) fun j b hj => by
              obtain ⟨x', y', g1, g2, g3⟩ := hp (j + 1) b (by simpa using hj)
              exact ⟨x', y', by simpa using g1, by simpa using g2, g3⟩
            have gn : ∀ b o, G1 b = some o → upd G1 a (.tup [v, v2]) b = some o := (Step.new st.le ha2).g
            refine ⟨H2, G2, I3, st3, ?_, fun b o h => hle b o (gn b o h), fun b hb h1 => hno b (fun z => hb (List.mem_cons_of_mem _ z)) (by rw [upd_ne (fun z => hb (by rw [z]; exact List.mem_cons_self ..))]; exact h1)⟩
            show DtAll X.K G2 (.tuple [d, e] :: zipD ds es) (V.ref a :: as.map V.ref)
            simp only [DtAll]
            refine ⟨_, _, rfl, ?_, hz⟩
            simp only [Dt, DtAll]
            exact ⟨a, [v, v2], rfl, .inl (.inl (hle a _ upd_same)), v, [v2], rfl, Dt.mono st3.g _ _ hdv, v2, [], rfl, Dt.mono st3.g _ _ hev, rfl⟩
theorem pe_listZ {X : Cx} (hc : X.calm = true) {e e2 : Expr} {ta : TA} {p p' pos pos' : Pos} (hg : Gl X "list") (hm : X.mg "list" = none) (hg' : Gl X "zip") (hm' : X.mg "zip" = none) (ha : PA X [e, e2] ta)
    (hs : starEach [e, e2] X.env = (false, eval e X.env) :: starEach [e2] X.env := by rfl) (hpl : (backTo pos' (starEach [e2] X.env)).any (·.1) = false := by rfl) :
    PE X (.Call (.Name "list" p) [.Call (.Name "zip" p') [e, e2] [] pos'] [] pos) (tN (rListZ X.K) ta) := by
  refine ⟨fun pins s σ H Q I h => ?_⟩
  refine Call_ (ld_blt I hg hm PyProof.Rows.boot_list (PyProof.Rows.callWith_type1 (Calls.spliced_cons ?_) rfl rfl))
  refine Call_ (ld_blt I hg' hm' PyProof.Rows.boot_zip (PyProof.Rows.callWith_type1 (thn (ha.run pos' pins s σ H _ I h) fun us s1 ⟨vs, H1, I1, r1, q1⟩ => ?_) hs hpl))
  obtain ⟨l, m, a, b, xs, ys, ds, es, G, ex, hqx, hqy, le, hd, he, hln, q⟩ := q1
  subst ex
  cases r1 with
  | cons r rr =>
    cases rr with
    | cons r' rr =>
      cases rr
      cases r
      cases r'
      obtain ⟨its, rv, p1⟩ := seqK I1 hqx
      obtain ⟨its2, rv2, p2⟩ := seqK I1 hqy
      have la := p1.lt
      have lb := p2.lt
      have l1 := rv.length
      have l2 := rv2.length
      have d1 := hd.len
      refine zip_begins2 (beginsK l a its.toArray) (beginsK m b its2.toArray) p1 p2 fun h' hz hTI hTO h1 h2 hsz hk => Calls.spliced_nil ?_
      have I2 : Inv X pins σ H1 { s1 with heap := h' } := I1.kept (t' := s1.toks) hk
      have D1 := drawsK (prog := X.prog) (w := X.w) (A := X.A.in1.in1.in1) l (I1.ok.hd hc) s1.heap.objs.size a (Nat.ne_of_lt la) its.toArray
      have D2 := drawsK (prog := X.prog) (w := X.w) (A := X.A.in1.in1.in1) m (I1.ok.hd hc) (s1.heap.objs.size + 1) b (Nat.ne_of_lt (Nat.lt_succ_of_lt lb)) its2.toArray
      have S := zip_sep2 (N := s1.heap.objs.size) (fp1 := [a]) (fp2 := [b]) (fun c hc => by rw [List.mem_singleton.mp hc]; exact la) (fun c hc => by rw [List.mem_singleton.mp hc]; exact lb)
      have p1' : IsSqK l h' a its.toArray := (beginsK l a its.toArray).keeps _ _ p1 hk
      have p2' : IsSqK m h' b its2.toArray := (beginsK m b its2.toArray).keeps _ _ p2 hk
      have inn : ∀ (c d : Addr), c ≤ s1.heap.objs.size + 1 → d < s1.heap.objs.size → ∀ x ∈ [c, d], x < h'.objs.size := fun c d hc hd x hx => by
        rw [hsz]
        have : x = c ∨ x = d := by simpa using hx
        rcases this with z | z
        · rw [z]; exact Nat.lt_of_le_of_lt hc (by show s1.heap.objs.size + 1 < s1.heap.objs.size + 5; omega)
        · rw [z]; exact Nat.lt_of_lt_of_le hd (Nat.le_add_right _ _)
      refine mp_list_zip (s := { s1 with heap := h' }) (A := X.A) S D1 D2 (by show s1.heap.objs.size + 2 < h'.objs.size; rw [hsz]; show s1.heap.objs.size + 2 < s1.heap.objs.size + 5; omega) (inn _ _ (Nat.le_succ _) la) (inn _ _ (Nat.le_refl _) lb) (by simp only [List.size_toArray]; rw [sizeLine_eq]; omega) ⟨_, _, .inl rfl, hz⟩ hTI ⟨_, _, hTO⟩ ⟨IsItK.zero h1, p1'⟩ ⟨IsItK.zero h2, p2'⟩ fun h2' tk acc c as hk2 hL hal hG hacc => ?_
      have keep : ∀ b o, s1.heap.get? b = some o → h2'.get? b = some o := fun b o e => by
        have hb := Heap.lt_size e
        exact hk2 b o (Nat.ne_of_lt (Nat.lt_of_lt_of_le hb (Nat.le_add_right _ _))) (Nat.ne_of_lt (Nat.lt_of_lt_of_le hb (Nat.le_add_right _ _))) (Nat.ne_of_lt hb) (Nat.ne_of_lt (Nat.lt_succ_of_lt hb)) (hk b o e)
      have I3 : Inv X pins σ H1 { s1 with heap := h2', toks := tk } := I1.kept (t' := tk) keep
      have hLn : s1.heap.objs.size ≤ h'.objs.size := by rw [hsz]; exact Nat.le_add_right _ _
      have fresh : ∀ a ∈ as, s1.heap.objs.size ≤ a ∧ H1 a = none := fun a ha => by
        have := hG.above a ha
        have h3 : s1.heap.objs.size ≤ a := Nat.le_trans hLn (Nat.le_trans (Nat.le_succ _) this)
        exact ⟨h3, I1.hok.fresh h3⟩
      obtain ⟨H2, G2, I4, st, hzz, _, hno⟩ := take_pairs (lo := s1.heap.objs.size) (h' := h2') (tk := tk) I1 (Nat.le_refl _) as ds es xs ys its its2 H1 G I3 (Step.refl le) hG.nd fresh hd he rv rv2 (by simpa using hal) fun j a hj => by
        obtain ⟨x, y, e1, e2, e3⟩ := hG.pairs j a hj
        exact ⟨x, y, by simpa using e1, by simpa using e2, e3⟩
      have hLas : h'.objs.size ∉ as := fun hm => Nat.lt_irrefl _ (Nat.lt_of_lt_of_le (Nat.lt_succ_self _) (hG.above _ hm))
      have HL : H2 h'.objs.size = none := hno _ hLas (I1.hok.fresh hLn)
      have eacc : acc = (as.map Value.ref).toArray := by rw [← hacc, Array.toArray_toList]
      have new : ObjOk X.prog X.w (upd H2 h'.objs.size (.lst (as.map V.ref))) h2' h'.objs.size (.lst (as.map V.ref)) := by
        refine ⟨?_, as.map Value.ref, c, vals_refs as, ?_⟩
        · rw [List.length_map, hal]
          simp only [List.size_toArray]
          rw [sizeLine_eq]; omega
        · rw [← eacc]; exact hL
      have I5 : Inv X pins σ (upd H2 h'.objs.size (.lst (as.map V.ref))) { s1 with heap := h2', toks := tk } := I4.take (h' := h2') (t' := tk) (fun b ob _ q => q) (I1.fpOk (H' := H2) hLn HL) new
      exact ⟨.ref h'.objs.size, _, I5, rfl, q _ _ _ _ st HL hzz⟩
section
variable {K : PySem.W.Frag}
@[simp] def φListZ : Φ := fun xs => (eraseAll xs).bind fun ds => match ds with
  | [a, b] => match seqD a, seqD b with
    | some as, some bs => if small as.length then some (.ls ((zipD as bs).map .fz), [.fz a, .fz b]) else none
    | _, _ => none
  | _ => none
theorem os_listZ : OpSem K (rListZ K) φListZ := by
  intro vs xs F G H ho ok x ys e Q k
  unfold φListZ at e
  obtain ⟨ds, e1, e⟩ := bind_some e
  split at e
  · rename_i a b
    split at e
    · rename_i as bs e2 e3
      split at e
      · rename_i hz
        simp only [Option.some.injEq, Prod.mk.injEq] at e
        obtain ⟨rfl, rfl⟩ := e
        have ok1 : Ok G H (fun a => F a + (fun _ => 0 : FP) a) := ok.congr fun a => by simp
        obtain ⟨ok2, fr2⟩ := thaw_ok ok1
        have hd := OwnAll.frz (thaw_le ok1) xs vs F _ ho e1 thaw_at
        obtain ⟨v, w, rfl, h1, h2⟩ := dt2 hd
        obtain ⟨l, p, us, rfl, q1, r1⟩ := dt_seq h1 e2
        obtain ⟨m, p', ws, rfl, q2, r2⟩ := dt_seq h2 e3
        have hz' : as.length ≤ 1000000 := of_decide_eq_true hz
        refine ⟨l, m, p, p', us, ws, as, bs, thaw G H F, rfl, sqK_mono ok2.le q1, sqK_mono ok2.le q2, ok2.le, r1, r2, hz', fun G' H' q zs st hq hzs => ?_⟩
        obtain ⟨ok3, fr3, _⟩ := st.ok ok2
        obtain ⟨a1, a2, a3⟩ := ok_own (o := .lst zs) ok3 hq
        refine k (.ref q) (one q) (fun _ => 0) G' _ ?_ ?_ a1 (((fr2.congr (F1 := F) (fun a => by simp) fun _ => rfl).trans fr3).trans a2)
        · simp only [Own]
          exact ⟨q, zs, fun _ => 0, rfl, upd_same, ownAll_fz hzs, fun a => by simp⟩
        · exact ownAll_fz (ds := [a, b]) (DtAll.mono st.g _ _ hd)
      · cases e
    · cases e
  · cases e
end
end MP
namespace MP
open PySem L2
variable [LamT]
inductive F2x {α β : Type} (R : α → β → Prop) : List α → List β → Prop where
  | nil : F2x R [] []
  | cons {a : α} {b : β} {as : List α} {bs : List β} : R a b → F2x R as bs → F2x R (a :: as) (b :: bs)
theorem F2x.len {α β : Type} {R : α → β → Prop} : ∀ {as : List α} {bs : List β}, F2x R as bs → as.length = bs.length
  | _, _, .nil => rfl
  | _, _, .cons _ t => by simp [t.len]
@[simp] def mDs : List M → Sl → Option (List PyData × Sl)
  | [], ρ => some ([], ρ)
  | m :: ms, ρ => (m ρ).bind fun x => (erase x.1).bind fun d => (mDs ms x.2).bind fun r => some (d :: r.1, r.2)
@[simp] def selD : List Str → List PyData → Str → Option PyData
  | k :: ks, d :: ds, z => if k = z then some d else selD ks ds z
  | _, _, _ => none
@[simp] def strV : Vl → Option Str
  | .fz (.str z) => some z
  | _ => none
theorem strV_ok {x : Vl} {z : Str} (h : strV x = some z) : x = .fz (.str z) := by
  unfold strV at h
  split at h
  · simp only [Option.some.injEq] at h; rw [h]
  · cases h
@[simp] def mSel (ks : List Str) (ms : List M) (k : M) : M := fun ρ => (mDs ms ρ).bind fun p => (k p.2).bind fun q => (strV q.1).bind fun z => if ks.Nodup ∧ ks.length ≤ 15 ∧ ms.length = ks.length then (selD ks p.1 z).bind fun d => some (.fz d, q.2) else none
def prT (ks : List Str) (ts : List TE) : List (TE × TE) := List.zipWith (fun k t => (tC (.str k), t)) ks ts
theorem merge_app : ∀ (more kvs : List (L2.Key × V)), ((kvs ++ more).map (·.1)).Nodup → mergeK kvs more = kvs ++ more
  | [], kvs, _ => by simp [mergeK]
  | p :: r, kvs, h => by
    have e : putK kvs p.1 p.2 = kvs ++ [p] := by
      unfold putK
      rw [if_neg ?_]
      intro ha
      obtain ⟨q, hq, e⟩ := List.any_eq_true.mp ha
      rw [List.map_append, List.nodup_append] at h
      exact h.2.2 q.1 (List.mem_map.mpr ⟨q, hq, rfl⟩) p.1 (by simp) (of_decide_eq_true e)
    show mergeK (putK kvs p.1 p.2) r = _
    rw [e, merge_app r (kvs ++ [p]) (by rw [List.append_assoc]; exact h), List.append_assoc]
    rfl
def kvsOf (ks : List Str) (vs : List V) : List (L2.Key × V) := List.zipWith (fun k v => (.inr k, v)) ks vs
theorem kvs_keys : ∀ (ks : List Str) (vs : List V), vs.length = ks.length → (kvsOf ks vs).map (·.1) = ks.map .inr
  | [], [], _ => rfl
  | [], _ :: _, h => by simp at h
  | _ :: _, [], h => by simp at h
  | k :: ks, v :: vs, h => by
    have := kvs_keys ks vs (by simpa using h)
    simp only [kvsOf, List.zipWith_cons_cons, List.map_cons] at this ⊢
    rw [this]
section
variable {K : PySem.W.Frag} {np : Nat}
theorem sel_val {G : Hp} : ∀ {ks : List Str} {ds : List PyData} {vs : List V} {z : Str} {d : PyData}, DtAll K G ds vs → selD ks ds z = some d → ∃ v, valV (kvsOf ks vs) (.inr z) = some v ∧ Dt K G d v
  | [], ds, vs, z, d, h, e => by simp [selD] at e
  | k :: ks, [], vs, z, d, h, e => by simp [selD] at e
  | k :: ks, d0 :: ds, vs, z, d, h, e => by
    simp only [DtAll] at h
    obtain ⟨v, r, rfl, h1, h2⟩ := h
    simp only [selD] at e
    split at e
    · rename_i hk
      subst hk
      cases e
      exact ⟨v, valV_pos rfl, h1⟩
    · rename_i hk
      obtain ⟨v', e', h'⟩ := sel_val h2 e
      refine ⟨v', ?_, h'⟩
      show valV ((Sum.inr k, v) :: kvsOf ks r) (.inr z) = some v'
      rw [valV_neg (fun q => hk (by injection q))]
      exact e'
theorem sim_pairs {σ : St} : ∀ {ks : List Str} {ts : List TE} {ms : List M}, F2x (Sim K) ts ms → ts.length = ks.length → ∀ (ρ ρ' : Sl) (F : FP) (G : Hp) (H : Hp) (ds : List PyData), OwnE K G H ρ σ F → Ok G H F → mDs ms ρ = some (ds, ρ') → ∀ Q : List (V × V) → Hp → Prop,
    (∀ vs F' (G' : Hp) H', DtAll K G' ds vs → OwnE K G' H' ρ' σ F' → Ok G' H' F' → Fr G H F G' H' F' → Q ((kvsOf ks vs).map fun kv => (kV kv.1, kv.2)) H') → tPairs (prT ks ts) σ H Q
  | ks, _, _, .nil, hl, ρ, ρ', F, G, H, ds, hE, ok, e, Q, k => by
    simp only [mDs, Option.some.injEq, Prod.mk.injEq] at e
    obtain ⟨rfl, rfl⟩ := e
    cases ks with
    | nil => exact k [] F G H (by simp only [DtAll]) hE ok (Fr.refl ok)
    | cons _ _ => simp at hl
  | [], _, _, .cons _ _, hl, _, _, _, _, _, _, _, _, _, _, _ => by simp at hl
  | k0 :: ks, _, _, .cons (a := t) (b := m) (as := ts) (bs := ms) h1 h2, hl, ρ, ρ', F, G, H, ds, hE, ok, e, Q, k => by
    simp only [mDs] at e
    obtain ⟨⟨x, ρ1⟩, e1, e⟩ := bind_some e
    obtain ⟨d, e2, e⟩ := bind_some e
    obtain ⟨⟨ds', ρ2⟩, e3, e⟩ := bind_some e
    simp only [Option.some.injEq, Prod.mk.injEq] at e
    obtain ⟨rfl, rfl⟩ := e
    show t σ H fun y H2 => tPairs (prT ks ts) σ H2 fun ps H3 => Q ((.str k0, y) :: ps) H3
    refine h1 σ ρ F G H hE ok x ρ1 e1 _ fun v Fx F1 G1 H1 o1 E1 ok1 fr1 => ?_
    obtain ⟨ok2, fr2⟩ := thaw_ok ok1
    have hd := Own.frz (thaw_le ok1) x v Fx d o1 e2 thaw_at
    have E2 := OwnE.mono (thaw_le ok1) _ _ _ E1 fun _ _ => rfl
    refine sim_pairs h2 (by simpa using hl) ρ1 ρ2 F1 _ H1 ds' E2 ok2 e3 _ fun vs F' G' H' hds E3 ok3 fr3 => ?_
    refine k (v :: vs) F' G' H' ?_ E3 ok3 ((fr1.trans fr2).trans fr3)
    simp only [DtAll]
    exact ⟨v, vs, rfl, Dt.mono fr3.g _ _ hd, hds⟩
theorem sim_sel {ks : List Str} {ts : List TE} {ms : List M} {tk : TE} {k : M} (hs : F2x (Sim K) ts ms) (hk : Sim K tk k) : Sim K (tDGet (tDisp (prT ks ts)) tk) (mSel ks ms k) := by
  intro σ ρ F G H hE ok x ρ' e Q kk
  unfold mSel at e
  obtain ⟨⟨ds, ρ1⟩, e1, e⟩ := bind_some e
  obtain ⟨⟨y, ρ2⟩, e2, e⟩ := bind_some e
  obtain ⟨z, e3, e⟩ := bind_some e
  split at e
  case isFalse => cases e
  rename_i hc
  obtain ⟨hnd, h15, hml⟩ := hc
  obtain ⟨d, e4, e⟩ := bind_some e
  simp only [Option.some.injEq, Prod.mk.injEq] at e
  obtain ⟨rfl, rfl⟩ := e
  obtain rfl := strV_ok e3
  have htl : ts.length = ks.length := by rw [hs.len, hml]
  intro p hp
  obtain ⟨a1, a2, a3⟩ := ok_own (o := .dK []) ok hp
  have okF : Ok G (upd H p (.dK [])) F := a1.sub fun a => by omega
  refine sim_pairs hs htl ρ ρ1 F G _ ds (OwnE.mono (fun _ _ h => h) _ _ _ hE a3) okF e1 _ fun vs F1 G1 H1 hds E1 ok1 fr1 => ?_
  obtain ⟨b1, b2, b3⟩ := fr1.side (F1 := one p) a1 ok1
  have hp1 : H1 p = some (.dK []) := by rw [b3 p (by rw [one_self]; omega), upd_same]
  have lv : vs.length = ks.length := by
    have q1 := hds.len
    have q2 : ds.length = ms.length := by
      clear e4 hds q1
      have gen : ∀ {ms : List M} {ρ ρ' : Sl} {ds : List PyData}, mDs ms ρ = some (ds, ρ') → ds.length = ms.length := by
        intro ms
        induction ms with
        | nil =>
          intro ρ ρ' ds h
          simp only [mDs, Option.some.injEq, Prod.mk.injEq] at h
          rw [← h.1]; rfl
        | cons m ms ih =>
          intro ρ ρ' ds h
          simp only [mDs] at h
          obtain ⟨_, _, h⟩ := bind_some h
          obtain ⟨_, _, h⟩ := bind_some h
          obtain ⟨_, g, h⟩ := bind_some h
          simp only [Option.some.injEq, Prod.mk.injEq] at h
          rw [← h.1, List.length_cons, List.length_cons, ih g]
      exact gen e1
    omega
  have ekeys := kvs_keys ks vs lv
  have em : mergeK [] (kvsOf ks vs) = kvsOf ks vs := by
    have := merge_app (kvsOf ks vs) [] (by
      rw [List.nil_append, ekeys]
      exact List.Pairwise.map _ (fun a b h q => h (by injection q)) hnd)
    simpa using this
  have lk : (kvsOf ks vs).length = ks.length := by rw [← List.length_map (f := (·.1)), ekeys, List.length_map]
  refine ⟨hp1, kvsOf ks vs, rfl, by rw [lk]; exact h15, ?_⟩
  rw [em]
  obtain ⟨c1, c2, c3⟩ := ok_write (o' := .dK (kvsOf ks vs)) b1 hp1 (F' := F1) fun a => Nat.le_refl _
  have E2 := OwnE.mono (fun _ _ h => h) _ _ _ E1 c3
  have ok2 : Ok G1 (upd H1 p (.dK (kvsOf ks vs))) F1 := c1.sub fun a => by omega
  refine hk σ ρ1 F1 G1 _ E2 ok2 _ ρ2 e2 _ fun v Fx F2 G2 H2 o2 E3 ok3 fr3 => ?_
  have ev := o2.fzF
  simp only [Dt] at ev
  subst ev
  have fx := o2.fz0
  obtain ⟨d1, d2, d3⟩ := fr3.side (F1 := one p) c1 ok3
  have hp2 : H2 p = some (.dK (kvsOf ks vs)) := by rw [d3 p (by rw [one_self]; omega), upd_same]
  obtain ⟨w, hw, hdw⟩ := sel_val hds e4
  refine ⟨p, w, rfl, ?_, kk w (fun _ => 0) F2 G2 H2 (Own.ofD (Dt.mono fr3.g _ _ hdw)) E3 (ok3.congr fun a => by have := fx a; omega) ?_⟩
  · have := DGet.k (k := .inr z) hp2
    rw [hw] at this
    exact this
  · have f1 : Fr G H F G1 H1 (fun a => one p a + F1 a) := a2.trans b2
    have f2 := (f1.trans c2).trans d2
    exact f2.sub fun a => by have := fx a; show 0 + F2 a ≤ one p a + (Fx a + F2 a); omega
inductive Kx where
  | nm (j : Nat)
  | ct (n : Int)
def tKx : Kx → TE
  | .nm j => tVar j
  | .ct n => tC (.int n)
@[simp] def kxV : Kx → Sl → Option Int
  | .nm j, ρ => match ρ[j]? with
    | some (some (.fz (.int n))) => some n
    | _ => none
  | .ct n, _ => some n
theorem kx_ok {k : Kx} {σ : St} {ρ : Sl} {F : FP} {G H : Hp} {n : Int} (hE : OwnE K G H ρ σ F) (h : kxV k ρ = some n) : ∀ (H' : Hp) (Q : VK), Q (.int n) H' → tKx k σ H' Q := by
  cases k with
  | nm j =>
    simp only [kxV] at h
    split at h
    · rename_i e
      cases h
      obtain ⟨v, A, B, h1, h2, _⟩ := hE.take e
      obtain ⟨rfl, _⟩ := own_int h2
      exact fun H' Q q => ⟨_, h1, q⟩
    · cases h
  | ct m =>
    cases h
    exact fun H' Q q => q
@[simp] def get2 (x : Vl) (j m : Int) : Option Int := match x with
  | .ls xs => (ixN xs.length j).bind fun jj => match xs[jj]? with
    | some (.ls ys) => (ixN ys.length m).bind fun mm => match ys[mm]? with
      | some (.fz (.int a)) => some a
      | _ => none
    | _ => none
  | _ => none
@[simp] def put2 (x : Vl) (j m v : Int) : Option Vl := match x with
  | .ls xs => (ixN xs.length j).bind fun jj => match xs[jj]? with
    | some (.ls ys) => (ixN ys.length m).bind fun mm => some (.ls (xs.set jj (.ls (ys.set mm (.fz (.int v))))))
    | _ => none
  | _ => none
theorem own_get2 {G H : Hp} {x : Vl} {v : V} {A : FP} {j m a : Int} (h : Own K G H x v A) (e : get2 x j m = some a) : ∃ p ws pq rs, v = .ref p ∧ H p = some (.lst ws) ∧ atI ws j = some (.ref pq) ∧ H pq = some (.lst rs) ∧ atI rs m = some (.int a) ∧ A p ≠ 0 := by
  unfold get2 at e
  split at e
  · rename_i xs
    obtain ⟨jj, e1, e⟩ := bind_some e
    split at e
    · rename_i ys e2
      obtain ⟨mm, e3, e⟩ := bind_some e
      split at e
      · rename_i a' e4
        cases e
        simp only [Own] at h
        obtain ⟨p, ws, F', rfl, hp, hw, fA⟩ := h
        obtain ⟨q, F1, F2, g1, g2, g3, _⟩ := hw.at_ e2
        simp only [Own] at g2
        obtain ⟨pq, rs, F3, rfl, hpq, hr, _⟩ := g2
        obtain ⟨u, F5, F6, g5, g6, _⟩ := hr.at_ e4
        obtain ⟨rfl, _⟩ := own_int g6
        exact ⟨p, ws, pq, rs, rfl, hp, atI_of (by rw [← hw.len]; exact e1) g1, hpq, atI_of (by rw [← hr.len]; exact e3) g5, by rw [fA, one_self]; omega⟩
      · cases e
    · cases e
  · cases e
theorem own_put2 {G : Hp} {H : Hp} {x x' : Vl} {v : V} {A B : FP} {j m n : Int} (h : Own K G H x v A) (e : put2 x j m n = some x') (ok : Ok G H (fun a => A a + B a)) : ∃ p ws pq rs mm, v = .ref p ∧ H p = some (.lst ws) ∧ atI ws j = some (.ref pq) ∧ H pq = some (.lst rs) ∧ ixN rs.length m = some mm ∧
    ∃ A', Own K G (upd H pq (.lst (rs.set mm (.int n)))) x' v A' ∧ Ok G (upd H pq (.lst (rs.set mm (.int n)))) (fun a => A' a + B a) ∧ Fr G H (fun a => A a + B a) G (upd H pq (.lst (rs.set mm (.int n)))) (fun a => A' a + B a) ∧ ∀ a, B a ≠ 0 → upd H pq (.lst (rs.set mm (.int n))) a = H a := by
  unfold put2 at e
  split at e
  · rename_i xs
    obtain ⟨jj, e1, e⟩ := bind_some e
    split at e
    · rename_i ys e2
      obtain ⟨mm, e3, e⟩ := bind_some e
      simp only [Option.some.injEq] at e
      subst e
      simp only [Own] at h
      obtain ⟨p, ws, F', rfl, hp, hw, fB⟩ := h
      obtain ⟨q, F1, F2, g1, g2, g3, put⟩ := hw.at_ e2
      simp only [Own] at g2
      obtain ⟨pq, rs, F3, rfl, hpq, hr, f3⟩ := g2
      obtain ⟨F4, l4, q4⟩ := hr.setD mm (d := .int n) (v := .int n) dtInt
      have okp : Ok G H (fun a => one pq a + (F3 a + (one p a + F2 a + B a))) := ok.congr fun a => by show one pq a + (F3 a + (one p a + F2 a + B a)) = A a + B a; rw [fB, g3, f3]; omega
      have npq : ∀ a, one p a + F2 a + B a ≠ 0 → a ≠ pq := fun a ha z => by
        subst z
        have := okp.nd a
        rw [one_self] at this
        omega
      obtain ⟨a1, a2, a3⟩ := ok_write (o' := .lst (rs.set mm (.int n))) okp hpq (F' := fun a => F4 a + (one p a + F2 a + B a)) (fun a => by have := l4 a; show F4 a + (one p a + F2 a + B a) ≤ F3 a + (one p a + F2 a + B a); omega)
      refine ⟨p, ws, pq, rs, mm, rfl, hp, atI_of (by rw [← hw.len]; exact e1) g1, hpq, by rw [← hr.len]; exact e3, fun a => one p a + (one pq a + F4 a + F2 a), ?_, a1.congr fun a => ?_, a2.congr (fun a => ?_) fun a => ?_, fun a ha => upd_ne (npq a (by omega))⟩
      · have q5 := OwnAll.mono (fun _ _ h => h) _ _ _ q4 (H' := upd H pq (.lst (rs.set mm (.int n)))) fun a ha => a3 a (by have := l4 a; omega)
        have o6 : Own K G (upd H pq (.lst (rs.set mm (.int n)))) (.ls (ys.set mm (.fz (.int n)))) (.ref pq) (fun a => one pq a + F4 a) := by
          simp only [Own]
          exact ⟨pq, _, F4, rfl, upd_same, q5, fun _ => rfl⟩
        have o7 := put G (upd H pq (.lst (rs.set mm (.int n)))) _ _ (fun _ _ h => h) (fun a ha => upd_ne (npq a (by omega))) o6
        have hp7 : upd H pq (.lst (rs.set mm (.int n))) p = some (.lst ws) := by rw [upd_ne (npq p (by rw [one_self]; omega))]; exact hp
        simp only [Own]
        exact ⟨p, ws, _, rfl, hp7, o7, fun _ => rfl⟩
      · show one p a + (one pq a + F4 a + F2 a) + B a = one pq a + (F4 a + (one p a + F2 a + B a)); omega
      · rw [fB, g3, f3]; show _ = one pq a + (F3 a + (one p a + F2 a + B a)); omega
      · show one p a + (one pq a + F4 a + F2 a) + B a = one pq a + (F4 a + (one p a + F2 a + B a)); omega
    · cases e
  · cases e
@[simp] def slV (ρ : Sl) (i : Nat) : Option Vl := match ρ[i]? with
  | some (some x) => some x
  | _ => none
theorem slV_ok {ρ : Sl} {i : Nat} {x : Vl} (h : slV ρ i = some x) : ρ[i]? = some (some x) := by
  unfold slV at h
  split at h
  · rename_i e
    cases h
    exact e
  · cases h
theorem has_ok {ρ : Sl} {σ : St} {F : FP} {G H : Hp} {i : Nat} {u : Unit} (hE : OwnE K G H ρ σ F) (e : hasL ρ i = some u) : ∃ v, σ[i]? = some (some v) := by
  unfold hasL at e
  cases q : ρ[i]? with
  | none => rw [q] at e; cases e
  | some s0 =>
    cases s0 with
    | none => rw [q] at e; cases e
    | some x0 =>
      obtain ⟨v, A, B, h1, _⟩ := hE.take q
      exact ⟨v, h1⟩
@[simp] def mIx2e (i : Nat) (m1 : M) (k2 : Kx) : M := fun ρ => (hasL ρ i).bind fun _ => (m1 ρ).bind fun p => (intV p.1).bind fun j => (kxV k2 p.2).bind fun m => (slV p.2 i).bind fun x => (get2 x j m).bind fun a => some (.fz (.int a), p.2)
theorem sim_ix2e {i : Nat} {t1 : TE} {m1 : M} {k2 : Kx} (h1 : Sim K t1 m1) : Sim K (tOp (rIx K) (tOp (rIx K) (tVar i) t1) (tKx k2)) (mIx2e i m1 k2) := by
  intro σ ρ F G H hE ok x ρ' e Q k
  unfold mIx2e at e
  obtain ⟨_, e0, e⟩ := bind_some e
  obtain ⟨⟨kx, ρ1⟩, e1, e⟩ := bind_some e
  obtain ⟨j, ej, e⟩ := bind_some e
  obtain ⟨m, em, e⟩ := bind_some e
  obtain ⟨y, ey, e⟩ := bind_some e
  obtain ⟨a, ea, e⟩ := bind_some e
  simp only [Option.some.injEq, Prod.mk.injEq] at e
  obtain ⟨rfl, rfl⟩ := e
  obtain ⟨v0, hv0⟩ := has_ok hE e0
  obtain rfl := intV_ok ej
  refine ⟨v0, hv0, ?_⟩
  refine h1 σ ρ F G H hE ok _ ρ1 e1 _ fun vk Fk F1 G1 H1 o1 E1 ok1 fr1 => ?_
  obtain ⟨rfl, fk⟩ := own_int o1
  have hm := kx_ok E1 em
  obtain ⟨v', A, B, hv', hx, _⟩ := E1.take (slV_ok ey)
  rw [hv0] at hv'
  cases hv'
  obtain ⟨p, ws, pq, rs, rfl, hp, g1, hpq, g2, _⟩ := own_get2 hx ea
  refine .inl ⟨p, ws, j, .ref pq, rfl, rfl, .inl (.inl hp), g1, hm _ _ (.inl ⟨pq, rs, m, .int a, rfl, rfl, .inl (.inl hpq), g2, ?_⟩)⟩
  exact k (.int a) (fun _ => 0) F1 G1 H1 (Own.ofD dtInt) E1 (ok1.congr fun c => by have := fk c; omega) (fr1.congr (fun _ => rfl) fun c => by have := fk c; omega)
@[simp] def sSet2e (i : Nat) (m1 : M) (k2 : Kx) (f : M) : MS := fun ρ => (f ρ).bind fun y => (intV y.1).bind fun b => (hasL y.2 i).bind fun _ => (m1 y.2).bind fun p => (intV p.1).bind fun j => (kxV k2 p.2).bind fun m => (slV p.2 i).bind fun x => (put2 x j m b).bind fun x' => some (.nx, p.2.set i (some x'))
theorem ss_set2e {i : Nat} {t1 te : TE} {m1 f : M} {k2 : Kx} (h1 : Sim K t1 m1) (h : Sim K te f) : SimS K np (tAsg te (gSub (tOp (rIx K) (tVar i) t1) (tKx k2) rSetL)) (sSet2e i m1 k2 f) := by
  intro σ ρ F G H hE ok o ρ' e D p
  unfold sSet2e at e
  obtain ⟨⟨y, ρ1⟩, e1, e⟩ := bind_some e
  obtain ⟨b, eb, e⟩ := bind_some e
  obtain ⟨_, e0, e⟩ := bind_some e
  obtain ⟨⟨kx, ρ2⟩, e2, e⟩ := bind_some e
  obtain ⟨j, ej, e⟩ := bind_some e
  obtain ⟨m, em, e⟩ := bind_some e
  obtain ⟨x, ex, e⟩ := bind_some e
  obtain ⟨x', ex', e⟩ := bind_some e
  simp only [Option.some.injEq, Prod.mk.injEq] at e
  obtain ⟨rfl, rfl⟩ := e
  obtain rfl := intV_ok eb
  obtain rfl := intV_ok ej
  refine h σ ρ F G H hE ok _ ρ1 e1 _ fun vy Fy F1 G1 H1 o1 E1 ok1 fr1 => ?_
  obtain ⟨rfl, fy⟩ := own_int o1
  have ok1 := ok1.congr (F' := F1) fun c => by have := fy c; omega
  have fr1 := fr1.congr (F1 := F) (F2 := F1) (fun _ => rfl) fun c => by have := fy c; omega
  obtain ⟨v0, hv0⟩ := has_ok E1 e0
  refine ⟨v0, hv0, ?_⟩
  refine h1 σ ρ1 F1 G1 H1 E1 ok1 _ ρ2 e2 _ fun vk Fk F2 G2 H2 o2 E2 ok2 fr2 => ?_
  obtain ⟨rfl, fk⟩ := own_int o2
  have ok2 := ok2.congr (F' := F2) fun c => by have := fk c; omega
  have fr2 := fr2.congr (F1 := F1) (F2 := F2) (fun _ => rfl) fun c => by have := fk c; omega
  have hm := kx_ok E2 em
  have hsl := slV_ok ex
  obtain ⟨v', A, B, hv', hx, E3, fAB⟩ := E2.take hsl
  rw [hv0] at hv'
  cases hv'
  have ok3 : Ok G2 H2 (fun a => A a + B a) := ok2.congr fun a => (fAB a).symm
  obtain ⟨q, ws, pq, rs, mm, rfl, hp, g1, hpq, g2, A', o4, ok4, fr4, st⟩ := own_put2 hx ex' ok3
  refine .inl ⟨q, ws, j, .ref pq, rfl, rfl, .inl (.inl hp), g1, hm _ _ ⟨pq, rs, m, mm, rfl, rfl, hpq, g2, ?_⟩⟩
  have E4 := OwnE.mono (fun _ _ h => h) _ _ _ E3 (H' := upd H2 pq (.lst (rs.set mm (.int b)))) st
  have il : i < ρ2.length := (List.getElem?_eq_some_iff.mp hsl).1
  have E5 := E4.put (i := i) (by simp [il]) hv0 o4
  rw [List.set_set] at E5
  exact p σ _ G2 _ .refl E5 ok4 ((fr1.trans fr2).trans (fr4.congr (fun a => fAB a) fun _ => rfl))
@[simp] def isNo (ρ : Sl) (i : Nat) : Bool := match ρ[i]? with
  | some none => true
  | _ => false
theorem isNo_ok {ρ : Sl} {i : Nat} (h : isNo ρ i = true) : ρ[i]? = some none := by
  unfold isNo at h
  split at h
  · assumption
  · cases h
@[simp] def sAug2 (i : Nat) (m1 : M) (k2 : Kx) (op : Int → Int → Int) (f : M) : MS := fun ρ => (hasL ρ i).bind fun _ => (m1 ρ).bind fun p => (intV p.1).bind fun j => (kxV k2 p.2).bind fun m => (slV p.2 i).bind fun x => (get2 x j m).bind fun a =>
  (f (p.2.set i none)).bind fun y => (intV y.1).bind fun b => if isNo y.2 i = true then (put2 x j m (op a b)).bind fun x' => some (.nx, y.2.set i (some x')) else none
theorem ss_aug2 {i : Nat} {t1 te : TE} {m1 f : M} {k2 : Kx} {op : Int → Int → Int} (h1 : Sim K t1 m1) (h : Sim K te f) : SimS K np (tAugS (tOp (rIx K) (tVar i) t1) (tKx k2) te (rIxL K) (ipI op) rSetL) (sAug2 i m1 k2 op f) := by
  intro σ ρ F G H hE ok o ρ' e D p
  unfold sAug2 at e
  obtain ⟨_, e0, e⟩ := bind_some e
  obtain ⟨⟨kx, ρ1⟩, e1, e⟩ := bind_some e
  obtain ⟨j, ej, e⟩ := bind_some e
  obtain ⟨m, em, e⟩ := bind_some e
  obtain ⟨x, ex, e⟩ := bind_some e
  obtain ⟨a, ea, e⟩ := bind_some e
  obtain ⟨⟨y, ρ2⟩, e2, e⟩ := bind_some e
  obtain ⟨b, eb, e⟩ := bind_some e
  split at e
  case isFalse => cases e
  rename_i hno
  obtain ⟨x', ex', e⟩ := bind_some e
  simp only [Option.some.injEq, Prod.mk.injEq] at e
  obtain ⟨rfl, rfl⟩ := e
  obtain rfl := intV_ok ej
  obtain rfl := intV_ok eb
  obtain ⟨v0, hv0⟩ := has_ok hE e0
  refine ⟨v0, hv0, ?_⟩
  refine h1 σ ρ F G H hE ok _ ρ1 e1 _ fun vk Fk F1 G1 H1 o1 E1 ok1 fr1 => ?_
  obtain ⟨rfl, fk⟩ := own_int o1
  have ok1 := ok1.congr (F' := F1) fun c => by have := fk c; omega
  have fr1 := fr1.congr (F1 := F) (F2 := F1) (fun _ => rfl) fun c => by have := fk c; omega
  have hm := kx_ok E1 em
  have hsl := slV_ok ex
  obtain ⟨v', A, B, hv', hx, E2, fAB⟩ := E1.take hsl
  rw [hv0] at hv'
  cases hv'
  obtain ⟨q, ws, pq, rs, rfl, hp, g1, hpq, g2, aq⟩ := own_get2 hx ea
  have okAB : Ok G1 H1 (fun a => A a + B a) := ok1.congr fun a => (fAB a).symm
  refine .inl ⟨q, ws, j, .ref pq, rfl, rfl, .inl (.inl hp), g1, hm _ _ ⟨pq, rs, m, .int a, rfl, rfl, .inl (.inl hpq), g2, ?_⟩⟩
  refine h σ _ B G1 H1 E2 (okAB.sub fun a => by omega) _ ρ2 e2 _ fun vy Fy F3 G3 H3 o3 E3 ok3 fr3 => ?_
  obtain ⟨rfl, fy⟩ := own_int o3
  have ok3 := ok3.congr (F' := F3) fun c => by have := fy c; omega
  have fr3 := fr3.congr (F1 := B) (F2 := F3) (fun _ => rfl) fun c => by have := fy c; omega
  obtain ⟨s1, s2, s3⟩ := fr3.side (F1 := A) okAB ok3
  have hx3 := Own.mono fr3.g _ _ _ hx s3
  refine ⟨a, b, rfl, rfl, ?_⟩
  obtain ⟨q', ws', pq', rs', mm, z1, hp', g1', hpq', g2', A', o4, ok4, fr4, st⟩ := own_put2 hx3 ex' s1
  cases z1
  have ew : ws' = ws := by
    have := s3 q aq
    rw [hp, hp'] at this
    cases this
    rfl
  subst ew
  have ep : pq' = pq := by
    rw [g1] at g1'
    cases g1'
    rfl
  subst ep
  refine ⟨pq', rs', m, mm, rfl, rfl, hpq', g2', ?_⟩
  have E4 := OwnE.mono (fun _ _ h => h) _ _ _ E3 (H' := upd H3 pq' (.lst (rs'.set mm (.int (op a b))))) st
  have E5 := E4.put (i := i) (isNo_ok hno) hv0 o4
  exact p σ _ G3 _ .refl E5 ok4 (((fr1.trans ((s2.congr (fun a => fAB a) fun _ => rfl)))).trans fr4)
@[simp] noncomputable def sDPutM (h : HD) (i : Nat) (as : MA) (f : M) : MS := fun ρ => (mOp (φDPut h) (aEx f (aNm i as)) ρ).bind fun p => some (.nx, p.2)
theorem ss_dput {i : Nat} {te : TE} {f : M} {ta : TA} {as : MA} {r : RN} {h : HD} (o : OpD K r h) (hf : Sim K te f) (ha : SimA K ta as) : SimS K np (sDPut (tVar i) (tN r ta) te) (sDPutM h i as f) := by
  intro σ ρ F G H hE ok o' ρ' e D p
  obtain ⟨⟨x, ρ1⟩, e1, e⟩ := bind_some e
  simp only [Option.some.injEq, Prod.mk.injEq] at e
  obtain ⟨rfl, rfl⟩ := e
  have h0 := sim_op (os_dput o) (sa_ex hf (sa_nm (i := i) ha)) σ ρ F G H hE ok x ρ1 e1 (fun _ H' => D.nx σ H') fun v Fx F1 G1 H1 o1 E1 ok1 fr1 => p σ F1 G1 H1 .refl E1 (ok1.sub fun a => by omega) (fr1.sub fun a => by omega)
  exact h0
@[simp] def tmAll : List Ag → Option (List Vl)
  | [] => some []
  | .tm x :: us => (tmAll us).bind fun xs => some (x :: xs)
  | _ => none
theorem tm_ok {σ : St} {G H : Hp} : ∀ {us : List Ag} {xs : List Vl} {vs : List V} {F : FP}, AgOk K G H σ us vs F → tmAll us = some xs → OwnAll K G H xs vs F
  | [], xs, vs, F, h, e => by
    simp only [tmAll, Option.some.injEq] at e
    subst e
    simp only [OwnAll]
    exact h
  | .tm x :: us, xs, vs, F, h, e => by
    simp only [tmAll] at e
    obtain ⟨ys, e1, e⟩ := bind_some e
    cases e
    obtain ⟨v, r, F1, F2, rfl, h1, h2, f⟩ := h
    simp only [OwnAll]
    exact ⟨v, r, F1, F2, rfl, h1, tm_ok h2 e1, f⟩
  | .rf _ :: _, _, _, _, _, e => by simp [tmAll] at e
  | .nf _ _ _ _ :: _, _, _, _, _, e => by simp [tmAll] at e
@[simp] def mLstD (as : MA) : M := fun ρ => (as ρ).bind fun p => (tmAll p.1).bind fun xs => if small xs.length then some (.ls xs, p.2) else none
theorem sim_lstD {ta : TA} {as : MA} (ha : SimA K ta as) : Sim K (tN rLst ta) (mLstD as) := by
  intro σ ρ F G H hE ok x ρ' e Q k
  unfold mLstD at e
  obtain ⟨⟨us, ρ1⟩, e1, e⟩ := bind_some e
  obtain ⟨xs, e2, e⟩ := bind_some e
  split at e
  case isFalse => cases e
  rename_i hz
  simp only [Option.some.injEq, Prod.mk.injEq] at e
  obtain ⟨rfl, rfl⟩ := e
  refine ha σ ρ F G H hE ok us ρ1 e1 _ fun vs Fa F1 G1 H1 o1 E1 ok1 fr1 => ?_
  have hx := tm_ok o1 e2
  refine ⟨by rw [← hx.len]; exact small_line hz, fun p hp => ?_⟩
  obtain ⟨a1, a2, a3⟩ := ok_own (o := .lst vs) ok1 hp
  refine k (.ref p) (fun a => one p a + Fa a) F1 G1 _ ?_ (OwnE.mono (fun _ _ h => h) _ _ _ E1 fun a ha => a3 a (by omega)) (a1.congr fun a => by omega) ((fr1.trans a2).congr (fun _ => rfl) fun a => by omega)
  simp only [Own]
  exact ⟨p, vs, Fa, rfl, upd_same, OwnAll.mono (fun _ _ h => h) _ _ _ hx fun a ha => a3 a (by omega), fun _ => rfl⟩
end
end MP
namespace MP
open PySem L2
variable [LamT]
section
variable {K : PySem.W.Frag} {np : Nat}
@[simp] noncomputable def mMthF (φ : Φ) (i c k c2 : Nat) : M := fun ρ => match fldOf ρ i c k with
  | some (.ob c' xs) => if c' = c2 then (φ [.ob c2 xs]).bind fun z => match z.2 with
    | [y] => some (z.1, setFld ρ i k y)
    | _ => none
    else none
  | _ => none
theorem sim_mthF {φ : Φ} {i c k c2 : Nat} {f m : Str} {E : XK} (hc : ClsOk K c) (hf : (clsFlds c)[k]? = some f) (hm : m ∉ clsFlds c2) : Sim K (tMeth (He.ga K (clsName c2)) m (spOf K φ) [] E (tFld K (tVar i) f) tNil) (mMthF φ i c k c2) := by
  intro σ ρ F G H hE ok x ρ' e Q kk
  unfold mMthF at e
  split at e
  · rename_i c' xs q
    split at e
    · rename_i hcc
      subst hcc
      obtain ⟨⟨z, ys⟩, e1, e⟩ := bind_some e
      simp only at e
      split at e
      · rename_i y
        simp only [Option.some.injEq, Prod.mk.injEq] at e
        obtain ⟨rfl, rfl⟩ := e
        obtain ⟨p, dx, fs, w, F1, F2, a1, a2, a3, a4, a5, a6⟩ := hE.fld q
        have a4' := a4
        simp only [Own] at a4'
        obtain ⟨p', dx', vs, F', rfl, hp, hl, hx, fA⟩ := a4'
        refine ⟨_, a1, p, _, dx, fs, _, rfl, a2, hc.cl, hc.na f (List.mem_of_getElem? hf), a3 f (flds_nodup c) hf, p', dx', _, rfl, hp, zip_none hm, ?_⟩
        have ok1 : Ok G H (fun a => F2 a + F1 a) := ok.congr fun a => by have := a5 a; show F2 a + F1 a = F a; omega
        refine ⟨[.ob c' xs], F1, G, z, [y], ?_, ok1.sub fun a => by omega, e1, fun v Fx F3 G3 H3 b1 b2 b3 b4 => ?_⟩
        · simp only [OwnAll]
          exact ⟨.ref p', [], F1, fun _ => 0, rfl, a4, ⟨rfl, fun _ => rfl⟩, fun a => by simp⟩
        · obtain ⟨ok4, fr4, st⟩ := b4.side (F1 := F2) ok1 b3
          simp only [OwnAll] at b2
          obtain ⟨v', r', A, B, er, hy, ⟨er', fB⟩, fAB⟩ := b2
          subst er'
          simp only [List.nil_append, List.append_nil, List.cons.injEq, and_true] at er
          subst er
          have hE3 := a6 G3 H3 y A b4.g st hy
          refine kk v Fx _ G3 H3 b1 hE3 (ok4.congr fun a => ?_) (fr4.congr (fun a => ?_) fun a => ?_)
          · have := fAB a; have := fB a; show Fx a + (A a + F2 a) = F2 a + (Fx a + F3 a); omega
          · have := a5 a; show F a = F2 a + F1 a; omega
          · have := fAB a; have := fB a; show Fx a + (A a + F2 a) = F2 a + (Fx a + F3 a); omega
      · cases e
    · cases e
  · cases e
@[simp] def mFl2 (i c k c2 k2 : Nat) : M := fun ρ => match fldOf ρ i c k with
  | some (.ob c' xs) => if c' = c2 then (match xs[k2]? with
    | some (.fz d) => some (.fz d, ρ)
    | _ => none)
    else none
  | _ => none
theorem OwnAll.at_fz {G H : Hp} : ∀ {xs : List Vl} {vs : List V} {F : FP} {j : Nat} {d : PyData}, OwnAll K G H xs vs F → xs[j]? = some (.fz d) → ∃ v, vs[j]? = some v ∧ Dt K G d v
  | [], _, _, _, _, _, e => by simp at e
  | x :: xs, vs, F, 0, d, h, e => by
    simp only [List.getElem?_cons_zero, Option.some.injEq] at e
    subst e
    simp only [OwnAll] at h
    obtain ⟨v, r, A, B, rfl, h1, _, _⟩ := h
    exact ⟨v, rfl, h1.fzF⟩
  | x :: xs, vs, F, j + 1, d, h, e => by
    simp only [List.getElem?_cons_succ] at e
    simp only [OwnAll] at h
    obtain ⟨v, r, A, B, rfl, _, h2, _⟩ := h
    obtain ⟨w, a, b⟩ := h2.at_fz e
    exact ⟨w, by simpa using a, b⟩
theorem sim_fl2 {i c k c2 k2 : Nat} {f g : Str} (hc : ClsOk K c) (hf : (clsFlds c)[k]? = some f) (hc2 : ClsOk K c2) (hg : (clsFlds c2)[k2]? = some g) : Sim K (tFld K (tFld K (tVar i) f) g) (mFl2 i c k c2 k2) := by
  intro σ ρ F G H hE ok x ρ' e Q kk
  unfold mFl2 at e
  split at e
  · rename_i c' xs q
    split at e
    · rename_i hcc
      subst hcc
      split at e
      · rename_i d q2
        simp only [Option.some.injEq, Prod.mk.injEq] at e
        obtain ⟨rfl, rfl⟩ := e
        obtain ⟨p, dx, fs, w, F1, F2, a1, a2, a3, a4, a5, a6⟩ := hE.fld q
        simp only [Own] at a4
        obtain ⟨p', dx', vs, F', rfl, hp, hl, hx, fA⟩ := a4
        obtain ⟨v, b1, b2⟩ := hx.at_fz q2
        refine ⟨_, a1, p, _, dx, fs, _, rfl, a2, hc.cl, hc.na f (List.mem_of_getElem? hf), a3 f (flds_nodup c) hf, p', _, dx', _, v, rfl, hp, hc2.cl, hc2.na g (List.mem_of_getElem? hg), zip_lookup (flds_nodup c') hg b1, ?_⟩
        exact kk v (fun _ => 0) F G H (Own.ofD b2) hE (ok.congr fun a => by simp) ((Fr.refl ok).congr (fun _ => rfl) fun a => by simp)
      · cases e
    · cases e
  · cases e
def gFld (K : PySem.W.Frag) (ta : TE) (f : Str) : TG := fun v σ H Q => ta σ H fun x H2 => ∃ a C dx fs, x = .ref a ∧ H2 a = some (.ins C dx fs) ∧ Cls K C ∧ NoAttr K C f ∧ fs.length < 1000 ∧ Q σ (upd H2 a (.ins C dx (putF f v fs)))
theorem pg_fld {X : Cx} {o : Expr} {f : Str} {pos : Pos} {ta : TE} (ha : PE X o ta) : PG X (.Attribute o f pos) (gFld X.K ta f) := by
  refine ⟨fun pins s σ H v u Q I r h => ?_⟩
  refine PySem.W.kas_attr (thn (ha.run pins s σ H _ I h) fun ov s2 ⟨x, H2, I2, rx, a, C, dx, fs, ex, ea, c, n, l, q2⟩ => ?_)
  subst ex
  obtain rfl : ov = Value.ref a := rx
  exact setattr_ok I2 ea c n l r fun s3 I3 => ⟨σ, _, I3, q2⟩
theorem fld_write {G : Hp} {H : Hp} {ρ : Sl} {σ : St} {F Fy : FP} {i c k : Nat} {f : Str} {xs ys : List Vl} {y : Vl} {v : V} (hf : (clsFlds c)[k]? = some f) (E2 : OwnE K G H ρ σ F) (ok2 : Ok G H (fun a => Fy a + F a)) (q : ρ[i]? = some (some (.ob c xs))) (oy : Own K G H y v Fy)
    (e3 : putFld xs k y = some ys) : ∃ p dx fs, σ[i]? = some (some (.ref p)) ∧ H p = some (.ins (He.ga K (clsName c)) dx fs) ∧ fs.length < 1000 ∧ ∃ F' : FP, OwnE K G (upd H p (.ins (He.ga K (clsName c)) dx (putF f v fs))) (ρ.set i (some (.ob c ys))) σ F' ∧
      Ok G (upd H p (.ins (He.ga K (clsName c)) dx (putF f v fs))) F' ∧ Fr G H (fun a => Fy a + F a) G (upd H p (.ins (He.ga K (clsName c)) dx (putF f v fs))) F' := by
  obtain ⟨u, A, B, h1, h2, h3, ff⟩ := E2.take q
  simp only [Own] at h2
  obtain ⟨pp, dx, vs, F', rfl, hp, hl, hx, fA⟩ := h2
  obtain ⟨vs', F3, b1, b2, b3, b4⟩ := putFld_ok hf hl hx oy e3
  refine ⟨pp, dx, _, h1, hp, ?_, fun a => one pp a + (Fy a + F3 a) + B a, ?_⟩
  · rw [List.length_zip]
    have := flds_len c
    omega
  · rw [b1]
    have okp : Ok G H (fun a => one pp a + (Fy a + F' a + B a)) := ok2.congr fun a => by have := ff a; have := fA a; show one pp a + (Fy a + F' a + B a) = Fy a + F a; omega
    obtain ⟨w1, w2, w3⟩ := ok_write (o' := .ins (He.ga K (clsName c)) dx ((clsFlds c).zip vs')) okp hp (F' := fun a => Fy a + F3 a + B a) fun a => by have := b3 a; show Fy a + F3 a + B a ≤ Fy a + F' a + B a; omega
    have hobj : Own K G (upd H pp (.ins (He.ga K (clsName c)) dx ((clsFlds c).zip vs'))) (.ob c ys) (.ref pp) (fun a => one pp a + (Fy a + F3 a)) := by
      simp only [Own]
      exact ⟨pp, dx, vs', _, rfl, upd_same, b2, OwnAll.mono (fun _ _ z => z) _ _ _ b4 fun a ha => w3 a (by have := b3 a; show Fy a + F' a + B a ≠ 0; omega), fun _ => rfl⟩
    have hE3 := OwnE.put (OwnE.mono (fun _ _ z => z) _ _ _ h3 (H' := upd H pp (.ins (He.ga K (clsName c)) dx ((clsFlds c).zip vs'))) fun a ha => w3 a (show Fy a + F' a + B a ≠ 0 by omega)) (by
      have := (List.getElem?_eq_some_iff.mp q).1
      rw [List.getElem?_set_self this]) h1 hobj
    rw [List.set_set] at hE3
    refine ⟨hE3, w1.congr fun a => by show one pp a + (Fy a + F3 a) + B a = one pp a + (Fy a + F3 a + B a); omega, w2.congr (fun a => ?_) fun a => by show one pp a + (Fy a + F3 a) + B a = one pp a + (Fy a + F3 a + B a); omega⟩
    have := ff a; have := fA a
    show Fy a + F a = one pp a + (Fy a + F' a + B a)
    omega
@[simp] def sSetF2 (i c k k2 : Nat) (f : M) : MS := fun ρ => (f ρ).bind fun p => (erase p.1).bind fun d => match d with
  | .tuple [d1, d2] => (match p.2[i]? with
    | some (some (.ob c' xs)) => if c' = c then (putFld xs k (.fz d1)).bind fun ys => (putFld ys k2 (.fz d2)).bind fun zs => some (.nx, p.2.set i (some (.ob c zs))) else none
    | _ => none)
  | _ => none
theorem ss_setF2 {i c k k2 : Nat} {f g : Str} {te : TE} {m : M} (hc : ClsOk K c) (hf : (clsFlds c)[k]? = some f) (hg : (clsFlds c)[k2]? = some g) (h : Sim K te m) :
    SimS K np (tAsg te (gTup K 2 (gCons (gFld K (tVar i) f) (gCons (gFld K (tVar i) g) gNil)))) (sSetF2 i c k k2 m) := by
  intro σ ρ F G H hE ok o ρ' e D p
  obtain ⟨⟨x, ρ1⟩, e1, e⟩ := bind_some e
  obtain ⟨d, e2, e⟩ := bind_some e
  simp only at e
  split at e
  · rename_i d1 d2
    split at e
    · rename_i c' xs q
      split at e
      · rename_i hcc
        subst hcc
        obtain ⟨ys, e3, e⟩ := bind_some e
        obtain ⟨zs, e4, e⟩ := bind_some e
        simp only [Option.some.injEq, Prod.mk.injEq] at e
        obtain ⟨rfl, rfl⟩ := e
        refine h σ ρ F G H hE ok x ρ1 e1 _ fun v Fx F1 G1 H1 o1 E1 ok1 fr1 => ?_
        obtain ⟨ok2, fr2⟩ := thaw_ok ok1
        have hd := Own.frz (thaw_le ok1) x v Fx _ o1 e2 thaw_at
        have E2 := OwnE.mono (thaw_le ok1) _ _ _ E1 (H' := H1) fun _ _ => rfl
        have fr12 := fr1.trans fr2
        simp only [Dt] at hd
        obtain ⟨a, vs, rfl, hq, hd⟩ := hd
        simp only [DtAll] at hd
        obtain ⟨v1, r1, rfl, hd1, v2, r2, rfl, hd2, rfl⟩ := hd
        refine ⟨a, _, rfl, sqT_mono ok2.le hq, rfl, ?_⟩
        obtain ⟨p1, dx, fs, h1, hp1, l1, F3, E3, ok3, fr3⟩ := fld_write (Fy := fun _ => 0) hf E2 (ok2.congr fun a => by simp) q (Own.ofD hd1) e3
        refine ⟨v1, [v2], rfl, _, h1, p1, _, dx, fs, rfl, hp1, hc.cl, hc.na f (List.mem_of_getElem? hf), l1, ?_⟩
        have q3 : (ρ1.set i (some (Vl.ob c' ys)))[i]? = some (some (Vl.ob c' ys)) := by
          rw [List.getElem?_set_self (List.getElem?_eq_some_iff.mp q).1]
        obtain ⟨p2, dx2, fs2, h2, hp2, l2, F4, E4, ok4, fr4⟩ := fld_write (Fy := fun _ => 0) hg E3 (ok3.congr fun a => by simp) q3 (Own.ofD hd2) e4
        refine ⟨v2, [], rfl, _, h2, p2, _, dx2, fs2, rfl, hp2, hc.cl, hc.na g (List.mem_of_getElem? hg), l2, rfl, ?_⟩
        rw [List.set_set] at E4
        refine p σ F4 _ _ .refl E4 ok4 ((fr12.trans (fr3.congr (fun a => by simp) fun _ => rfl)).trans (fr4.congr (fun a => by simp) fun _ => rfl))
      · cases e
    · cases e
  · cases e
@[simp] def sPar3 (i j l : Nat) (f g h : M) : MS := fun ρ => (f ρ).bind fun p => (g p.2).bind fun q => (h q.2).bind fun r => if i < r.2.length ∧ j < r.2.length ∧ l < r.2.length then some (.nx, ((r.2.set i (some p.1)).set j (some q.1)).set l (some r.1)) else none
theorem ss_par3 {i j l : Nat} {t u w : TE} {f g h : M} (h1 : Sim K t f) (h2 : Sim K u g) (h3 : Sim K w h) (hi : np ≤ i) (hj : np ≤ j) (hl : np ≤ l) : SimS K np (tPar3 i j l (tCons t (tCons u (tCons w tNil)))) (sPar3 i j l f g h) := by
  intro σ ρ F G H hE ok o ρ' e D p
  obtain ⟨⟨x, ρ1⟩, e1, e⟩ := bind_some e
  obtain ⟨⟨y, ρ2⟩, e2, e⟩ := bind_some e
  obtain ⟨⟨z, ρ3⟩, e3, e⟩ := bind_some e
  simp only at e
  split at e
  · rename_i hlen
    simp only [Option.some.injEq, Prod.mk.injEq] at e
    obtain ⟨rfl, rfl⟩ := e
    refine h1 σ ρ F G H hE ok x ρ1 e1 _ fun v Fx F1 G1 H1 o1 E1 ok1 fr1 => ?_
    refine h2 σ ρ1 F1 G1 H1 E1 (ok1.sub fun a => by omega) y ρ2 e2 _ fun w Fy F2 G2 H2 o2 E2 ok2 fr2 => ?_
    obtain ⟨ok3, fr3, st3⟩ := fr2.side (F1 := Fx) ok1 ok2
    have o1' := Own.mono fr2.g x v Fx o1 st3
    have okA : Ok G2 H2 (fun a => (fun a => Fx a + Fy a) a + F2 a) := ok3.congr fun a => by show Fx a + Fy a + F2 a = Fx a + (Fy a + F2 a); omega
    refine h3 σ ρ2 F2 G2 H2 E2 (okA.sub fun a => by show F2 a ≤ Fx a + Fy a + F2 a; omega) z ρ3 e3 _ fun w3 Fz F3 G3 H3 o3 E3 ok5 fr5 => ?_
    obtain ⟨ok6, fr6, st6⟩ := fr5.side (F1 := fun a => Fx a + Fy a) okA ok5
    have o1'' := Own.mono fr5.g x v Fx o1' fun a ha => st6 a (show Fx a + Fy a ≠ 0 by omega)
    have o2'' := Own.mono fr5.g y w Fy o2 fun a ha => st6 a (show Fx a + Fy a ≠ 0 by omega)
    refine ⟨v, w, w3, rfl, ?_⟩
    obtain ⟨F4, l4, q4⟩ := E3.setS hlen.1 o1''
    obtain ⟨F5, l5, q5⟩ := q4.setS (i := j) (by rw [List.length_set]; exact hlen.2.1) o2''
    obtain ⟨F6, l6, q6⟩ := q5.setS (i := l) (by rw [List.length_set, List.length_set]; exact hlen.2.2) o3
    have lz : ∀ a, Fz a + F6 a ≤ Fx a + Fy a + (Fz a + F3 a) := fun a => by have := l4 a; have := l5 a; have := l6 a; omega
    exact p _ _ G3 H3 (((keep_set hi).trans (keep_set hj)).trans (keep_set hl)) q6 (ok6.sub lz) ((((fr1.trans fr3).congr (F2 := fun a => (fun a => Fx a + Fy a) a + F2 a) (fun _ => rfl) fun a => by show Fx a + Fy a + F2 a = Fx a + (Fy a + F2 a); omega).trans fr6).sub lz)
  · cases e
@[simp] def mSelC (t : List (Str × Int)) (f : M) : M := fun ρ => (f ρ).bind fun p => match p.1 with
  | .fz (.str z) => (t.lookup z).map fun i => (.fz (.int i), p.2)
  | _ => none
def tSelC (t : List (Str × Int)) (te : TE) : TE := fun σ H Q => te σ H fun y H2 => ∃ z i, y = .str z ∧ t.lookup z = some i ∧ Q (.int i) H2
theorem sim_selC {t : List (Str × Int)} {te : TE} {m : M} (h : Sim K te m) : Sim K (tSelC t te) (mSelC t m) := by
  intro σ ρ F G H hE ok x ρ' e Q kk
  obtain ⟨⟨y, ρ1⟩, e1, e⟩ := bind_some e
  simp only at e
  split at e
  · rename_i z
    obtain ⟨i, e2, e⟩ := Option.map_eq_some_iff.mp e
    simp only [Prod.mk.injEq] at e
    obtain ⟨rfl, rfl⟩ := e
    refine h σ ρ F G H hE ok _ ρ1 e1 _ fun v Fx F1 G1 H1 o1 E1 ok1 fr1 => ?_
    have hv := o1.fzF
    simp only [Dt] at hv
    subst hv
    have f0 := o1.fz0
    refine ⟨z, i, rfl, e2, kk _ (fun _ => 0) F1 G1 H1 (Own.ofD dtInt) E1 (ok1.congr fun a => by rw [f0]) (fr1.congr (fun _ => rfl) fun a => by rw [f0])⟩
  · cases e
end
end MP
namespace MP
open PySem PySem.Spec PyProof.Rows L2
variable [LamT]
def txtD : PyData → Str
  | .str x => x
  | d => d.shown
def txtOk (d : PyData) : Bool := d.showable && decide (d.depth ≤ 50) && decide (d.shown.length ≤ 16000000)
@[simp] def hStr : HD
  | [d] => if txtOk d then some (.dat (.str (txtD d))) else none
  | _ => none
def rStr (K : PySem.W.Frag) : RN := fun xs H Q => ∃ (v : V) (d : PyData) (G : Hp), xs = [v] ∧ ShD K G H d v ∧ Le G H ∧ txtOk d = true ∧ Q (.str (txtD d)) H
theorem od_str {K : PySem.W.Frag} : OpD K (rStr K) hStr := by
  intro ds vs G H le hs res e Q k
  unfold hStr at e
  split at e
  · split at e
    · rename_i hz
      cases e
      obtain ⟨v, rfl, h1⟩ := sh1 hs
      exact ⟨_, _, G, rfl, h1, le, hz, k _ dtStr⟩
    · cases e
  · cases e
mutual
theorem dt_nodict {K : PySem.W.Frag} {G : Hp} : ∀ (d : PyData) (v : V), Dt K G d v → d.hasDict = false
  | .none, _, _ => by simp only [PyData.hasDict]
  | .bool _, _, _ => by simp only [PyData.hasDict]
  | .int _, _, _ => by simp only [PyData.hasDict]
  | .str _, _, _ => by simp only [PyData.hasDict]
  | .list ds, v, h => by
    simp only [Dt] at h
    obtain ⟨a, xs, _, _, hd⟩ := h
    simp only [PyData.hasDict]
    exact dts_nodict ds xs hd
  | .tuple ds, v, h => by
    simp only [Dt] at h
    obtain ⟨a, xs, _, _, hd⟩ := h
    simp only [PyData.hasDict]
    exact dts_nodict ds xs hd
  | .dict _, v, h => by simp only [Dt] at h
theorem dts_nodict {K : PySem.W.Frag} {G : Hp} : ∀ (ds : List PyData) (vs : List V), DtAll K G ds vs → PyData.hasDictAll ds = false
  | [], _, _ => by simp only [PyData.hasDictAll]
  | d :: ds, vs, h => by
    simp only [DtAll] at h
    obtain ⟨v, r, _, h1, h2⟩ := h
    simp only [PyData.hasDictAll, dt_nodict d v h1, dts_nodict ds r h2, Bool.or_false]
end
theorem sh_nodict {K : PySem.W.Frag} {G H : Hp} {d : PyData} {v : V} (h : ShD K G H d v) : d.hasDict = false := by
  cases d with
  | list ds =>
    obtain ⟨p, ws, rfl, _, hd⟩ := h
    simp only [PyData.hasDict]
    exact dts_nodict (K := K) (G := G) ds ws hd
  | none => exact dt_nodict (K := K) (G := G) _ v h
  | bool _ => exact dt_nodict (K := K) (G := G) _ v h
  | int _ => exact dt_nodict (K := K) (G := G) _ v h
  | str _ => exact dt_nodict (K := K) (G := G) _ v h
  | tuple _ => exact dt_nodict (K := K) (G := G) _ v h
  | dict _ => exact dt_nodict (K := K) (G := G) _ v h
theorem sh_reads {X : Cx} {pins : List (Addr × Obj)} {σ : L2.St} {H : Hp} {s : Shared} (I : Inv X pins σ H s) {G : Hp} (le : Le G H) {d : PyData} {v : V} {u : Value} (h : ShD X.K G H d v) (r : RelV v u) : ∃ as, Reads s.heap u d as := by
  cases d with
  | list ds =>
    obtain ⟨p, ws, rfl, q, hd⟩ := h
    cases r
    obtain ⟨its, rv, o, e, hc, n, hdat⟩ := seqK (l := true) I (show SqK X.K true H p ws from .inl q)
    obtain ⟨as, ra⟩ := dts_reads I le ds ws its hd rv
    exact ⟨_, .list e hc hdat (by simpa using ra)⟩
  | none => exact dt_reads I le _ v u h r
  | bool _ => exact dt_reads I le _ v u h r
  | int _ => exact dt_reads I le _ v u h r
  | str _ => exact dt_reads I le _ v u h r
  | tuple _ => exact dt_reads I le _ v u h r
  | dict _ => exact dt_reads I le _ v u h r
theorem txt_ref {X : Cx} {pins : List (Addr × Obj)} {σ : L2.St} {H : Hp} {s : Shared} {Q : VK} {E : Value → Shared → Prop} {G : Hp} {d : PyData} {a : Addr} (hu : X.A.units + 60 < cLine) (hg : X.A.guards = some []) (I : Inv X pins σ H s) (le : Le G H)
    (hd : ShD X.K G H d (.ref a)) (hok : txtOk d = true) (q : Q (.str d.shown) H) : wpAny (model X.prog X.w) X.A (call (.type "str") [.ref a]) (fun u s' => EP X pins σ Q u s') E s := by
  simp only [txtOk, Bool.and_eq_true, decide_eq_true_eq] at hok
  obtain ⟨⟨h1, h2⟩, h3⟩ := hok
  obtain ⟨as, ra⟩ := sh_reads I le hd rfl
  exact str_of_reads ra h1 (PyData.noDict_hsm (sh_nodict hd)) hg (by omega) (fun _ _ e => e) (fun h' u tk hk => ⟨.str _, H, I.kept (t' := tk) hk, ⟨_, rfl⟩, q⟩) (by rw [sizeLine_eq]; omega)
theorem call_str {X : Cx} (hu : X.A.units + 60 < cLine) (hg : X.A.guards = some []) : CallR X (.type "str") (rStr X.K) := by
  intro pins s σ H xs us Q I r h
  obtain ⟨v, d, G, rfl, hd, le, hok, q⟩ := h
  obtain ⟨u, rfl, r1⟩ := vals1 r
  cases d with
  | none =>
    simp only [ShD, Dt] at hd
    subst hd
    cases r1
    exact P.str_of_none ⟨.str _, H, I.tok _, ⟨_, rfl⟩, q⟩
  | bool b =>
    simp only [ShD, Dt] at hd
    subst hd
    cases r1
    exact P.str_of_bool ⟨.str _, H, I.tok _, ⟨_, rfl⟩, q⟩
  | int i =>
    simp only [ShD, Dt] at hd
    subst hd
    obtain ⟨t, rfl⟩ := r1
    simp only [txtOk, PyData.showable, Bool.and_eq_true, decide_eq_true_eq] at hok
    exact P.str_of_int hok.1.1 ⟨.str _, H, I.tok _, ⟨_, rfl⟩, q⟩
  | str z =>
    simp only [ShD, Dt] at hd
    subst hd
    obtain ⟨t, rfl⟩ := r1
    exact P.str_of_str ⟨.str _, H, I, ⟨_, rfl⟩, q⟩
  | list ds =>
    have hd0 := hd
    simp only [ShD, Dt] at hd
    obtain ⟨a, xs, rfl, _⟩ := hd
    cases r1
    exact txt_ref hu hg I le hd0 hok q
  | tuple ds =>
    have hd0 := hd
    simp only [ShD, Dt] at hd
    obtain ⟨a, xs, rfl, _⟩ := hd
    cases r1
    exact txt_ref hu hg I le hd0 hok q
  | dict _ => simp only [ShD, Dt] at hd
@[simp] noncomputable def frzM {α : Type} (i c k : Nat) (m : Sl → Option (α × Sl)) : Sl → Option (α × Sl) := fun ρ => (fldOf ρ i c k).bind fun y => (erase y).bind fun d => m (setFld ρ i k (.fz d))
theorem ss_frz {K : PySem.W.Frag} {np i c k : Nat} {t : TS} {m : MS} (h : SimS K np t m) : SimS K np t (frzM i c k m) := by
  intro σ ρ F G H hE ok x ρ' e D p
  obtain ⟨y, e1, e⟩ := bind_some e
  obtain ⟨d, e2, e⟩ := bind_some e
  obtain ⟨pp, dx, fs, w, F1, F2, a1, a2, a3, a4, a5, a6⟩ := hE.fld e1
  have ok1 : Ok G H (fun a => F1 a + F2 a) := ok.congr fun a => by rw [a5]
  obtain ⟨ok2, fr2⟩ := thaw_ok ok1
  have hd := Own.frz (thaw_le ok1) y w F1 d a4 e2 thaw_at
  have hN : OwnE K (thaw G H F1) H (setFld ρ i k (.fz d)) σ F2 := (a6 _ H (.fz d) (fun _ => 0) (thaw_le ok1) (fun _ _ => rfl) (Own.ofD hd)).congr fun a => by simp
  have fr : Fr G H F (thaw G H F1) H F2 := fr2.congr (fun a => a5 a) fun a => rfl
  exact h σ _ F2 _ H hN ok2 x ρ' e D (p.later .refl fr rfl (fun _ => rfl) (fun _ => rfl) fun _ => rfl)
end MP
namespace MP
open PySem PySem.Spec PyProof.Rows L2
variable [LamT]
@[simp] def mTold (f : M) : M := fun ρ => (f ρ).bind fun p => (erase p.1).bind fun d => some (.fz (.tuple [.str "told", d]), p.2)
def TTold (tl : XK → Hp → VK → Prop) (H : Hp) (Q : VK) : Prop := ∀ Q' : VK, (∀ v H', (∀ p, H' p = none → Q (.ref p) (upd H' p (.tup [.str "told", v]))) → Q' v H') → tl (fun _ _ _ => False) H Q'
def tTold (te : TE) : TE := LamX.tLam LamT.T TTold fun _ => te
def lamG (G H1 : Hp) : Hp := fun a => match H1 a with
  | some (.ext f) => some (.ext f)
  | some (.tup xs) => some (.tup xs)
  | _ => G a
section
variable {K : PySem.W.Frag}
theorem lam_ok {G H H1 : Hp} {F : FP} (ok : Ok G H F) (eN : LamX.ExtN H H1) (T1 : LamX.Tabs LamT.T H1) : Ok (lamG G H1) H1 F ∧ Fr G H F (lamG G H1) H1 F ∧ ∀ a, F a ≠ 0 → H1 a = H a := by
  have st : ∀ a, F a ≠ 0 → ∃ o, H a = some o ∧ H1 a = some o ∧ ∀ ps, o ≠ .tbl ps := fun a h => by
    obtain ⟨o, e, n⟩ := vac_ex (ok.novac h)
    exact ⟨o, e, eN a o e n, n⟩
  have gs : ∀ a o, G a = some o → H1 a = some o ∧ ∀ ps, o ≠ .tbl ps := fun a o h => by
    have e := ok.le a o h
    have n : ∀ ps, o ≠ .tbl ps := fun ps z => by
      subst z
      rw [(ok.nt a ps e).2] at h; cases h
    exact ⟨eN a o e n, n⟩
  have g1 : ∀ a o, G a = some o → lamG G H1 a = some o := fun a o h => by
    obtain ⟨e, _⟩ := gs a o h
    unfold lamG
    rw [e]
    cases o <;> first | rfl | exact h
  have ext : ∀ a f, H1 a = some (.ext f) → lamG G H1 a = some (.ext f) := fun a f h => by unfold lamG; rw [h]
  have old : ∀ {a : Addr} {o : HO}, H1 a = some o → ¬ Vac H a → H a = some o := fun {a o} h n => by
    obtain ⟨o', e, n'⟩ := vac_ex n
    have := eN a o' e n'
    rw [h] at this
    rw [e, this]
  refine ⟨⟨fun a o h => ?_, ok.nd, fun a h => ?_, fun a h => ?_, fun a xs h => by unfold lamG; rw [h], fun a ps h => ?_, fun p hp => ?_, ext⟩, ⟨g1, fun a o h _ n => eN a o h n, fun a h => .inl h, fun a h => ?_, fun a h => ?_⟩, fun a h => ?_⟩
  · unfold lamG at h
    split at h
    · rename_i f q
      cases h
      exact q
    · rename_i xs q
      cases h
      exact q
    · exact (gs a o h).1
  · obtain ⟨o, e, e1, n⟩ := st a h
    have gn := ok.dj a h
    unfold lamG
    rw [e1]
    cases o with
    | ext f => rw [ok.cd a f e] at gn; cases gn
    | tup xs => rw [ok.tu a xs e] at gn; cases gn
    | _ => exact gn
  · obtain ⟨o, e, e1, n⟩ := st a h
    rw [e1]; simp
  · refine ⟨?_, ?_⟩
    · by_cases q : F a = 0
      · exact q
      · obtain ⟨o, e, e1, n⟩ := st a q
        rw [h] at e1
        exact absurd (Option.some.inj e1).symm (n ps)
    · unfold lamG
      rw [h]
      cases q : G a with
      | none => rfl
      | some o =>
        obtain ⟨e, n⟩ := gs a o q
        rw [h] at e
        exact absurd (Option.some.inj e).symm (n ps)
  · obtain ⟨ps, e1, e2, e3⟩ := T1 p hp
    exact ⟨ps, e1, e2, fun pos cv hc => by
      obtain ⟨c, a, b⟩ := e3 pos cv hc
      exact ⟨c, a, ext c _ b⟩⟩
  · by_cases z : Vac H a
    · exact .inr (.inr z)
    · refine .inl fun gn => ?_
      unfold lamG at h
      split at h
      · rename_i f q
        rw [ok.cd a f (old q z)] at gn; cases gn
      · rename_i xs q
        rw [ok.tu a xs (old q z)] at gn; cases gn
      · exact h gn
  · obtain ⟨o, e, n⟩ := vac_ex h
    exact vac_not (eN a o e n) n
  · obtain ⟨o, e, e1, n⟩ := st a h
    rw [e, e1]
theorem sim_told {te : TE} {f : M} (h : Sim K te f) : Sim K (tTold te) (mTold f) := by
  intro σ ρ F G H hE ok x ρ' e Q k
  obtain ⟨⟨x1, ρ1⟩, e1, e⟩ := bind_some e
  obtain ⟨d, e2, e⟩ := bind_some e
  simp only [Option.some.injEq, Prod.mk.injEq] at e
  obtain ⟨rfl, rfl⟩ := e
  refine ⟨fun p hp => ?_, fun H1 eN T1 => ?_⟩
  · obtain ⟨ps, a, b⟩ := ok.tb p hp
    exact ⟨ps, a, b.1, fun pos cv hc => by
      obtain ⟨c, z1, z2⟩ := b.2 pos cv hc
      exact ⟨c, z1, ok.le _ _ z2⟩⟩
  · obtain ⟨ok1, fr1, st1⟩ := lam_ok ok eN T1
    have E1 := OwnE.mono fr1.g ρ σ F hE st1
    intro Q' mono
    refine h σ ρ F _ H1 E1 ok1 x1 ρ1 e1 _ fun v Fx F2 G2 H2 o2 E2 ok2 fr2 => mono v H2 fun p hp => ?_
    have hd := Own.frz (thaw_le ok2) x1 v Fx d o2 e2 thaw_at
    obtain ⟨ok3, fr3⟩ := thaw_ok ok2
    obtain ⟨ok4, fr4, st4⟩ := ok_new (o := .tup [.str "told", v]) ok3 hp
    refine k (.ref p) (fun _ => 0) F2 _ _ (Own.ofD ?_) (OwnE.mono (fun a o z => fr4.g a o (fr3.g a o z)) _ _ _ E2 st4) (ok4.congr fun a => by simp) ((((fr1.trans fr2).trans fr3).trans fr4).congr (fun _ => rfl) fun a => by simp)
    simp only [Dt]
    refine ⟨p, [.str "told", v], rfl, .inl (.inl upd_same), ?_⟩
    simp only [DtAll]
    exact ⟨.str "told", [v], rfl, rfl, v, [], rfl, Dt.mono fr4.g _ _ hd, rfl⟩
end
end MP
namespace MP
open PySem PySem.Spec PyProof.Rows L2
section
variable {X : Cx}
end
end MP
namespace MPH
open PySem HotX
section
variable {prog : Program} {w : World} {A : Around} {E : Value → Shared → Prop} {s : Shared} {x1 : Addr}
theorem list_stop {p l : Addr} {k : Nat} {zs : Array Value} {Q : Value → Shared → Prop} (hot : HotAt A x1 s.heap) (hp : s.heap.IsListIter p l k) (hl : s.heap.IsList l zs) (out : zs[k]? = none) (ne : x1 ≠ p)
    (done : ∀ h' e, Heap.ExtBut p s.heap h' → (∃ o, h'.get? e = some o ∧ o.cls = .type "StopIteration") → E (.ref e) { s with heap := h' }) : wpAny (model prog w) A (Builtin.SmallTypes.nextOf (.ref p)) Q E s := by
  obtain ⟨op, gp, cp, dp⟩ := id hp
  obtain ⟨ol, gl, _, nl, dl⟩ := hl
  obtain ⟨hh, o1, v1, g1, d1, c1⟩ := hot
  unfold Builtin.SmallTypes.nextOf
  refine wpAny_bind (wpAny_callSpecial?_slot (name := Str.ofString "__next__") hp.typeIs slot_listiter_next (wpAny_call_entry slot_listiter_next hp.typeIs entry_listiter_next ?_ (args_listiter_next _)))
  show wpAny _ _ (field (.ref p) 0 >>= _) _ _ s
  refine wpAny_bind (wpAny_field gp dp (x := .ref l) rfl ?_)
  have nl0 : ¬ ((Value.ref l == Value.none) = true) := by simp
  rw [if_neg nl0]
  show wpAny _ _ (field (.ref p) 1 >>= _) _ _ s
  refine wpAny_bind (wpAny_field gp dp (x := .int k 0) rfl ?_)
  show wpAny _ _ (seqItems? (.ref l) >>= _) _ _ s
  refine wpAny_bind (wpAny_seqItems gl dl ?_)
  simp only [Int.toNat_natCast, out]
  refine wpAny_bind (wpAny_rule (wpAny_bind (wpAny_setField gp dp (by simp) ?_)))
  refine wpAny_bind ?_
  simp only [newExc, newTuple]
  refine wpAny_bind (wpAny_newObj_type ?_ (by size_fits))
  refine wpAny_bind (m := firstArgMember _ _) (wpAny_of_eq (a := Value.none) (by first | rfl | (simp only [firstArgMember]; rfl)) ?_)
  refine wpAny_newObj_type ?_ (by size_fits)
  have sb := Heap.SameBut.update s.heap p (Obj.mapFields fun x => x.setIfInBounds 0 Value.none)
  have up : ∀ b o, b ≠ p → s.heap.get? b = some o → ((s.heap.update p (Obj.mapFields fun x => x.setIfInBounds 0 Value.none)).push { cls := .type "tuple", data := .seq #[] }).get? b = some o := fun b o hb e =>
    Heap.get?_push_of_some _ ((sb.2 b hb).trans e)
  have u1 := up x1 o1 ne g1
  refine raiseNew_hot ⟨hh, o1, v1, Heap.get?_push_of_some _ u1, d1, c1⟩ (Nat.ne_of_lt (Heap.lt_size u1)) (Heap.get?_push_size _ rfl) rfl (by simp; omega) ?_
  refine done _ _ (fun b o hb e => ?_) ⟨_, Heap.get?_update_self _ (Heap.get?_push_size _ rfl) rfl, rfl⟩
  have u2 := up b o hb e
  rw [Heap.get?_update_other _ _ (Nat.ne_of_gt (Heap.lt_size u2))]
  exact Heap.get?_push_of_some _ u2
theorem zip_stop {z TI TO i1 i2 l1 l2 : Addr} {k1 k2 : Nat} {xs ys : Array Value} {a b : Value} {Q : Option Value → Shared → Prop} (hot : HotAt A x1 s.heap) (nz : x1 ≠ z) (nO : x1 ≠ TO) (n1 : x1 ≠ i1) (n2 : x1 ≠ i2) (D : ZipApart z TI TO i1 i2 l1 l2)
    (hz : IsZip s.heap z TI TO .none) (hI : IsPair s.heap TI (.ref i1) (.ref i2)) (hO : IsPair s.heap TO a b) (h1 : s.heap.IsListIter i1 l1 k1) (h2 : s.heap.IsListIter i2 l2 k2) (hl1 : s.heap.IsList l1 xs) (hl2 : s.heap.IsList l2 ys) (out : xs[k1]? = none ∨ ys[k2]? = none)
    (done : ∀ h', (∀ c o, c ≠ z → c ≠ TO → c ≠ i1 → c ≠ i2 → s.heap.get? c = some o → h'.get? c = some o) → Q none { s with heap := h' }) : wpAny (model prog w) A (pyNext (.ref z)) Q E s := by
  have ty : s.TypeIs (.ref z) "zip" := ⟨_, hz, rfl⟩
  obtain ⟨hh, o1, v1, g1, d1, c1⟩ := hot
  -- where it ends
  have fin : ∀ {e : Addr} {h' : Heap}, (∃ o, h'.get? e = some o ∧ o.cls = .type "StopIteration") → (∀ c o, c ≠ z → c ≠ TO → c ≠ i1 → c ≠ i2 → s.heap.get? c = some o → h'.get? c = some o) →
      wpAny (model prog w) A (do if ← isInstance (.ref e) (.type "StopIteration") then pure none else throw (.ref e)) Q E { s with heap := h' } := fun ⟨o, ho, hc⟩ k =>
    wpAny_bind (wpAny_isInstance (T := "StopIteration") (b := true) ⟨o, ho, hc⟩ isSubtype_stop (wpAny_pure (done _ k)))
  unfold pyNext
  refine wpAny_bind (wpAny_attempt (wpAny_callSpecial?_slot (name := Str.ofString "__next__") ty F.slot_zip_next (wpAny_call_entry F.slot_zip_next ty F.entry_zip_next ?_ (F.args_zip_next_1 _))))
  -- what it holds
  show wpAny _ _ (field (.ref z) 2 >>= _) _ _ s
  refine wpAny_bind (wpAny_field hz rfl (x := .bool false) rfl ?_)
  show wpAny _ _ (field (.ref z) 3 >>= _) _ _ s
  refine wpAny_bind (wpAny_field hz rfl (x := .ref TI) rfl (wpAny_bind (wpAny_seqItems hI rfl ?_)))
  refine wpAny_bind ?_
  unfold Builtin.SmallTypes.ownedTupleIsFree
  refine wpAny_bind (wpAny_field hz rfl (x := .none) rfl (wpAny_pure ?_))
  rw [if_pos rfl]
  refine wpAny_bind (wpAny_rule (wpAny_bind (wpAny_field hz rfl (x := .ref TO) rfl (wpAny_bind (wpAny_setField_rec hz (by simp) fun ha za sa => ?_)))))
  have za : IsZip ha z TI TO .ellipsis := za
  refine wpAny_bind ?_
  simp only [List.zipIdx_cons, List.zipIdx_nil, List.forIn_cons, List.forIn_nil]
  have hot1 : HotAt A x1 ha := ⟨hh, o1, v1, sa.extBut _ _ nz g1, d1, c1⟩
  refine wpAny_bind (wpAny_bind (wpAny_onRaise ?_))
  show wpAny _ _ (Builtin.SmallTypes.nextOf (.ref i1) >>= _) _ _ _
  have q1 := h1.extBut sa.extBut D.i1z
  have r1 := hl1.extBut sa.extBut D.l1z
  cases e1 : xs[k1]? with
  | none =>
    refine wpAny_bind (list_stop (s := { s with heap := ha }) hot1 q1 r1 e1 n1 fun hb e kb he => ?_)
    obtain ⟨oe, ge, ce⟩ := he
    have zb : IsZip hb z TI TO .ellipsis := kb _ _ D.i1z.symm za
    have ez : e ≠ z := fun y => by
      rw [y, zb] at ge
      cases ge
      simp at ce
    refine wpAny_setField_rec zb (by simp) fun hc _ sc => ?_
    exact fin ⟨oe, sc.extBut _ _ ez ge, ce⟩ fun c o a1 _ a3 _ x => sc.extBut _ _ a1 (kb _ _ a3 (sa.extBut _ _ a1 x))
  | some x =>
    have e2 : ys[k2]? = none := out.elim (fun y => by rw [e1] at y; cases y) id
    refine wpAny_bind (wpAny_nextOf_list_item q1 r1 e1 fun hb _ sb => wpAny_pure ?_)
    have Ob : IsPair hb TO a b := sb.extBut _ _ D.TOi1 (sa.extBut _ _ D.TOz hO)
    refine wpAny_bind (wpAny_seqItems Ob rfl (wpAny_bind (wpAny_updateSeq_pair Ob fun hc _ sc => wpAny_bind (wpAny_letGo (wpAny_pure ?_)))))
    have go : ∀ c o, c ≠ z → c ≠ TO → c ≠ i1 → s.heap.get? c = some o → hc.get? c = some o := fun c o a1 a2 a3 x => sc.extBut _ _ a2 (sb.extBut _ _ a3 (sa.extBut _ _ a1 x))
    have q2 : hc.IsListIter i2 l2 k2 := h2.at fun o y => go _ o D.i2z D.TOi2.symm D.i12.symm y
    have r2 := ((hl2.extBut sa.extBut D.l2z).extBut sb.extBut D.l2i1).extBut sc.extBut D.l2TO
    refine wpAny_bind (wpAny_bind (wpAny_onRaise ?_))
    show wpAny _ _ (Builtin.SmallTypes.nextOf (.ref i2) >>= _) _ _ _
    refine wpAny_bind (list_stop (s := { s with heap := hc }) ⟨hh, o1, v1, go _ _ nz nO n1 g1, d1, c1⟩ q2 r2 e2 n2 fun hd e kd he => ?_)
    obtain ⟨oe, ge, ce⟩ := he
    have zd : IsZip hd z TI TO .ellipsis := kd _ _ D.i2z.symm (sc.extBut _ _ D.TOz.symm (sb.extBut _ _ D.i1z.symm za))
    have ez : e ≠ z := fun y => by
      rw [y, zd] at ge
      cases ge
      simp at ce
    refine wpAny_setField_rec zd (by simp) fun hf _ sf => ?_
    exact fin ⟨oe, sf.extBut _ _ ez ge, ce⟩ fun c o a1 a2 a3 a4 x => sf.extBut _ _ a1 (kd _ _ a4 (go c o a1 a2 a3 x))
end
end MPH
namespace MPH
open PySem PySem.Spec PyProof.Rows L2 HotX L2H
structure TurnZ (P : Program) (w : World) (K : PySem.W.Frag) (tg : Expr) (J : It) (fp : List Addr) (it : Addr) (tn : Nat → Heap → Prop) : Prop where
  obj : ∀ i h, tn i h → ∀ b ∈ fp, ∃ o, h.get? b = some o ∧ ∀ v, o.data ≠ .cell v
  keep : ∀ i h h', tn i h → (∀ b ∈ fp, ∀ o, h.get? b = some o → h'.get? b = some o) → tn i h'
  item : ∀ (X : Cx), X.prog = P → X.w = w → X.K = K → ∀ (i : Nat) (pins : List (Addr × Obj)) (s : Shared) (σ : L2.St) (H : Hp) (E : Value → Shared → Prop), Inv X pins σ H s → (∀ b ∈ fp, FpOk X pins H b) → tn i s.heap → J.go i H →
    wpAny (model P w) X.A (pyNext (.ref it)) (fun r s1 => ∃ u, r = some u ∧ wpAny (model P w) X.A (letOwnedTupleGo tg (.ref it) u) (fun _ s2 => ∃ x H', Inv X pins σ H' s2 ∧ RelV x u ∧ J.yld i H x H' ∧ tn (i + 1) s2.heap ∧ ∀ b ∈ fp, H' b = none) E s1) E s
  done : ∀ (X : Cx), X.prog = P → X.w = w → X.K = K → ∀ (x1 : Addr) (i : Nat) (pins : List (Addr × Obj)) (s : Shared) (σ : L2.St) (H : Hp) (E : Value → Shared → Prop), HotAt X.A x1 s.heap → x1 ∉ fp → Inv X pins σ H s → (∀ b ∈ fp, FpOk X pins H b) → tn i s.heap → J.stop i H →
    wpAny (model P w) X.A (pyNext (.ref it)) (fun r s1 => r = none ∧ Inv X pins σ H s1) E s
  self : ∀ (A : Around) (i : Nat) (s : Shared) (Q : Value → Shared → Prop) (E : Value → Shared → Prop), tn i s.heap → Q (.ref it) s → wpAny (model P w) A (pyIter (.ref it)) Q E s
def zSt (a b z TI TO i1 i2 : Addr) (i : Nat) (h : Heap) : Prop := IsZip h z TI TO .none ∧ IsPair h TI (.ref i1) (.ref i2) ∧ (∃ x y, IsPair h TO x y) ∧ h.IsListIter i1 a i ∧ h.IsListIter i2 b i
theorem turn_z {P : Program} {w : World} {K : PySem.W.Frag} {es : List Expr} {kk : Nat} {tp : Pos} {a b z TI TO i1 i2 : Addr} (D : ZipApart z TI TO i1 i2 a b) : TurnZ P w K (.Tuple es kk tp) (Itz K a b) [z, TI, TO, i1, i2] z (zSt a b z TI TO i1 i2) := by
  have T := L2.turn_zip (P := P) (w := w) (K := K) (elts := es) (kk := kk) (tpos := tp) D
  refine ⟨T.obj, T.keep, ?_, ?_, T.self⟩
  · intro X hP hw hK i pins s σ H E I hf st hg
    subst hP hw hK
    obtain ⟨hz, hI, ⟨x0, y0, hO⟩, h1, h2⟩ := st
    obtain ⟨xs, ys, x, y, qx, qy, ex, ey⟩ := hg
    obtain ⟨us, ru, p1, _⟩ := I.list qx
    obtain ⟨vs, rv, p2, _⟩ := I.list qy
    obtain ⟨u, eu, hu⟩ := ru.get ex
    obtain ⟨v, ev, hv⟩ := rv.get ey
    have zl := Heap.lt_size hz
    have old : ∀ c, c ∈ [z, TI, TO, i1, i2] → c < s.heap.objs.size := fun c hc => by
      obtain ⟨o, e, _⟩ := T.obj i s.heap ⟨hz, hI, ⟨x0, y0, hO⟩, h1, h2⟩ c hc
      exact Heap.lt_size e
    refine wpAny_pyNext_zip_item D hz hI hO h1 h2 p1.isList p2.isList (x := u) (y := v) (by simpa using eu) (by simpa using ev) fun ha za Oa a1 a2 new _ ka => ⟨_, rfl, wpAny_letOwnedTupleGo_zip (s := { s with heap := ha }) za fun hb zb sb => ?_⟩
    have nz : s.heap.objs.size ≠ z := Nat.ne_of_gt zl
    have at_ : ∀ c o, c ≠ z → ha.get? c = some o → hb.get? c = some o := fun c o n e => (sb.2 c n).trans e
    have kb : ∀ c o, c ∉ [z, TI, TO, i1, i2] → s.heap.get? c = some o → hb.get? c = some o := fun c o n e => by
      simp only [List.mem_cons, List.not_mem_nil, or_false, not_or] at n
      exact at_ c o n.1 (ka c o n.1 n.2.2.1 n.2.2.2.1 n.2.2.2.2 e)
    have okT : ObjOk X.prog X.w (upd H s.heap.objs.size (.tup [x, y])) hb s.heap.objs.size (.tup [x, y]) := ⟨(by decide : 2 ≤ sizeLine), [u, v], .cons hu (.cons hv .nil), ⟨_, at_ _ _ nz new, rfl, _, rfl⟩⟩
    have I1 : Inv X pins σ (upd H s.heap.objs.size (.tup [x, y])) { s with heap := hb } := I.turnedNew (t' := s.toks) kb hf (Nat.le_refl _) okT
    refine ⟨.ref s.heap.objs.size, _, I1, rfl, ⟨_, x, y, rfl, I.hok.fresh (Nat.le_refl _), rfl, fun zs q => ?_, fun zs q => ?_⟩, ⟨zb, at_ _ _ D.TIz (ka _ _ D.TIz D.TITO D.TIi1 D.TIi2 hI), ⟨u, v, at_ _ _ D.TOz Oa⟩, a1.at fun o q => at_ _ o D.i1z q, a2.at fun o q => at_ _ o D.i2z q⟩, fun c hc => ?_⟩
    · rw [I.list_inj q qx]; exact ex
    · rw [I.list_inj q qy]; exact ey
    · rw [upd_ne (Nat.ne_of_lt (old c hc))]
      exact (hf c hc).1
  · intro X hP hw hK x1 i pins s σ H E hot nx I hf st hg
    subst hP hw hK
    obtain ⟨hz, hI, ⟨x0, y0, hO⟩, h1, h2⟩ := st
    obtain ⟨xs, ys, qx, qy, out⟩ := hg
    obtain ⟨us, ru, p1, _⟩ := I.list qx
    obtain ⟨vs, rv, p2, _⟩ := I.list qy
    have l1 := ru.length
    have l2 := rv.length
    simp only [List.mem_cons, List.not_mem_nil, or_false, not_or] at nx
    obtain ⟨n1, n2, n3, n4, n5⟩ := nx
    refine zip_stop hot n1 n3 n4 n5 D hz hI hO h1 h2 p1.isList p2.isList (out.imp (fun q => by simp; omega) fun q => by simp; omega) fun h' k => ⟨rfl, I.turnedL (t' := s.toks) (ch := [z, TI, TO, i1, i2]) (fun c o hb q => ?_) hf⟩
    simp only [List.mem_cons, List.not_mem_nil, or_false, not_or] at hb
    exact k c o hb.1 hb.2.2.1 hb.2.2.2.1 hb.2.2.2.2 q
def PIEz (X : Cx) (pins : List (Addr × Obj)) (σ : L2.St) (tg : Expr) (R : It → Hp → Prop) (v : Value) (s2 : Shared) : Prop :=
  ∃ (it : Addr) (fp : List Addr) (tn : Nat → Heap → Prop) (J : It) (H' : Hp), v = .ref it ∧ Inv X pins σ H' s2 ∧ TurnZ X.prog X.w X.K tg J fp it tn ∧ tn 0 s2.heap ∧ (∀ b ∈ fp, FpOk X pins H' b) ∧ R J H'
def PIz (X : Cx) (tg iter : Expr) (wi : TI) : Prop := ∀ (pins : List (Addr × Obj)) (s : Shared) (σ : L2.St) (H : Hp) (R : It → Hp → Prop), Inv X pins σ H s → wi σ H R →
  wpAny (model X.prog X.w) X.A (eval iter X.env) (fun v s1 => wpAny (model X.prog X.w) X.A (pyIter v) (PIEz X pins σ tg R) X.xe s1) X.xe s
theorem pi_z {X : Cx} {e1 e2 : Expr} {ta : TA} {p pos tp : Pos} {es : List Expr} {kk : Nat} (hg : Gl X "zip") (hm : X.mg "zip" = none) (ha : PA X [e1, e2] ta)
    (hs : starEach [e1, e2] X.env = (false, eval e1 X.env) :: starEach [e2] X.env := by rfl) (hpl : (backTo pos (starEach [e2] X.env)).any (·.1) = false := by rfl) :
    PIz X (.Tuple es kk tp) (.Call (.Name "zip" p) [e1, e2] [] pos) (iZip X.K ta) := fun pins s σ H R I h => by
  refine Call_ (ld_blt I hg hm PyProof.Rows.boot_zip (PyProof.Rows.callWith_type1 (thn (ha.run pos pins s σ H _ I h) fun us t ⟨ws, H1, J, r, a, b, xs, ys, ew, qx, qy, q⟩ => ?_) hs hpl))
  subst ew
  rcases r with _ | ⟨r1, rr⟩
  rcases rr with _ | ⟨r2, rr⟩
  cases rr
  cases r1
  cases r2
  obtain ⟨_, _, p1, _⟩ := J.list qx
  obtain ⟨_, _, p2, _⟩ := J.list qy
  refine call_zip_2 p1.isList p2.isList fun h' gz gI gO g1 g2 _ k => wpAny_pyIter_zip gz ?_
  have big : ∀ c ∈ [t.heap.objs.size + 4, t.heap.objs.size + 2, t.heap.objs.size + 3, t.heap.objs.size, t.heap.objs.size + 1], t.heap.objs.size ≤ c := fun c hc => by
    simp only [List.mem_cons, List.not_mem_nil, or_false] at hc
    rcases hc with e | e | e | e | e <;> rw [e] <;> first | exact Nat.le_refl _ | exact Nat.le_add_right _ _
  have K1 : Inv X pins σ H1 { t with heap := h' } := J.kept (t' := t.toks) k
  have tz : TurnZ X.prog X.w X.K (.Tuple es kk tp) (Itz X.K a b) [t.heap.objs.size + 4, t.heap.objs.size + 2, t.heap.objs.size + 3, t.heap.objs.size, t.heap.objs.size + 1] (t.heap.objs.size + 4) (zSt a b (t.heap.objs.size + 4) (t.heap.objs.size + 2) (t.heap.objs.size + 3) t.heap.objs.size (t.heap.objs.size + 1)) := turn_z (PySem.W.ktu_apart t.heap.objs.size a b p1.lt p2.lt)
  exact ⟨t.heap.objs.size + 4, [t.heap.objs.size + 4, t.heap.objs.size + 2, t.heap.objs.size + 3, t.heap.objs.size, t.heap.objs.size + 1], zSt a b (t.heap.objs.size + 4) (t.heap.objs.size + 2) (t.heap.objs.size + 3) t.heap.objs.size (t.heap.objs.size + 1), Itz X.K a b, H1, rfl, K1, tz, ⟨gz, gI, ⟨_, _, gO⟩, g1, g2⟩, fun c hc => J.fpOk (big c hc) (J.hok.fresh (big c hc)), q⟩
def HotI (X : Cx) : Prop := ∀ (pins : List (Addr × Obj)) (σ : L2.St) (H : Hp) (s : Shared), Inv X pins σ H s → ∃ x1, HotAt X.A x1 s.heap
theorem tup_stop {prog : Program} {w : World} {A : Around} {E : Value → Shared → Prop} {s : Shared} {x1 it t : Addr} {i : Nat} {zs : Array Value} {Q : Option Value → Shared → Prop} (hot : HotAt A x1 s.heap) (hit : s.heap.IsTupleIter it t i) (ht : s.heap.IsTuple t zs) (out : zs[i]? = none) (ne : x1 ≠ it)
    (done : ∀ h', Heap.ExtBut it s.heap h' → Q none { s with heap := h' }) : wpAny (model prog w) A (pyNext (.ref it)) Q E s := by
  obtain ⟨o, ho, hc, hd⟩ := id hit
  obtain ⟨ot, gt, _, nt, dt⟩ := ht
  obtain ⟨hh, o1, v1, g1, d1, c1⟩ := hot
  unfold pyNext
  refine wpAny_bind (wpAny_attempt (wpAny_callSpecial?_slot (name := Str.ofString "__next__") hit.typeIs F.slot_tuple_iterator_next (wpAny_call_entry F.slot_tuple_iterator_next hit.typeIs F.entry_tuple_iterator_next ?_ (F.args_tuple_iterator_next_1 _))))
  show wpAny _ _ (field (.ref it) 0 >>= _) _ _ s
  refine wpAny_bind (wpAny_field ho hd (x := .ref t) rfl ?_)
  have nt0 : ¬ ((Value.ref t == Value.none) = true) := by simp
  rw [if_neg nt0]
  refine wpAny_bind (wpAny_field ho hd (x := .int i 0) rfl (wpAny_bind (wpAny_seqItems gt dt ?_)))
  simp only [Int.toNat_natCast, out]
  refine wpAny_bind (wpAny_rule (wpAny_bind (wpAny_setField ho hd (by simp) ?_)))
  refine wpAny_bind ?_
  simp only [newExc, newTuple]
  refine wpAny_bind (wpAny_newObj_type ?_ (by size_fits))
  refine wpAny_bind (m := firstArgMember _ _) (wpAny_of_eq (a := Value.none) (by first | rfl | (simp only [firstArgMember]; rfl)) ?_)
  refine wpAny_newObj_type ?_ (by size_fits)
  have sb := Heap.SameBut.update s.heap it (Obj.mapFields fun x => x.setIfInBounds 0 Value.none)
  have up : ∀ b o, b ≠ it → s.heap.get? b = some o → ((s.heap.update it (Obj.mapFields fun x => x.setIfInBounds 0 Value.none)).push { cls := .type "tuple", data := .seq #[] }).get? b = some o := fun b o hb e =>
    Heap.get?_push_of_some _ ((sb.2 b hb).trans e)
  have u1 := up x1 o1 ne g1
  refine raiseNew_hot ⟨hh, o1, v1, Heap.get?_push_of_some _ u1, d1, c1⟩ (Nat.ne_of_lt (Heap.lt_size u1)) (Heap.get?_push_size _ rfl) rfl (by simp; omega) ?_
  refine wpAny_bind (wpAny_isInstance (T := "StopIteration") (b := true) ⟨_, Heap.get?_update_self _ (Heap.get?_push_size _ rfl) rfl, rfl⟩ isSubtype_stop (wpAny_pure (done _ fun b o hb e => ?_)))
  have u2 := up b o hb e
  rw [Heap.get?_update_other _ _ (Nat.ne_of_gt (Heap.lt_size u2))]
  exact Heap.get?_push_of_some _ u2
theorem pg_tupH {X : Cx} {es : List Expr} {k n : Nat} {t : TGs} {pos : Pos} (hot : HotI X) (h : PGs X es t) (hn : (assignEach es X.env).length = n := by rfl) (hst : (assignEach es X.env).findIdx? (·.1) = none := by rfl) : PG X (.Tuple es k pos) (gTup X.K n t) := by
  refine ⟨fun pins s σ H v u Q I r ⟨a, xs, e1, hq, hl, hw⟩ => ?_⟩
  subst e1
  obtain rfl : u = Value.ref a := r
  obtain ⟨zs, rv, ht, _⟩ := I.tuple hq
  have ht : s.heap.IsTuple a zs.toArray := ht
  obtain ⟨x1, ho⟩ := hot pins σ H s I
  have lt : a ≠ s.heap.objs.size := by obtain ⟨o, e, _⟩ := id ht; exact Nat.ne_of_lt (Heap.lt_size e)
  have lx : x1 ≠ s.heap.objs.size := by obtain ⟨_, o, _, e, _⟩ := id ho; exact Nat.ne_of_lt (Heap.lt_size e)
  have sz : (assignEach es X.env).length = zs.toArray.size := by
    rw [hn, ← hl, rv.length]
    simp
  rw [show assign (.Tuple es k pos) X.env (.ref a) = _ from arm_assign_Tuple ..]
  refine wpAny_bind (wpAny_standAt ?_)
  unfold unpack
  rw [sz, hst]
  refine wpAny_bind (wpAny_holding ?_)
  unfold unpackItems
  refine wpAny_bind ?_
  unfold notIterableAtAll
  refine wpAny_bind (wpAny_specialOf ht.typeIs F.slot_tuple_iter.lookup (wpAny_pure ?_))
  simp only [Bool.false_eq_true, if_false]
  refine wpAny_bind (wpAny_holding (wpAny_pyIter_tuple ht (wpAny_bind (wpAny_holding (wpAny_draw_tuple lt zs.toArray.size 0 _ _ ⟨_, Heap.get?_push_size _ rfl, rfl, rfl⟩ (ht.push _) (by omega) fun ha ia sa => ?_)))))
  have all : List.take zs.toArray.size (List.drop 0 zs.toArray.toList) = zs := by simp
  rw [all, if_neg (by simp)]
  have hot2 : HotAt X.A x1 ha := by
    obtain ⟨hh, o1, v1, g1, d1, c1⟩ := ho
    exact ⟨hh, o1, v1, sa.extBut _ _ lx (Heap.get?_push_of_some _ g1), d1, c1⟩
  refine wpAny_bind (wpAny_holding (tup_stop (s := { s with heap := ha }) hot2 ia ((ht.push _).extBut sa.extBut lt) (by simp) lx fun hb eb => ?_))
  simp only [Option.isSome_none, Bool.false_eq_true, if_false]
  refine wpAny_pure ?_
  have I1 : Inv X pins σ H { s with heap := hb } := I.kept (t' := s.toks) fun b o e => eb b o (Nat.ne_of_lt (Heap.lt_size e)) (sa.extBut b o (Nat.ne_of_lt (Heap.lt_size e)) (Heap.get?_push_of_some _ e))
  exact h.run pins _ σ H xs _ Q I1 rv hw
section
variable {X : Cx} {elt tg iter : Expr} {ifs : List Expr} {scope : Scope} {own : List (Str × Nat)} {pos : Pos} {wi : TI} {g : TG} {tt : TT} {te : TE}
theorem pe_lcHot (hot : HotC X) (hN : X.N.Nodup) (hi : PIz X tg iter wi) (ok : BlkOk X.N X.env.scope scope own)
    (hg : ∀ (s : Shared) (H : Hp) (C : Addr) (cl : List (Str × Addr)) (fp : List Addr), HotI (X.blk s H scope (compEnvC scope cl C X.env) fp) → PG (X.blk s H scope (compEnvC scope cl C X.env) fp) tg g) (ht : ∀ (s : Shared) (H : Hp) (C : Addr) (cl : List (Str × Addr)) (fp : List Addr), PTs (X.blk s H scope (compEnvC scope cl C X.env) fp) ifs tt)
    (he : ∀ (s : Shared) (H : Hp) (C : Addr) (cl : List (Str × Addr)) (fp : List Addr), PE (X.blk s H scope (compEnvC scope cl C X.env) fp) elt te) (hs : ∀ x, foldedSetIterable iter X.env x = pure x := by intro _; rfl) :
    PE X (.ListComp elt [⟨tg, iter, ifs, 0⟩] scope pos) (tLc wi g tt te (own.map (·.2))) := by
  refine ⟨fun pins s σ H Q I h => ?_⟩
  rw [eval_ListComp]
  have cells : ∀ y ∈ scope.names, y.2 = .free → ∃ c, X.env.cells.lookup y.1 = some c := fun y hy e => I.ok.has _ (ok.free y hy e)
  refine wpAny_comprehension_free (use := none) rfl hs (closure_ok cells) ok.kind (fun y hy e => by rw [ok.uniq y hy, e]) (thn (hi pins s σ H _ I h) fun xv s1 hx => thn hx fun itv s2 ⟨it, fp, tn, J, H2, e, I2, T, st2, f2, q⟩ => ?_)
  subst e
  refine wpAny_newObj_type (newEnv_comp ?_) (by show 0 ≤ sizeLine; decide)
  generalize hD : s2.heap.objs.size = Da
  have nD : H2 Da = none := I2.hok.fresh (Nat.le_of_eq hD)
  obtain ⟨W, ⟨m0, w0⟩, turn⟩ := q Da nD
  -- the new list
  generalize hs3 : ({ s2 with heap := s2.heap.push { cls := .type "list", data := .seq ([] : List Value).toArray } } : Shared) = s3
  have g3 : s3.heap = s2.heap.push { cls := .type "list", data := .seq ([] : List Value).toArray } := by rw [← hs3]
  have I3 : Inv X pins σ (upd H2 Da (.lst [])) s3 := by
    rw [← hs3]
    exact I2.laid (t' := s2.toks) (fun b o e => Heap.get?_push_of_some _ e) (Nat.le_of_eq hD) ⟨Nat.zero_le _, [], 0, .nil, by rw [← hD]; exact Heap.get?_push_size _ rfl⟩
  have small : ∀ b ∈ fp, b < s2.heap.objs.size := fun b hb => by
    obtain ⟨o, e, _⟩ := T.obj _ _ st2 b hb
    exact Heap.lt_size e
  have f3 : ∀ b ∈ fp, FpOk X pins (upd H2 Da (.lst [])) b ∧ b < s3.heap.objs.size := fun b hb => by
    have lt := small b hb
    refine ⟨⟨by rw [upd_ne (by rw [← hD]; exact Nat.ne_of_lt lt)]; exact (f2 b hb).1, (f2 b hb).2⟩, ?_⟩
    rw [g3, Heap.size_push]
    exact Nat.lt_succ_of_lt lt
  have st3 : tn 0 s3.heap := T.keep _ _ _ st2 fun b _ o e => by rw [g3]; exact Heap.get?_push_of_some _ e
  -- the exception that is handled stands where it is
  obtain ⟨p, ⟨ph, v1, pd, pc⟩, pm⟩ := hot
  obtain ⟨pg, pn, pl, pf, _⟩ := I3.pin p (List.mem_append_left _ pm)
  have pS : p.1 ∉ frs X.stack := fun hm => (List.mem_cons.mp (I3.stkSub _ hm)).elim pl pf
  have pF : p.1 ∉ fp := fun hm => (f3 _ hm).1.2.2.2.2.2 p (List.mem_append_left _ pm) rfl
  have I4 := block_start I3 ok hN f3
  have pg4 := hg s3 (upd H2 Da (.lst [])) s3.heap.objs.size (cellsFrom (s3.heap.objs.size + 1) scope.names (cloFrom X.env.cells scope.names [])) fp fun _ _ _ _ J => ⟨p.1, ph, p.2, v1, J.base.keep p.1 p.2 pg pn pS pF, pd, pc⟩
  have pt4 := ht s3 (upd H2 Da (.lst [])) s3.heap.objs.size (cellsFrom (s3.heap.objs.size + 1) scope.names (cloFrom X.env.cells scope.names [])) fp
  have pe4 := he s3 (upd H2 Da (.lst [])) s3.heap.objs.size (cellsFrom (s3.heap.objs.size + 1) scope.names (cloFrom X.env.cells scope.names [])) fp
  have nfp : ∀ b ∈ fp, (upd H2 Da (.lst [])) b = none := fun b hb => (f3 b hb).1.1
  show codeAny _ _ (.compStart (.ListComp elt [⟨tg, iter, ifs, 0⟩] scope pos) 0 (.ref it) (.ref Da) (compEnvC scope (cellsFrom (s3.heap.objs.size + 1) scope.names (cloFrom X.env.cells scope.names [])) s3.heap.objs.size X.env)) (compPost (model X.prog X.w) X.A X.xe none (EP X pins σ Q) (.ref Da) s3.heap.objs.size) { s3 with heap := pushCells (s3.heap.push { cls := .type "dict", data := .dict #[] }) scope.names }
  generalize hC : s3.heap.objs.size = Ca at *
  generalize hce : compEnvC scope (cellsFrom (Ca + 1) scope.names (cloFrom X.env.cells scope.names [])) Ca X.env = ce at *
  have cL : ce.locals = Ca := by rw [← hce]; rfl
  generalize hH3 : upd H2 Da (.lst []) = H3 at *
  generalize hs4 : ({ s3 with heap := pushCells (s3.heap.push { cls := .type "dict", data := .dict #[] }) scope.names } : Shared) = s4 at *
  have st4 : tn 0 s4.heap := T.keep _ _ _ st3 fun b _ o e => by rw [← hs4]; exact pushCells_keeps _ _ _ _ (Heap.get?_push_of_some _ e)
  have still : ∀ {σ' : L2.St} {H' : Hp} {s' : Shared}, Inv (X.blk s3 H3 scope ce fp) [] σ' H' s' → (∀ b ∈ fp, H' b = none) → ∀ b ∈ fp, FpOk (X.blk s3 H3 scope ce fp) [] H' b := fun {σ' H' s'} J n b hb =>
    ⟨n b hb, (J.ok.exf b hb).1, J.ok.exfs b hb, .inl hb, fun x c e => (J.ok.exf b hb).2 x c e, fun p hp => absurd hp (by simp)⟩
  have hotB : ∀ {σ' : L2.St} {H' : Hp} {s' : Shared}, Inv (X.blk s3 H3 scope ce fp) [] σ' H' s' → HotAt X.A p.1 s'.heap := fun {σ' H' s'} J => ⟨ph, p.2, v1, J.base.keep p.1 p.2 pg pn pS pF, pd, pc⟩
  have loop : codeAny (model X.prog X.w) X.A (.compLoop (.ListComp elt [⟨tg, iter, ifs, 0⟩] scope pos) 0 (.ref it) (.ref Da) ce) (compPost (model X.prog X.w) X.A X.xe none (EP X pins σ Q) (.ref Da) Ca) s4 := by
    refine compLoop_any (fun m t => ∃ i H', Inv (X.blk s3 H3 scope ce fp) [] (wipe σ (own.map (·.2))) H' t ∧ tn i t.heap ∧ (∀ b ∈ fp, H' b = none) ∧ W i m H') ?_ m0 ⟨0, H3, I4, st4, nfp, w0⟩
    rintro m t ⟨i, H5, I5, st5, n5, w5⟩
    rcases turn i m H5 w5 with ⟨stop, fin⟩ | ⟨go, Nx, down, step⟩
    · refine thnF (T.done (X.blk s3 H3 scope ce fp) rfl rfl rfl p.1 i [] t _ H5 (fun _ _ => False) (hotB I5) pF I5 (still I5 n5) st5 stop) fun r t6 ⟨hr, I6⟩ => ?_
      subst hr
      -- out of the block
      have I7 : Inv X pins σ H5 t6 := I3.call' (ch := fp) I6.os I6.base I6.hok I6.bare fun b hb => ⟨(f3 b hb).1.2.2.2.1, (f3 b hb).1.2.1, (f3 b hb).1.2.2.2.2.1, (f3 b hb).1.2.2.2.2.2⟩
      have nC : H5 Ca = none := by rw [← cL]; exact I6.free
      obtain ⟨mm, hn, _⟩ := I6.loc
      have hn : t6.heap.Ns Ca mm := by rw [← cL]; exact hn
      obtain ⟨a0, a1, a2, a3, a4, a5⟩ := I3.fpOk (b := Ca) (Nat.le_of_eq hC) nC
      exact ⟨mm, hn, fun h'' sb => ⟨.ref Da, H5, I7.turned (t' := t6.toks) (fun b o hb e => (sb.2 b hb).trans e) a0 a1 a3 a4 a5, rfl, fin⟩⟩
    · refine thnF (T.item (X.blk s3 H3 scope ce fp) rfl rfl rfl i [] t _ H5 (fun _ _ => False) I5 (still I5 n5) st5 go) fun r t6 ⟨u, hr, h6⟩ => ?_
      subst hr
      refine thnF h6 fun _ t7 ⟨x, H7, I7, r7, y7, st7, n7⟩ => ?_
      have P7 := I7.pinned (still I7 n7) (T.obj _ _ st7)
      refine thnF (pg4.run _ t7 _ H7 x u _ P7 r7 (step x H7 y7)) fun _ t8 ⟨σ8, H8, I8, e8, q8⟩ => ?_
      refine thnF (pt4.run _ t8 σ8 H8 _ I8 q8) fun b t9 ⟨H9, I9, q9⟩ => ?_
      have back : ∀ {t' : Shared} {H' : Hp}, Inv (X.blk s3 H3 scope ce fp) ([] ++ pinsAt fp t7.heap) σ8 H' t' → Nx H' → ∃ m', m' < m ∧ ∃ i H', Inv (X.blk s3 H3 scope ce fp) [] (wipe σ (own.map (·.2))) H' t' ∧ tn i t'.heap ∧ (∀ b ∈ fp, H' b = none) ∧ W i m' H' := fun {t' H'} J nx => by
        obtain ⟨m', lt, w'⟩ := down H' nx
        have at_ : ∀ b ∈ fp, ∀ o, t7.heap.get? b = some o → t'.heap.get? b = some o ∧ H' b = none := fun b hb o e =>
          have z := J.pin (b, o) (List.mem_append_right _ (List.mem_append_right _ (mem_pinsAt hb e)))
          ⟨z.1, z.2.1⟩
        refine ⟨m', lt, i + 1, H', (J.unpinned (pins := [])).weak (by rw [← e8, wipe_length]) (fun j v e => ?_), T.keep _ _ _ st7 fun b hb o e => (at_ b hb o e).1, fun b hb => ?_, w'⟩
        · rw [← e8] at e
          exact (wipe_some e).1
        · obtain ⟨o, e, _⟩ := T.obj _ _ st7 b hb
          exact (at_ b hb o e).2
      cases b with
      | false => exact back I9 q9
      | true => exact thnF (pe4.run _ t9 σ8 H9 _ I9 q9) fun z t10 ⟨yv, H10, I10, r10, acc, d10, l10, nx⟩ => app_ok (X := X.blk s3 H3 scope ce fp) I10 d10 l10 r10 fun t11 I11 => back I11 nx
  exact codeAny_compStart_list loop (T.self X.A 0 _ _ _ st4 loop)
end
end MPH
namespace MPH
open PySem PySem.Spec PyProof.Rows L2 HotX L2H
section
variable {X : Cx} {e : Expr} {es : List Expr} {ta : TA} {p p1 p2 pos : Pos}
theorem pe_cinit {x : Str} {B : Addr} {mc : Value} {pl : Sem Bool} (hg : Gl X x) (hm : X.mg x = some (.ref B)) (rd : PySem.W.readsIn X.K B mc = true) (ga : PySem.W.specialIn X.K (.ref B) "__getattribute__" = some (some (.builtin "type.__getattribute__")))
    (at_ : PySem.W.findCls X.K (.ref B) mc "__init__" = some (.val (.builtin "ValueError.__init__"))) (ha : PA X (e :: es) ta) (hdb : (x == ("__debug__" : Str)) = false := by decide)
    (hc : eval (.Call (.Attribute (.Name x p1) "__init__" p2) (e :: es) [] pos) X.env = (do
      let ov ← eval (.Name x p1) X.env
      standAt p2.atName
      let (f, first) ← holding [ov] (getMethod ov "__init__" pl)
      callWith pos f first (backTo pos (starEach (e :: es) X.env)) (backToKw pos (keywordEach [] X.env))) := by rfl)
    (he : starEach (e :: es) X.env = (false, eval e X.env) :: starEach es X.env := by rfl) (hpl : (backTo pos (starEach es X.env)).any (·.1) = false := by rfl) :
    PE X (.Call (.Attribute (.Name x p1) "__init__" p2) (e :: es) [] pos) (tVeI X.K ta) := by
  refine ⟨fun pins s σ H Q I h => PySem.W.methodCall_KW (ld_glob I hg hm ?_ hdb) hc⟩
  refine PySem.W.method_cls I.kIn ga (PySem.W.cls_value I.kIn rd at_ (by rfl) ?_)
  have J := I.tok (s.toks + 1)
  show wpAny _ _ (callWith pos (Value.builtin "ValueError.__init__") [] (backTo pos (starEach (e :: es) X.env)) []) _ _ _
  refine PyProof.Rows.callWith_method1 (thn (ha.run pos pins _ σ H _ J h) fun us s1 ⟨vs, H1, I1, r1, a, C, ws, ev, hl, T, ea, q⟩ => ?_) he hpl
  subst ev
  rcases r1 with _ | ⟨ra, rr⟩
  cases ra
  have lu := Paired.length rr
  exact oinit_ok T I1 ea (by rw [← lu, sizeLine_eq]; omega) fun s' K1 => ⟨.non, H1, K1, rfl, q⟩
theorem pmk_mk {CX : CXT} {x : Str} {C fI : Addr} {k : Nat} {fd : FuncData} {ps : List Str} {sp : Sp} (T : OexC X.K C) (iC : PySem.W.findIn X.K (.ref C) "__init__" = some (some (.ref fI))) (tI : PySem.W.typeIn X.K (.ref fI) = some (.type "function"))
    (FI : FnOk X.prog X.w X.K X.mg X.base CX k fI fd ps sp) (hr : Room (k + 1) X.A) (hb : Binds X.K fd ps []) (hx : Passes CX X (fun _ _ _ => False)) (hg : Gl X x) (hm : X.mg x = some (.ref C)) (ha : PA X (e :: es) ta)
    (hdb : (x == ("__debug__" : Str)) = false := by decide) (he : starEach (e :: es) X.env = (false, eval e X.env) :: starEach es X.env := by rfl) (hpl : (backTo pos (starEach es X.env)).any (·.1) = false := by rfl) :
    L2N.PMk X (.Call (.Name x p) (e :: es) [] pos) (tMkO C sp [] ta) := fun pins s σ H Q I h => by
  obtain ⟨_, _, _, _, bm, _, _, _, _, _, _, _, _, _, _, look, hbm⟩ := id T.cls
  refine wpAny_Call_Name_kw (ld_glob I hg hm (PySem.W.callWith_K (h₀ := X.base) I.ok.mod.kin T.kC (thn (ha.run pos pins s σ H _ I h) fun us s1 ⟨vs, H1, I1, r1, lv, q1⟩ => ⟨I1.kIn, ?_⟩) he hpl) hdb)
  obtain ⟨hp, g, dr, tk, os⟩ := s1
  have q2 := q1 (hp.objs.size + 1) (I1.hok.fresh (Nat.le_succ _))
  rw [List.append_nil] at q2
  have up : ∀ b o, hp.get? b = some o → ((hp.push (PySem.W.kdv_tup us)).push (PySem.HandSPX.excO C hp.objs.size)).get? b = some o := fun b o z => Heap.get?_push_of_some _ (Heap.get?_push_of_some _ z)
  have new : ((hp.push (PySem.W.kdv_tup us)).push (PySem.HandSPX.excO C hp.objs.size)).get? (hp.objs.size + 1) = some (PySem.HandSPX.excO C hp.objs.size) := by heap_get
  have I2 : Inv X pins σ (upd H1 (hp.objs.size + 1) (exo (hp.objs.size + 1) C none)) ⟨(hp.push (PySem.W.kdv_tup us)).push (PySem.HandSPX.excO C hp.objs.size), g, dr, tk, os⟩ := I1.laid (t' := tk) up (Nat.le_succ _) (exo_ok new)
  have rv : Vals (V.ref (hp.objs.size + 1) :: vs) (Value.ref (hp.objs.size + 1) :: us) := .cons rfl r1
  have len : (Value.ref (hp.objs.size + 1) :: us ++ []).length = ps.length := by
    rw [List.append_nil, ← rv.length]
    exact FI.len _ _ _ _ q2
  have lu : us.length ≤ sizeLine := by
    have := Paired.length r1
    rw [← this, sizeLine_eq]
    omega
  have bt := hb _ (Value.ref (hp.objs.size + 1) :: us) I2.kIn len
  rw [List.append_nil] at bt
  refine wpAny_call (PySem.HandSPX.call_own F.excBase_ValueError (fun Y => PySem.HandSPX.refsVE_contains Y bm hbm) (I1.kIn _ _ look) (PySem.W.looks_findIn I1.kIn iC) (fun self => PySem.W.bind_fn I1.kIn self tI) lu ?_)
  refine codeAny_mono (FI.run _ X.stack _ _ ⟨Value.ref (hp.objs.size + 1) :: us, []⟩ (Value.ref (hp.objs.size + 1) :: us) _ _ (fun _ _ _ => False) (hr.make C us []) (I2.env0.make C us []) bt rv q2) fun r s' z => ?_
  match r, z with
  | .error er, z => exact hx pins σ _ _ er s' I2 z
  | .ok (.next), z => exact z.elim
  | .ok (.brk), z => exact z.elim
  | .ok (.cont), z => exact z.elim
  | .ok (.ret u), z =>
    obtain ⟨v, H2, os2, b2, un2, hok2, ru, ev, d, fs, ea, ed, d1, fin⟩ := z
    subst ev
    obtain ⟨h2, g2, d2, t2, os'⟩ := s'
    obtain ⟨t0, G, J, kG, ge, oe, na⟩ := mk_end0 (d2 := d2) (t2 := t2) I1 (Nat.le_succ _) up un2 hok2 os2 b2 ea ed d1
    exact ⟨ru, hp.objs.size + 1, _, _, ⟨G, g2, d2, t2, os'⟩, _, .ref C, some d, rfl, J, kG, ge, oe, ⟨rfl, rfl, fun ws hw => by cases hw; rfl⟩, rfl, rfl, na, rfl, b2, raises_own T.exC T.tyC, fin⟩
end
structure EC (K : PySem.W.Frag) (D : Addr) : Prop where
  cl : (PySem.W.clsIn K D).isSome = true
  ga : PySem.W.findIn K (.ref D) "__getattribute__" = some (some (.builtin "BaseException.__getattribute__"))
  gg : PySem.W.findIn K (.ref D) "__getattr__" = some none
  be : PySem.W.subIn K (.ref D) (.type "BaseException") = some true
  cc : PySem.W.findIn K (.ref D) "__class__" = some (some (.builtin "object.__class__"))
  cg : PySem.W.specialIn K (.builtin "object.__class__") "__get__" = some (some (.builtin "getset_descriptor.__get__"))
  ct : PySem.W.takesIn K (.builtin "object.__class__") = some true
  ob : PySem.W.mroIn K D (.type "object") = some true
  hd : PySem.W.hasDictIn K D = true
def DAt (d : Option Addr) (fs : List (Str × V)) (H : Hp) : Prop := match d with
  | none => fs = []
  | some a => H a = some (.xd fs)
section
variable {X : Cx} {pins : List (Addr × Obj)} {σ : L2.St} {H : Hp} {s : Shared} {p : Addr × Obj} {D : Addr} {d : Option Addr} {fs : List (Str × V)}
theorem inst_no (I : Inv X pins σ H s) (hp : p ∈ X.pn) (hz : Zc (.ref D) none p.2) (hf : ∃ vs, p.2.data = .fields vs) : PySem.W.InstAt s.heap p.1 p.2 D none := by
  obtain ⟨g, _⟩ := I.pin p (List.mem_append_left _ hp)
  obtain ⟨vs, hv⟩ := hf
  refine ⟨g, hz.1, ?_, ?_⟩
  · unfold PySem.W.notCls
    rw [hv] <;> rfl
  · rw [hz.2]
    trivial
theorem inst_some {a : Addr} (I : Inv X pins σ H s) (hp : p ∈ X.pn) (hz : Zc (.ref D) (some a) p.2) (hf : ∃ vs, p.2.data = .fields vs) (hd : H a = some (.xd fs)) :
    ∃ (od : Obj) (mA : Str → Option Value), PySem.W.InstAt s.heap p.1 p.2 D (some od) ∧ (∀ f : Str, PySem.W.lookIn f od = some (mA f)) ∧ ∀ f, RelO (fs.lookup f) (mA f) := by
  obtain ⟨g, _⟩ := I.pin p (List.mem_append_left _ hp)
  obtain ⟨vs, hv⟩ := hf
  obtain ⟨mA, hn, hr⟩ := (show ObjOk X.prog X.w H s.heap a (.xd fs) from I.hok a _ hd)
  obtain ⟨od, ho, hl⟩ := lookIn_ns hn
  refine ⟨od, mA, ⟨g, hz.1, ?_, ?_⟩, hl, hr⟩
  · unfold PySem.W.notCls
    rw [hv] <;> rfl
  · rw [hz.2]
    exact ho
def rIsP (K : PySem.W.Frag) (D a : Addr) (d : Option Addr) : List V → Hp → VK → Prop := fun xs H Q => ∃ (c : V) (u : Value) (b : Bool) (fs : List (Str × V)), xs = [.ref a, c] ∧ ClsV c u ∧ DAt d fs H ∧ PySem.W.kitOne K (.ref D) u = some b ∧ Q (.bl b) H
def rIsPT (K : PySem.W.Frag) (D a : Addr) (d : Option Addr) : List V → Hp → VK → Prop := fun xs H Q => ∃ (tp : Addr) (cs : List V) (us : List Value) (b : Bool) (fs : List (Str × V)), xs = [.ref a, .ref tp] ∧ H tp = some (.tup cs) ∧ Paired ClsV cs us ∧ DAt d fs H ∧ PySem.W.kitAny K (.ref D) us = some b ∧ Q (.bl b) H
theorem kit_at (C : EC X.K D) (I : Inv X pins σ H s) (hp : p ∈ X.pn) (hz : Zc (.ref D) d p.2) (hf : ∃ vs, p.2.data = .fields vs) (hd : DAt d fs H) : ∃ P : Heap → Prop, PySem.W.KitX X.K (.ref p.1) (.ref D) P ∧ P s.heap := by
  cases d with
  | none => exact ⟨_, PySem.W.kitx_exc C.cl C.ga C.gg C.be C.cc C.cg C.ct C.ob, inst_no I hp hz hf⟩
  | some a =>
    obtain ⟨od, _, J, _⟩ := inst_some I hp hz hf hd
    exact ⟨_, PySem.W.kitx_exc C.cl C.ga C.gg C.be C.cc C.cg C.ct C.ob, J⟩
theorem call_isP (C : EC X.K D) (hp : p ∈ X.pn) (hz : Zc (.ref D) d p.2) (hf : ∃ vs, p.2.data = .fields vs) : CallR X (.builtin "isinstance") (rIsP X.K D p.1 d) := by
  rintro pins s σ H xs us Q I r ⟨c, u, b, fs, rfl, k, hd, e, q⟩
  obtain ⟨u1, u2, rfl, r1, r2⟩ := vals2 r
  cases (show u1 = Value.ref p.1 from r1)
  have e2 := k.eq r2
  subst e2
  obtain ⟨P, Z, z⟩ := kit_at C I hp hz hf hd
  exact PySem.W.kia_one Z I.kIn z e (fun z => nomatch z) fun tk => ⟨.bl b, H, I.tok tk, rfl, q⟩
theorem call_isPT (C : EC X.K D) (hp : p ∈ X.pn) (hz : Zc (.ref D) d p.2) (hf : ∃ vs, p.2.data = .fields vs) : CallR X (.builtin "isinstance") (rIsPT X.K D p.1 d) := by
  rintro pins s σ H xs us Q I r ⟨tp, cs, ws, b, fs, rfl, hT, k, hd, e, q⟩
  obtain ⟨u1, u2, rfl, r1, r2⟩ := vals2 r
  cases (show u1 = Value.ref p.1 from r1)
  cases (show u2 = Value.ref tp from r2)
  obtain ⟨P, Z, z⟩ := kit_at C I hp hz hf hd
  obtain ⟨_, its, rv, o, h1, h2, n, h3⟩ := (show ObjOk X.prog X.w H s.heap tp (.tup cs) from I.hok tp _ hT)
  have e3 := ClsV.all k rv
  subst e3
  obtain ⟨oc, od, dt, sl⟩ := o
  simp only at h2 h3
  subst h2 h3
  exact PySem.W.kia_tup Z I.kIn z h1 e (fun z => nomatch z) fun tk => ⟨.bl b, H, I.tok tk, rfl, q⟩
def tXfP (a : Addr) (d : Option Addr) (f : Str) (te : TE) : TE := fun σ H Q => te σ H fun x H1 => x = .ref a ∧ ∃ (dd : Addr) (fs : List (Str × V)) (v : V), d = some dd ∧ H1 dd = some (.xd fs) ∧ fs.lookup f = some v ∧ Q v H1
theorem pe_xfP {e : Expr} {te : TE} {pos : Pos} {f : Str} (C : EC X.K D) (hno : PySem.W.findIn X.K (.ref D) f = some none) (hp : p ∈ X.pn) (hz : Zc (.ref D) d p.2) (hf : ∃ vs, p.2.data = .fields vs) (he : PE X e te)
    (hb : attributeBase e f X.env (eval e X.env) = eval e X.env := by rfl) : PE X (.Attribute e f pos) (tXfP p.1 d f te) := by
  refine ⟨fun pins s σ H Q I h => attr_of hb (thn (he.run pins s σ H _ I h) fun u s1 ⟨x, H1, I1, rx, ex, dd, fs, v, ed, ea, l, q⟩ => ?_)⟩
  subst ex ed
  obtain rfl : u = Value.ref p.1 := rx
  obtain ⟨od, mA, J, hl, hr⟩ := inst_some I1 hp hz hf ea
  obtain ⟨u, hu, ru⟩ := RelO.some_of (v := v) (o := mA f) (by rw [← l]; exact hr f)
  exact HandSPX.exc_get I1.kIn J C.ga C.gg C.be (PySem.W.findObj_own C.hd hno rfl (by rw [hl, hu])) (handed_of ru) ⟨v, H1, I1.tok _, ru, q⟩
end
end MPH
namespace MPH
open PySem PySem.Spec PyProof.Rows L2 HotX L2H
abbrev SpE := Addr → Option Addr → List (Str × V) → Hp → VK → Prop
section
variable {P : Program} {w : World} {K : PySem.W.Frag} {mg : Str → Option Value} {base : Heap} {k : Nat} {f : Addr} {fd : FuncData} {ps N : List Str} {sp : SpE}
structure FnE (P : Program) (w : World) (K : PySem.W.Frag) (mg : Str → Option Value) (base : Heap) (k : Nat) (f : Addr) (fd : FuncData) (ps : List Str) (sp : SpE) : Prop where
  run : ∀ (A : Around) (outer : List Env) (s : Shared) (H : Hp) (args : Args) (Q : VK) (p : Addr × Obj) (D : Addr) (d : Option Addr) (fs : List (Str × V)), RoomH k A → Hot1 A p → PinOk outer H s p → L2N.Zn (.ref D) d p.2 → (∃ vs, p.2.data = .fields vs) → DAt d fs H →
    Env0 P w K mg base A outer s H → BindsTo s fd args (ps.zip [.ref p.1]) → sp D d fs H Q → codeAny (model P w) A (.call (.ref f) args) (CR C8.CX0 outer P w H s Q C8.E0) s
theorem fn_ofE {name qual x : Str} {params : Arguments} {body : List Stmt} {scope : Scope} {dV kV doc pm cdv ct oc : Value} {an od : Option Addr} {osl : Array (Option Value)} (lk : K.lookup f = some ⟨oc, od, .func (PySem.W.fnOf name qual params body scope dV kV doc pm an cdv ct), osl⟩) (hcd : PySem.W.codeIn K cdv qual = true) (S : FnScope N [x] scope)
    (hbody : ∀ (A : Around) (outer : List Env) (s : Shared) (H : Hp) (Q : VK) (p : Addr × Obj) (D : Addr) (d : Option Addr) (fs : List (Str × V)), Hot1 A p → RoomH k (A.deeper (envOfC qual scope s.heap.objs.size f cdv)) → L2N.Zn (.ref D) d p.2 → (∃ vs, p.2.data = .fields vs) → DAt d fs H → sp D d fs H Q →
      ∃ t, PSs (cxH C8.CX0 P w K mg base N qual scope f cdv A outer s H C8.E0 p) body t ∧ t { nx := fun _ H' => Q .non H', rt := Q } (L2.start N [.ref p.1]) H) :
    FnE P w K mg base (k + 1) f (PySem.W.fnOf name qual params body scope dV kV doc pm an cdv ct) [x] sp := by
  refine ⟨fun A outer s H args Q p D d fs hr hot pin hz hf hd e0 hb h => ?_⟩
  have KX : K.In s.heap := e0.mod.kin.keeps fun b o e => (e0.bs b o e).1
  have lim : s.heap.NoLimit := e0.mod.nolimit.keeps fun b o e => (e0.bs b o e).1
  have kinds : ∀ y ∈ [x].zip [Value.ref p.1], scope.names.lookup y.1 = some .local ∨ (scope.names.lookup y.1 = some .cell ∧ ((cellsFrom (s.heap.objs.size + 1) scope.names []).lookup y.1).isSome = true) := fun y hy => by
    obtain ⟨n, v⟩ := y
    have hn := (List.of_mem_zip hy).1
    exact (S.par n hn).imp id fun q => ⟨q, PySem.W.cellsFrom_some _ _ _ (.inl q)⟩
  refine codeAny_call_function hr.depth (KX _ _ lk) rfl S.co S.gen rfl (PySem.W.codeRec_of KX hcd) (hb _ _ _ _ (wpAny_newFunctionEnv_cells S.kind kinds fun env he s1 z => ?_))
  subst he
  refine ⟨lim.keeps z.toInCall.keep, codeAny_func ?_⟩
  obtain ⟨t, ht, hq⟩ := hbody A outer s H Q p D d fs hot (hr.deeper _) hz hf hd h
  have I : Inv (cxH C8.CX0 P w K mg base N qual scope f cdv A outer s H C8.E0 p) [] (L2.start N [.ref p.1]) H s1 := inv_startH S pin e0 rfl (.cons rfl .nil) z
  refine wpAny_mono (ht.run [] s1 _ H _ I hq) (fun fl s' hs => ?_) fun _ _ q => q
  match fl, hs with
  | .ret u, ⟨v, _, H', J, rv, q⟩ => exact ⟨v, H', J.os, J.bare, J.base, J.hok, rv, q⟩
  | .next, ⟨_, H', J, q⟩ => exact ⟨.non, H', J.os, J.bare, J.base, J.hok, rfl, q⟩
  | .brk, ⟨_, _, _, q⟩ => exact q.elim
  | .cont, ⟨_, _, _, q⟩ => exact q.elim
end
section
variable {X : Cx} {p : Addr × Obj} {D f : Addr} {d : Option Addr} {k : Nat} {fd : FuncData} {ps : List Str} {sp : SpE} {x y : Str} {q p1 pos : Pos} {i : Nat}
theorem pe_callE (F : FnE X.prog X.w X.K X.mg X.base k f fd ps sp) (hr : RoomH k X.A) (hot : Hot1 X.A p) (hp : p ∈ X.pn) (hz : L2N.Zn (.ref D) d p.2) (hf : ∃ vs, p.2.data = .fields vs) (hg : Gl X x) (hm : X.mg x = some (.ref f)) (hk : PySem.W.keepIn X.K (.ref f) = true) (hb : Binds X.K fd ps []) (hl : ps.length = 1)
    (hN : X.N[i]? = some y) (hv : Vis X.env.scope y) (hy : (y == ("__debug__" : Str)) = false := by decide) (hc : (y == ("__classdict__" : Str)) = false := by decide) (hdb : (x == ("__debug__" : Str)) = false := by decide) :
    PE X (.Call (.Name x q) [.Name y p1] [] pos) (fun σ H Q => σ[i]? = some (some (.ref p.1)) ∧ ∃ fs, DAt d fs H ∧ sp D d fs H Q) := by
  refine ⟨fun pins s σ H Q I h => ?_⟩
  obtain ⟨hs, fs, hd, h⟩ := h
  have ha : PA X [.Name y p1] (tCons (tVar i) tNil) := pa_cons (pe_var hN hv hy hc) pa_nil
  refine wpAny_Call_Name_kw (ld_glob I hg hm (PySem.W.callWith_K (h₀ := X.base) I.ok.mod.kin hk (thn (ha.run pos pins s σ H (fun vs H1 => vs = [.ref p.1] ∧ H1 = H) I ⟨_, hs, rfl, rfl⟩) fun us s1 ⟨vs, H1, I1, r, e1, e2⟩ => ⟨I1.kIn, ?_⟩) (by rfl) (by rfl)) hdb)
  subst e1
  rw [e2] at I1
  obtain ⟨u, rfl, ru⟩ : ∃ u, us = [u] ∧ L2.RelV (.ref p.1) u := by
    rcases r with _ | ⟨r1, rr⟩
    cases rr
    exact ⟨_, rfl, r1⟩
  obtain rfl : u = Value.ref p.1 := ru
  have bt := hb s1 [.ref p.1] I1.kIn (by rw [List.append_nil]; exact hl.symm)
  rw [List.append_nil] at bt
  have P1 := I1.pin p (List.mem_append_left _ hp)
  refine wpAny_call (codeAny_mono (F.run X.A X.stack s1 H ⟨[.ref p.1], []⟩ Q p D d fs hr hot ⟨P1.1, P1.2.1, fun hm => (List.mem_cons.mp (I1.stkSub p.1 hm)).elim P1.2.2.1 P1.2.2.2.1, P1.2.2.2.2⟩ hz hf hd I1.env0 bt h) fun r s2 hq => ?_)
  match r, hq with
  | .error e, z => exact (show False from z).elim
  | .ok (.ret u), z => exact I1.after z
  | .ok .next, z => exact z.elim
  | .ok .brk, z => exact z.elim
  | .ok .cont, z => exact z.elim
end
open LamX in
def lamN (X : Cx) (A : Around) (outer : List Env) (s : Shared) (H : Hp) (E : XK) (scope : Scope) (f c' : Addr) : Cx :=
  { lamCx X A outer s H E scope f c' with
    xe := fun e s' => wpAny (model X.prog X.w) (A.deeper (lamEnv X scope s.heap.objs.size f c')) (leaving (lamEnv X scope s.heap.objs.size f c') e) (fun _ s'' => L2N.CX X.prog X.w outer H s E e s'') (fun e' s'' => L2N.CX X.prog X.w outer H s E e' s'') s' }
abbrev gvX (X : Cx) (Ng : List Str) (qg : Str) (sg : Scope) (g : Addr) (cdg : Value) (s : Shared) (H : Hp) : Cx := cxOf C8.CX0 X.prog X.w X.K X.mg X.base Ng qg sg g cdg X.A X.stack s H C8.E0
section
open LamX
variable {X : Cx} {pins : List (Addr × Obj)} {σ : L2.St} {H HZ : Hp} {s : Shared}
theorem lamN_takes {A : Around} {outer : List Env} {E : XK} {scope : Scope} {f c' : Addr} : L2N.Takes (lamN X A outer s H E scope f c') fun cls d _ H => E cls d H := L2N.takes_of rfl rfl rfl rfl
theorem pe_actN {Ng : List Str} {qg : Str} {sg : Scope} {g f c' : Addr} {cdg pm ctv : Value} {params : Arguments} {body : Expr} {scope : Scope} {k i : Nat} {a : Str} {pn : List (Addr × Obj)} {xe : Value → Shared → Prop} {W : WX} {E : XK} {tb : TE} {p1 p2 : Pos}
    (I : Inv X pins σ H s) (L : LamS X.env.scope scope) (hf : s.heap.get? f = some (PySem.W.kla_obj "<lambda>" (X.env.qual ++ "<lambda>") params body scope (cloFrom X.env.cells scope.names []) pm c' ctv)) (hfn : H f = none) (hfr : f ∉ frs X.stack)
    (hbind : bindArgs (PySem.W.kla_fn "<lambda>" (X.env.qual ++ "<lambda>") params body scope (cloFrom X.env.cells scope.names []) pm (.ref c') ctv) ⟨[], []⟩ = pure [])
    (tk : L2N.Takes ((gvX X Ng qg sg g cdg s H).tr pn xe) W) (hr : Room (k + 1) (X.A.deeper (envOfC qg sg s.heap.objs.size g cdg)))
    (hbody : ∀ (A : Around) (outer : List Env) (s : Shared) (H : Hp), Room k (A.deeper (lamEnv X scope s.heap.objs.size f c')) → PE (lamN X A outer s H E scope f c') body tb)
    (hN : Ng[i]? = some a) (hv : Vis sg a) (hd : (a == ("__debug__" : Str)) = false := by decide) (hcd : (a == ("__classdict__" : Str)) = false := by decide) :
    PE ((gvX X Ng qg sg g cdg s H).tr pn xe) (.Call (.Name a p1) [] [] p2) (fun σZ HZ Q => σZ[i]? = some (some (.ref f)) ∧ HZ c' = some (CodeO c' (X.env.qual ++ "<lambda>")) ∧ (∀ cls d H', E cls d H' → W cls d σZ H') ∧ tb σ HZ Q) := by
  refine ⟨fun pz sz σz Hz Q IZ ⟨hs, hc, hW, ht⟩ => wpAny_Call_Name_kw (thn ((pe_var (pos := p1) (i := i) hN hv hd hcd).run pz sz σz Hz (fun v H1 => v = .ref f ∧ H1 = Hz) IZ ⟨.ref f, hs, rfl, rfl⟩) fun u s1 ⟨v, H1, I1, r1, ev, eH⟩ => ?_)⟩
  subst ev eH
  obtain rfl : u = Value.ref f := r1
  have here : s1.heap.get? f = some (PySem.W.kla_obj "<lambda>" (X.env.qual ++ "<lambda>") params body scope (cloFrom X.env.cells scope.names []) pm c' ctv) := I1.base.keep f _ hf hfn hfr (fun z => nomatch (show f ∈ ([] : List Addr) from z))
  obtain ⟨⟨oc, vs, t, go, gd, gv⟩, _, _⟩ := I1.hok c' _ hc
  have rc : codeAny (model X.prog X.w) (X.A.deeper (envOfC qg sg s.heap.objs.size g cdg)) (.call (.ref f) ⟨[], []⟩) (CR (L2N.CX X.prog X.w) (envOfC qg sg s.heap.objs.size g cdg :: X.stack) X.prog X.w H1 s1 Q E) s1 := by
    refine PySem.W.kla_callFunE hr.depth here rfl L.co L.gen rfl ⟨c', oc, vs, t, rfl, go, gd, gv⟩ ?_
    rw [hbind]
    refine wpAny_pure (wpAny_newFunctionEnv (fun y hy => (L.own y hy).2) (fun y hy => absurd hy (by simp)) (fun h₁ hns hsb => ⟨I1.nolimit.fresh _ hsb, ?_⟩) L.kind)
    have kp : ∀ b o, s1.heap.get? b = some o → h₁.get? b = some o := fun b o z => hsb.extBut b o (Nat.ne_of_lt (Heap.lt_size z)) (Heap.get?_push_of_some _ z)
    have J0 : Inv (lamCx X (X.A.deeper (envOfC qg sg s.heap.objs.size g cdg)) (envOfC qg sg s.heap.objs.size g cdg :: X.stack) s1 H1 E scope f c') [] σ H1 { s1 with heap := h₁, toks := s1.toks + ([] : List (Str × Value)).length } := lam_start2 I L I1.env0 hr.hd I1.base hns kp
    have J : Inv (lamN X (X.A.deeper (envOfC qg sg s.heap.objs.size g cdg)) (envOfC qg sg s.heap.objs.size g cdg :: X.stack) s1 H1 E scope f c') [] σ H1 { s1 with heap := h₁, toks := s1.toks + ([] : List (Str × Value)).length } := J0.wish _
    show codeAny _ _ (.expr body (lamEnv X scope s1.heap.objs.size f c')) _ _
    exact PySem.W.kla_codeExpr (wpAny_mono ((hbody _ _ s1 H1 (hr.deeper _)).run [] _ _ H1 Q J ht) (fun v s' ⟨w', H', J', rv, q⟩ => ⟨w', H', J'.os, J'.bare, J'.base, J'.hok, rv, q⟩) fun e s' hq => hq)
  refine PySem.W.callWith_F0 ⟨_, _, _, _, here⟩ (wpAny_call (codeAny_mono rc fun r s' hq => ?_))
  match r, hq with
  | .error e, z => exact tk e s' (L2N.XE.of_call I1 hW z)
  | .ok (.ret u), z => exact I1.after z
  | .ok .next, z => exact z.elim
  | .ok .brk, z => exact z.elim
  | .ok .cont, z => exact z.elim
def GivesN (X : Cx) (Ng : List Str) (x : Str) (sg : Scope) (g : Addr) (cdg : Value) (bg : List Stmt) (a q : Str) (TT : (XK → Hp → VK → Prop) → Hp → VK → Prop) : Prop :=
  ∀ (f c' : Addr) (s : Shared) (H : Hp) (Q : VK) (tl : XK → Hp → VK → Prop),
    (∀ (W : WX) (pn : List (Addr × Obj)) (xe : Value → Shared → Prop) (E : XK) (p1 p2 : Pos), L2N.Takes ((gvX X Ng x sg g cdg s H).tr pn xe) W →
      PE ((gvX X Ng x sg g cdg s H).tr pn xe) (.Call (.Name a p1) [] [] p2) (fun σZ HZ Q => σZ[0]? = some (some (.ref f)) ∧ HZ c' = some (CodeO c' q) ∧ (∀ cls d H', E cls d H' → W cls d σZ H') ∧ tl E HZ Q)) →
    H c' = some (CodeO c' q) → TT tl H Q → ∃ t, PSs (gvX X Ng x sg g cdg s H).nox bg t ∧ t { nx := fun _ H' => Q .non H', rt := Q } (L2.start Ng [.ref f]) H
theorem pe_lamcallN {T : List (Addr × Str)} {TT : (XK → Hp → VK → Prop) → Hp → VK → Prop} {x a : Str} {g c P : Addr} {k : Nat} {pg : Arguments} {bg : List Stmt} {sg : Scope} {dV kV doc pm cdv ct oc : Value} {an od : Option Addr} {osl : Array (Option Value)} {Ng : List Str}
    {params : Arguments} {body : Expr} {scope : Scope} {t : XK → TE} {p lpos pos : Pos} (hg : Gl X x) (hm : X.mg x = some (.ref g)) (hk : PySem.W.keepIn X.K (.ref g) = true)
    (lk : X.K.lookup g = some ⟨oc, od, .func (PySem.W.fnOf x x pg bg sg dV kV doc pm an cdv ct), osl⟩) (hcg : PySem.W.codeIn X.K cdv x = true) (hb : L2.Binds X.K (PySem.W.fnOf x x pg bg sg dV kV doc pm an cdv ct) [a] []) (Sg : FnScope Ng [a] sg) (hNg : Ng[0]? = some a) (hva : Vis sg a)
    (hG : GivesN X Ng x sg g cdv bg a (X.env.qual ++ "<lambda>") TT)
    (TB : TabB X.base X.mg c P) (hcode : X.env.code = .ref c) (hmT : (P, X.env.qual ++ "<lambda>") ∈ T) (hu : ∀ p ∈ T, p.1 = P → p.2 = X.env.qual ++ "<lambda>") (hr : Room (k + 2) X.A) (L : LamS X.env.scope scope) (hdef : defaultsOf params X.env = ([], []))
    (hbind : ∀ (q : Str) (cl : List (Str × Addr)) (pm cv ctv : Value), bindArgs (PySem.W.kla_fn "<lambda>" q params body scope cl pm cv ctv) ⟨[], []⟩ = pure [])
    (hbody : ∀ (A : Around) (outer : List Env) (s : Shared) (H : Hp) (E : XK) (f c' : Addr), Room k (A.deeper (lamEnv X scope s.heap.objs.size f c')) → PE (lamN X A outer s H E scope f c') body (t E))
    (hdb : (x == ("__debug__" : Str)) = false := by decide) (hd : (a == ("__debug__" : Str)) = false := by decide) (hcd : (a == ("__classdict__" : Str)) = false := by decide) :
    PE X (.Call (.Name x p) [.Lambda params body scope lpos] [] pos) (tLam T TT t) := by
  refine ⟨fun pins s σ H Q I ⟨hT, h⟩ => wpAny_Call_Name_kw (ld_glob I hg hm (PySem.W.callWith_K (h₀ := X.base) I.ok.mod.kin hk ?_ (by rfl) (by rfl)) hdb)⟩
  show wpAny _ _ (spliced ((false, eval (.Lambda params body scope lpos) X.env) :: backTo pos (starEach [] X.env))) _ _ s
  refine Calls.spliced_cons (lam_make2 I TB hcode hmT hu hT hdef (L.has I.ok) fun f c' pm' ctv H1 s' I1 eN T1 hf hfn hfr hco => Calls.spliced_nil ⟨I1.kIn, ?_⟩)
  have rc : codeAny (model X.prog X.w) X.A (.call (.ref g) ⟨[.ref f], []⟩) (CR C8.CX0 X.stack X.prog X.w H1 s' Q C8.E0) s' := by
    refine run_ofS (N := Ng) (ps := [a]) (us := [.ref f]) (vs := [.ref f]) lk hcg Sg hr I1.env0 (hb s' [.ref f] I1.kIn rfl) (.cons rfl .nil) rfl fun hr' => ?_
    obtain ⟨t', ht', hq'⟩ := hG f c' s' H1 Q (fun E H' Q' => t E σ H' Q') (fun W pn xe E p1 p2 tk => pe_actN (i := 0) I1 L hf hfn hfr (hbind _ _ _ _ _) tk hr' (fun A outer s H hr2 => hbody A outer s H E f c' hr2) hNg hva hd hcd) hco (h H1 eN T1)
    exact ⟨t', ht'.nox, hq'⟩
  refine wpAny_call (codeAny_mono rc fun r s2 hq => ?_)
  match r, hq with
  | .error e, z => exact (show False from z).elim
  | .ok (.ret u), z => exact I1.after z
  | .ok .next, z => exact z.elim
  | .ok .brk, z => exact z.elim
  | .ok .cont, z => exact z.elim
end
def TTx (K : PySem.W.Frag) (RE : Addr) (spR : SpE) : (XK → Hp → VK → Prop) → Hp → VK → Prop := fun tl H Q => ∀ (Q' : VK) (E : XK), (∀ v H', (∀ p, H' p = none → Q (.ref p) (upd H' p (.tup [.str "told", v]))) → Q' v H') →
  (∀ (D : Addr) (d : Option Addr) (fs : List (Str × V)) (H' : Hp), DAt d fs H' → PySem.W.exmOne K (.ref D) (.ref RE) = some true → spR D d fs H' Q → E (.ref D) d H') → tl E H Q'
theorem roomH_mark' {k : Nat} {A : Around} (r : RoomH k A) {h : Option Value} : RoomH k (A.mark h) := ⟨r.dp, r.un⟩
section
open LamX
variable {X : Cx}
theorem told_gives {Ng : List Str} {fo en : Str} {q rn : Str} {sg : Scope} {g RE fR : Addr} {cdg : Value} {kR : Nat} {fdR : FuncData} {psR : List Str} {spR : SpE} {j1 j2 j3 : Nat} {p1 p2 p3 p4 p5 p6 p7 p8 p9 p10 p11 p12 p13 p14 p15 p16 p17 p18 p19 : Pos} (hN : Ng.Nodup) (h1 : Ng[1]? = some fo) (h2 : Ng[2]? = some en) (hf : sg.names.lookup fo = some .local) (he : sg.names.lookup en = some .local)
    (hgf : (fo == ("__debug__" : Str)) = false) (hgc : (fo == ("__classdict__" : Str)) = false) (hge : (en == ("__debug__" : Str)) = false) (hgd : (en == ("__classdict__" : Str)) = false)
    (hre : sg.names.lookup ("RigError" : Str) = some .globalImplicit) (hme : X.mg ("RigError" : Str) = some (.ref RE)) (FR : FnE X.prog X.w X.K X.mg X.base kR fR fdR psR spR) (hrn : sg.names.lookup rn = some .globalImplicit) (hmr : X.mg rn = some (.ref fR)) (hkr : PySem.W.keepIn X.K (.ref fR) = true) (hbr : Binds X.K fdR psR []) (hlr : psR.length = 1) (hdr : (rn == ("__debug__" : Str)) = false)
    (mono : ∀ D d fs H Q Q', (∀ v H, Q v H → Q' v H) → spR D d fs H Q → spR D d fs H Q') (hroom : ∀ (s : Shared), RoomH kR (X.A.deeper (envOfC "_law_told" sg s.heap.objs.size g cdg))) :
    GivesN X Ng "_law_told" sg g cdg [.Assign [.Name fo p1] (.Constant .none j1 p2) p3, .Try [.Assign [.Name fo p4] (.Tuple [.Constant (.str "told") j2 p5, .Call (.Name "deed" p6) [] [] p7] j3 p8) p9] [.ExceptHandler (some (.Name "RigError" p10)) (some en) [.Assign [.Name fo p11] (.Call (.Name rn p12) [.Name en p13] [] p14) p15] p16] [] [] p17, .Return (some (.Name fo p18)) p19] "deed" q (TTx X.K RE spR) := by
  intro f c' s H Q tl act hc h
  obtain ⟨n0, r, rfl⟩ : ∃ n0 r, Ng = n0 :: fo :: en :: r := by
    match Ng, h1, h2 with
    | n0 :: n1 :: n2 :: r, h1, h2 =>
      simp only [List.getElem?_cons_succ, List.getElem?_cons_zero, Option.some.injEq] at h1 h2
      exact ⟨n0, r, by rw [h1, h2]⟩
  let Xg : Cx := (gvX X (n0 :: fo :: en :: r) "_law_told" sg g cdg s H).nox
  have l1 : L2.Loc Xg.env.scope fo := .inl hf
  have W0 : L2N.Takes Xg (fun _ _ _ _ => False) := fun u s' x => by
    obtain ⟨_, _, _, _, _, _, _, _, _, _, _, _, _, _, _, _, z⟩ := x
    exact z.elim
  -- the try's body
  have body : ∀ (W : WX) (pn : List (Addr × Obj)) (xe : Value → Shared → Prop), L2N.Takes (Xg.tr pn xe) W → ∀ E : XK, PSs (Xg.tr pn xe) [.Assign [.Name fo p4] (.Tuple [.Constant (.str "told") j2 p5, .Call (.Name "deed" p6) [] [] p7] j3 p8) p9] _ := fun W pn xe tk E => pss_one (ps_set (X := Xg.tr pn xe) (i := 1) hN rfl l1 (pe_tup (pa_cons pe_str (pa_cons (act W pn xe E p6 p7 tk) pa_nil))) rfl (.inr hf))
  have suite : ∀ (a : Addr) (oe : Obj) (Dc : Addr) (d : Option Addr) (pn : List (Addr × Obj)), L2N.Zn (.ref Dc) d oe → (∃ vs, oe.data = .fields vs) → PSs (Xg.suite a ((a, oe) :: pn)) [.Assign [.Name fo p11] (.Call (.Name rn p12) [.Name en p13] [] p14) p15] _ := fun a oe Dc d pn hz hv =>
    pss_one (ps_set (X := Xg.suite a ((a, oe) :: pn)) (i := 1) hN rfl l1 (pe_callE (X := Xg.suite a ((a, oe) :: pn)) (p := (a, oe)) (i := 2) FR (roomH_mark' (hroom s)) ⟨rfl, by obtain ⟨vs, e⟩ := hv; exact ⟨vs, e, hz.2.2 vs e⟩⟩ List.mem_cons_self hz hv hrn hmr hkr hbr hlr rfl (.inl he) hge hgd hdr) rfl (.inr hf))
  let bR : WX → XK → TS := fun W E Dn σ H => σ[0]? = some (some (.ref f)) ∧ H c' = some (CodeO c' q) ∧ (∀ cls d H', E cls d H' → W cls d σ H') ∧ tl E H fun v H1 => ([V.str "told", v]).length ≤ sizeLine ∧ ∀ p, H1 p = none → Dn.nx (σ.set 1 (some (.ref p))) (upd H1 p (.tup [.str "told", v]))
  let sR : Addr → Addr → Option Addr → TS := fun a Dc d Dn σ H => σ[2]? = some (some (.ref a)) ∧ ∃ fs, DAt d fs H ∧ spR Dc d fs H fun v H1 => Dn.nx (σ.set 1 (some v)) H1
  have hb : ∀ (W : WX) (pn : List (Addr × Obj)) (xe : Value → Shared → Prop), L2N.Takes (Xg.tr pn xe) W → PassesOwn (model Xg.prog Xg.w) Xg.A Xg.env xe → PSs (Xg.tr pn xe) [.Assign [.Name fo p4] (.Tuple [.Constant (.str "told") j2 p5, .Call (.Name "deed" p6) [] [] p7] j3 p8) p9] (fun Dn σ H => ∃ E, bR W E Dn σ H) := fun W pn xe tk _ =>
    ⟨fun pins s' σ H' Dn I ⟨E, z⟩ => (body W pn xe tk E).run pins s' σ H' Dn I z⟩
  have hsu : ∀ (a : Addr) (oe : Obj) (cls : Value) (d : Option Addr) (pn : List (Addr × Obj)), L2N.Zn cls d oe → (∃ vs, oe.data = .fields vs) → PSs (Xg.suite a ((a, oe) :: pn)) [.Assign [.Name fo p11] (.Call (.Name rn p12) [.Name en p13] [] p14) p15] (fun Dn σ H => ∃ Dc, cls = .ref Dc ∧ sR a Dc d Dn σ H) := fun a oe cls d pn hz hv =>
    ⟨fun pins s' σ H' Dn I ⟨Dc, e, z⟩ => by subst e; exact (suite a oe Dc d pn hz hv).run pins s' σ H' Dn I z⟩
  refine ⟨_, pss_cons (ps_set (X := Xg) (i := 1) hN rfl l1 pe_non rfl (.inr hf)) (pss_cons (L2N.ps_try_as (X := Xg) (x := "RigError") (i := 2) (n := en) (c := .ref RE) (tb := fun W Dn σ H => ∃ E, bR W E Dn σ H) (ts := fun a cls d Dn σ H => ∃ Dc, cls = .ref Dc ∧ sR a Dc d Dn σ H) rfl rfl hN rfl he ⟨hre, by decide, .inl hme⟩ W0 hb hsu)
    (pss_one (ps_ret (pe_var (X := Xg) (i := 1) rfl (.inl hf) hgf hgc)))), ?_⟩
  refine ⟨fun cls d H' => ∃ D fs, cls = .ref D ∧ DAt d fs H' ∧ PySem.W.exmOne X.K (.ref D) (.ref RE) = some true ∧ spR D d fs H' Q, rfl, hc, ?_, h _ _ (fun v H' z => ⟨by show (2 : Nat) ≤ _; rw [sizeLine_eq]; omega, fun p hp => ⟨.ref p, by simp [L2.start], z p hp⟩⟩) fun D d fs H' a b c => ⟨D, fs, rfl, a, b, c⟩⟩
  rintro cls d H' ⟨D, fs, rfl, hd, hx, hs⟩
  refine ⟨true, hx, fun _ a ha => ⟨D, rfl, by simp [L2.start], fs, hd, mono _ _ _ _ _ _ (fun v H1 z => ⟨v, by simp [L2.start], z⟩) hs⟩, fun z => nomatch z⟩
end
end MPH
namespace MPH
open PySem PySem.Spec PyProof.Rows L2 HotX L2H
inductive IsiL : List Expr → List Str → Prop
  | nil : IsiL [] []
  | cons {p1 p2 p3 p4 : Pos} {c : Str} {es : List Expr} {cs : List Str} (h : IsiL es cs) : IsiL (.Call (.Name "isinstance" p1) [.Name "e" p2, .Name c p3] [] p4 :: es) (c :: cs)
inductive StrL : List Expr → List Str → Prop
  | nil : StrL [] []
  | cons {z : Str} {j : Nat} {p : Pos} {es : List Expr} {zs : List Str} (h : StrL es zs) : StrL (.Constant (.str z) j p :: es) (z :: zs)
def isiC : List Expr → Option (List Str)
  | [] => some []
  | e :: es => match e with
    | .Call (.Name x _) [.Name y _, .Name c _] [] _ => if x == ("isinstance" : Str) && y == ("e" : Str) then (isiC es).map (c :: ·) else none
    | _ => none
def strC : List Expr → Option (List Str)
  | [] => some []
  | e :: es => match e with
    | .Constant (.str z) _ _ => (strC es).map (z :: ·)
    | _ => none
theorem isiC_ok : ∀ {es : List Expr} {cs : List Str}, isiC es = some cs → IsiL es cs
  | [], cs, h => by
    simp only [isiC, Option.some.injEq] at h
    subst h
    exact .nil
  | e :: es, cs, h => by
    unfold isiC at h
    split at h
    · rename_i x p1 y p2 c p3 p4
      split at h
      · rename_i q
        rw [Bool.and_eq_true] at q
        obtain ⟨q1, q2⟩ := q
        rw [beq_iff_eq] at q1 q2
        subst q1 q2
        rw [Option.map_eq_some_iff] at h
        obtain ⟨r, h, rfl⟩ := h
        exact .cons (isiC_ok h)
      · cases h
    · cases h
theorem strC_ok : ∀ {es : List Expr} {zs : List Str}, strC es = some zs → StrL es zs
  | [], zs, h => by
    simp only [strC, Option.some.injEq] at h
    subst h
    exact .nil
  | e :: es, zs, h => by
    unfold strC at h
    split at h
    · rw [Option.map_eq_some_iff] at h
      obtain ⟨r, h, rfl⟩ := h
      exact .cons (strC_ok h)
    · cases h
abbrev ExtH (H H' : Hp) : Prop := ∀ b o, H b = some o → H' b = some o
theorem extH_upd {H : Hp} {p : Addr} {o : HO} (n : H p = none) : ExtH H (upd H p o) := fun b u e => by rw [upd_ne (ne_of_none e n)]; exact e
theorem ExtH.trans {H H1 H2 : Hp} (a : ExtH H H1) (b : ExtH H1 H2) : ExtH H H2 := fun c o e => b c o (a c o e)
theorem DAt.ext {d : Option Addr} {fs : List (Str × V)} {H H' : Hp} (h : DAt d fs H) (e : ExtH H H') : DAt d fs H' := by
  cases d with
  | none => exact h
  | some a => exact e _ _ h
def CK (X : Cx) (D : Addr) (c : Str) (b : Bool) : Prop := ∃ (v : V) (u : Value), ClsV v u ∧ PySem.W.kitOne X.K (.ref D) u = some b ∧ ∀ p, PE X (.Name c p) (tC v)
def At0 (a : Addr) (d : Option Addr) : L2.St → Hp → Prop := fun σ H => σ[0]? = some (some (.ref a)) ∧ ∃ fs, DAt d fs H
theorem At0.set {a : Addr} {d : Option Addr} {σ : L2.St} {H : Hp} {i : Nat} {v : Option V} (h : At0 a d σ H) (hi : i ≠ 0) : At0 a d (σ.set i v) H := ⟨by rw [List.getElem?_set_ne hi]; exact h.1, h.2⟩
theorem At0.ext {a : Addr} {d : Option Addr} {σ : L2.St} {H H' : Hp} (h : At0 a d σ H) (e : ExtH H H') : At0 a d σ H' := ⟨h.1, h.2.elim fun fs q => ⟨fs, q.ext e⟩⟩
section
variable {X : Cx} {p : Addr × Obj} {D : Addr} {d : Option Addr}
structure InE (X : Cx) (p : Addr × Obj) (D : Addr) (d : Option Addr) : Prop where
  ec : EC X.K D
  pn : p ∈ X.pn
  zn : L2N.Zn (.ref D) d p.2
  fl : ∃ vs, p.2.data = .fields vs
  nm : X.N[0]? = some ("e" : Str)
  vs : Vis X.env.scope "e"
  gi : Gl X "isinstance"
  fi : X.mg "isinstance" = none
theorem pe_isi (h : InE X p D d) {c : Str} {b : Bool} (k : CK X D c b) {p1 p2 p3 p4 : Pos} : PE X (.Call (.Name "isinstance" p1) [.Name "e" p2, .Name c p3] [] p4) (fun σ H Q => At0 p.1 d σ H ∧ Q (.bl b) H) := by
  obtain ⟨v, u, cv, ko, pc⟩ := k
  have z := pe_callB (pos := p4) (p := p1) (call_isP h.ec h.pn h.zn.zc h.fl) h.gi h.fi (by kernel_rfl) (pa_cons (pe_var (pos := p2) h.nm h.vs) (pa_cons (pc p3) pa_nil))
  exact ⟨fun pins s σ H Q I ⟨⟨h0, fs, hd⟩, q⟩ => z.run pins s σ H Q I ⟨_, h0, v, u, b, fs, rfl, cv, hd, ko, q⟩⟩
theorem pa_isi (h : InE X p D d) : ∀ {es : List Expr} {cs : List Str} {bs : List Bool}, IsiL es cs → Paired (CK X D) cs bs → PA X es (fun σ H Q => At0 p.1 d σ H ∧ Q (bs.map .bl) H)
  | _, _, _, .nil, .nil => ⟨fun pos pins s σ H Q I ⟨_, q⟩ => (pa_nil (X := X)).run pos pins s σ H Q I q⟩
  | _, _, _, .cons l, .cons k ks => ⟨fun pos pins s σ H Q I ⟨a, q⟩ => (pa_cons (pe_isi h k) (pa_isi h l ks)).run pos pins s σ H Q I ⟨a, a, q⟩⟩
theorem pa_strs : ∀ {es : List Expr} {zs : List Str}, StrL es zs → PA X es (fun _ H Q => Q (zs.map .str) H)
  | _, _, .nil => ⟨fun pos pins s σ H Q I q => (pa_nil (X := X)).run pos pins s σ H Q I q⟩
  | _, _, .cons l => ⟨fun pos pins s σ H Q I q => (pa_cons pe_str (pa_strs l)).run pos pins s σ H Q I q⟩
theorem ps_first {i : Nat} {x : Str} {es : List Expr} {pre : L2.St → Hp → Prop} {xs : List V} {p1 p2 p3 : Pos} (hN : X.N.Nodup) (hi : X.N[i]? = some x) (hx : X.env.scope.names.lookup x = some .local) (ha : PA X es (fun σ H Q => pre σ H ∧ Q xs H)) (hl : xs.length ≤ 1000) :
    PS X (.Assign [.Name x p1] (.List es p2) p3) (fun Dn σ H => pre σ H ∧ ∀ l H', ExtH H H' → H' l = some (.lst xs) → Dn.nx (σ.set i (some (.ref l))) H') := by
  have z := ps_set (X := X) (pos := p3) (pos' := p1) hN hi (.inl hx) (pe_lst (pos := p2) ha) rfl (.inr hx)
  exact ⟨fun pins s σ H Dn I ⟨a, q⟩ => z.run pins s σ H Dn I ⟨a, by rw [sizeLine_eq]; omega, fun l n => q l _ (extH_upd n) upd_same⟩⟩
theorem ps_more {i : Nat} {x : Str} {es : List Expr} {pre : L2.St → Hp → Prop} {xs : List V} {p1 p2 p3 p4 p5 : Pos} (hN : X.N.Nodup) (hi : X.N[i]? = some x) (hx : X.env.scope.names.lookup x = some .local) (hd : (x == ("__debug__" : Str)) = false) (hc : (x == ("__classdict__" : Str)) = false) (ha : PA X es (fun σ H Q => pre σ H ∧ Q xs H)) :
    PS X (.Assign [.Name x p1] (.BinOp (.Name x p2) .Add (.List es p3) p4) p5) (fun Dn σ H => pre σ H ∧ ∃ l acc, σ[i]? = some (some (.ref l)) ∧ H l = some (.lst acc) ∧ acc.length + xs.length ≤ 1000 ∧ ∀ l' H', ExtH H H' → H' l' = some (.lst (acc ++ xs)) → Dn.nx (σ.set i (some (.ref l'))) H') := by
  have z := ps_set (X := X) (pos := p5) (pos' := p1) hN hi (.inl hx) (pe_op (pos := p4) op_cat (pe_var (pos := p2) hi (.inl hx) hd hc) (pe_lst (pos := p3) ha)) rfl (.inr hx)
  refine ⟨fun pins s σ H Dn I ⟨a, l, acc, h1, h2, hl, q⟩ => z.run pins s σ H Dn I ⟨_, h1, a, by rw [sizeLine_eq]; omega, fun r n => ⟨l, r, acc, xs, rfl, rfl, extH_upd n _ _ h2, upd_same, by rw [sizeLine_eq]; omega, fun t n2 => q t _ ((extH_upd n).trans (extH_upd n2)) upd_same⟩⟩⟩
end
def pick (zs : List Str) (bs : List Bool) : List Str := ((zs.zip bs).filter (·.2)).map (·.1)
theorem pick_step {zs : List Str} {bs : List Bool} {i : Nat} {z : Str} {b : Bool} (h1 : zs[i]? = some z) (h2 : bs[i]? = some b) : pick (zs.take (i + 1)) (bs.take (i + 1)) = pick (zs.take i) (bs.take i) ++ (if b then [z] else []) := by
  have e1 : zs.take (i + 1) = zs.take i ++ [z] := by rw [List.take_add_one, h1]; rfl
  have e2 : bs.take (i + 1) = bs.take i ++ [b] := by rw [List.take_add_one, h2]; rfl
  have l1 := (List.getElem?_eq_some_iff.mp h1).1
  have l2 := (List.getElem?_eq_some_iff.mp h2).1
  unfold pick
  rw [e1, e2, List.zip_append (by rw [List.length_take, List.length_take]; omega), List.filter_append, List.map_append]
  cases b <;> rfl
theorem wipe2 {σ : L2.St} {i j : Nat} (h : i ≠ j) (v w : Option V) : wipe (((wipe σ [i, j]).set i v).set j w) [i, j] = wipe σ [i, j] := by
  simp only [wipe]
  refine List.ext_getElem? fun k => ?_
  by_cases h1 : k = i
  · subst h1
    by_cases hl : k < σ.length <;> simp [List.getElem?_set, h, Ne.symm h, hl]
  · by_cases h2 : k = j
    · subst h2
      by_cases hl : k < σ.length <;> simp [List.getElem?_set, h, Ne.symm h, hl]
    · simp [List.getElem?_set, h1, h2, Ne.symm h1, Ne.symm h2]
section
variable {X : Cx}
theorem pe_pick {ia ib it io kk : Nat} {scope : Scope} {q1 q2 q3 q4 q5 q6 q7 q8 q9 pos : Pos} (hot : HotC X) (hN : X.N.Nodup) (ok : BlkOk X.N X.env.scope scope [("title", it), ("one", io)]) (na : X.N[ia]? = some ("titles" : Str)) (nb : X.N[ib]? = some ("some" : Str)) (nt : X.N[it]? = some ("title" : Str)) (no : X.N[io]? = some ("one" : Str))
    (va : X.env.scope.names.lookup ("titles" : Str) = some .local) (vb : X.env.scope.names.lookup ("some" : Str) = some .local) (vt : (relS scope X.env.scope).names.lookup ("title" : Str) = some .local) (vo : (relS scope X.env.scope).names.lookup ("one" : Str) = some .local) (gz : Gl X "zip") (mz : X.mg "zip" = none) (ne : it ≠ io) :
    PE X (.ListComp (.Name "title" q1) [⟨.Tuple [.Name "title" q2, .Name "one" q3] kk q4, .Call (.Name "zip" q5) [.Name "titles" q6, .Name "some" q7] [] q8, [.Name "one" q9], 0⟩] scope pos)
      (fun σ H Q => it < σ.length ∧ io < σ.length ∧ ∃ (a b : Addr) (zs : List Str) (bs : List Bool), σ[ia]? = some (some (.ref a)) ∧ σ[ib]? = some (some (.ref b)) ∧ H a = some (.lst (zs.map .str)) ∧ H b = some (.lst (bs.map .bl)) ∧ zs.length = bs.length ∧ zs.length ≤ 1000 ∧ ∀ l H', ExtH H H' → H' l = some (.lst ((pick zs bs).map .str)) → Q (.ref l) H') := by
  have z := pe_lcHot (X := X) (pos := pos) (g := gTup X.K 2 (gCons (gName it) (gCons (gName io) gNil))) hot hN (pi_z (es := [.Name "title" q2, .Name "one" q3]) (kk := kk) (tp := q4) (p := q5) (pos := q8) gz mz (pa_cons (pe_var (pos := q6) na (.inl va)) (pa_cons (pe_var (pos := q7) nb (.inl vb)) pa_nil))) ok
    (fun s H C cl fp ho => pg_tupH (n := 2) ho (pgs_cons (pg_name (i := it) hN nt (.inl vt) (.inr vt)) (pgs_cons (pg_name (i := io) hN no (.inl vo) (.inr vo)) pgs_nil)))
    (fun s H C cl fp => pts_one (pt_val (pe_var (pos := q9) (i := io) no (.inl vo)))) (fun s H C cl fp => pe_var (pos := q1) (i := it) nt (.inl vt))
  refine ⟨fun pins s σ H Q I ⟨li, lo, a, b, zs, bs, ea, eb, ha, hb, len, big, q⟩ => z.run pins s σ H Q I ⟨_, ea, _, eb, a, b, zs.map .str, bs.map .bl, rfl, .inl (.inl ha), .inl (.inl hb), fun Da nD => ?_⟩⟩
  have na' : a ≠ Da := ne_of_none ha nD
  have nb' : b ≠ Da := ne_of_none hb nD
  refine ⟨fun i m H' => m = zs.length - i ∧ i ≤ zs.length ∧ ExtH H H' ∧ H' Da = some (.lst ((pick (zs.take i) (bs.take i)).map .str)), ⟨zs.length, rfl, Nat.zero_le _, extH_upd nD, by rw [upd_same]; rfl⟩, ?_⟩
  rintro i m H' ⟨rfl, hi, ex, hD⟩
  by_cases hlt : i < zs.length
  · have hz : zs[i]? = some zs[i] := List.getElem?_eq_getElem hlt
    have hlb : i < bs.length := by omega
    have hw : bs[i]? = some bs[i] := List.getElem?_eq_getElem hlb
    have st := pick_step hz hw
    have lp : (pick (zs.take i) (bs.take i)).length ≤ 1000 := by
      unfold pick
      rw [List.length_map]
      refine Nat.le_trans (List.length_filter_le _ _) ?_
      rw [List.length_zip, List.length_take, List.length_take]
      omega
    refine .inr ⟨⟨zs.map .str, bs.map .bl, .str zs[i], .bl bs[i], .inl (.inl (ex _ _ ha)), .inl (.inl (ex _ _ hb)), by rw [List.getElem?_map, hz]; rfl, by rw [List.getElem?_map, hw]; rfl⟩,
      fun H5 => ExtH H H5 ∧ H5 Da = some (.lst ((pick (zs.take (i + 1)) (bs.take (i + 1))).map .str)), fun H5 h5 => ⟨zs.length - (i + 1), by omega, rfl, hlt, h5.1, h5.2⟩, ?_⟩
    rintro x H5 ⟨T, x1, y1, rfl, nT, rfl, f1, f2⟩
    have g1 := f1 _ (.inl (.inl (ex _ _ ha)))
    have g2 := f2 _ (.inl (.inl (ex _ _ hb)))
    rw [List.getElem?_map, hz] at g1
    rw [List.getElem?_map, hw] at g2
    simp only [Option.map_some, Option.some.injEq] at g1 g2
    subst g1 g2
    have DT : Da ≠ T := ne_of_none hD nT
    have hD5 : upd H' T (.tup [.str zs[i], .bl bs[i]]) Da = some (.lst ((pick (zs.take i) (bs.take i)).map .str)) := by rw [upd_ne DT]; exact hD
    have ex5 : ExtH H (upd H' T (.tup [.str zs[i], .bl bs[i]])) := ex.trans (extH_upd nT)
    have wl : (wipe σ [it, io]).length = σ.length := wipe_length σ _
    have li' : it < (wipe σ (List.map (fun x => x.snd) [(("title" : Str), it), (("one" : Str), io)])).length := by show it < (wipe σ [it, io]).length; rw [wl]; exact li
    have lo' : io < (wipe σ (List.map (fun x => x.snd) [(("title" : Str), it), (("one" : Str), io)])).length := by show io < (wipe σ [it, io]).length; rw [wl]; exact lo
    refine ⟨T, [.str zs[i], .bl bs[i]], rfl, .inl (.inl upd_same), rfl, _, _, rfl, _, _, rfl, rfl, wipe2 ne _ _, .bl bs[i], by rw [List.getElem?_set_self (by rw [List.length_set]; exact lo')], bs[i], rfl, ?_⟩
    cases hbi : bs[i] with
    | false =>
      rw [if_neg Bool.false_ne_true]
      rw [hbi] at st hD5 ex5
      exact ⟨ex5, by rw [hD5, st]; simp⟩
    | true =>
      rw [if_pos rfl]
      rw [hbi] at st hD5 ex5
      refine ⟨.str zs[i], by rw [List.getElem?_set_ne (Ne.symm ne), List.getElem?_set_self li'], _, hD5, by rw [List.length_map, sizeLine_eq]; omega, fun c o e => ?_, by rw [upd_same, st]; simp⟩
      rw [upd_ne (ne_of_none e nD)]
      exact ex5 c o e
  · have e : i = zs.length := by omega
    subst e
    refine .inl ⟨⟨zs.map .str, bs.map .bl, .inl (.inl (ex _ _ ha)), .inl (.inl (ex _ _ hb)), .inl (by simp)⟩, q Da H' ex ?_⟩
    rw [hD, List.take_length, show zs.length = bs.length from len, List.take_length]
end
theorem paired_app {α β : Type} {F : α → β → Prop} : ∀ {a b : List α} {l : List β}, Paired F (a ++ b) l → ∃ l1 l2, l = l1 ++ l2 ∧ Paired F a l1 ∧ Paired F b l2
  | [], _, l, h => ⟨[], l, rfl, .nil, h⟩
  | _ :: a, b, _, .cons h t => by
    obtain ⟨l1, l2, rfl, h1, h2⟩ := paired_app (a := a) t
    exact ⟨_ :: l1, l2, rfl, .cons h h1, h2⟩
def moreC (x : Str) : Stmt → Option (List Expr)
  | .Assign [.Name a _] (.BinOp (.Name b _) .Add (.List es _) _) _ => if a == x && b == x then some es else none
  | _ => none
def firstC (x : Str) : Stmt → Option (List Expr)
  | .Assign [.Name a _] (.List es _) _ => if a == x then some es else none
  | _ => none
def retC : Stmt → Option Scope
  | .Return (some (.Call (.Attribute (.Constant (.str z) _ _) m ap) [.ListComp (.Name a _) [⟨.Tuple [.Name b _, .Name c _] _ _, .Call (.Name d _) [.Name e _, .Name f _] [] _, [.Name g _], 0⟩] scope _] [] cp)) _ =>
    if z == (" " : Str) && m == ("join" : Str) && a == ("title" : Str) && b == ("title" : Str) && c == ("one" : Str) && d == ("zip" : Str) && e == ("titles" : Str) && f == ("some" : Str) && g == ("one" : Str) && ap.endLine == cp.line then some scope else none
  | _ => none
theorem moreC_ok {x : Str} {s : Stmt} {es : List Expr} (h : moreC x s = some es) : ∃ p1 p2 p3 p4 p5, s = .Assign [.Name x p1] (.BinOp (.Name x p2) .Add (.List es p3) p4) p5 := by
  unfold moreC at h
  split at h
  · split at h
    · rename_i q
      rw [Bool.and_eq_true, beq_iff_eq, beq_iff_eq] at q
      obtain ⟨rfl, rfl⟩ := q
      cases h
      exact ⟨_, _, _, _, _, rfl⟩
    · cases h
  · cases h
theorem firstC_ok {x : Str} {s : Stmt} {es : List Expr} (h : firstC x s = some es) : ∃ p1 p2 p3, s = .Assign [.Name x p1] (.List es p2) p3 := by
  unfold firstC at h
  split at h
  · split at h
    · rename_i q
      rw [beq_iff_eq] at q
      subst q
      cases h
      exact ⟨_, _, _, rfl⟩
    · cases h
  · cases h
theorem retC_ok {s : Stmt} {scope : Scope} (h : retC s = some scope) : ∃ j kk p1 ap q1 q2 q3 q4 q5 q6 q7 q8 q9 lp cp rp, (ap.endLine == cp.line) = true ∧ s = .Return (some (.Call (.Attribute (.Constant (.str " ") j p1) "join" ap) [.ListComp (.Name "title" q1) [⟨.Tuple [.Name "title" q2, .Name "one" q3] kk q4, .Call (.Name "zip" q5) [.Name "titles" q6, .Name "some" q7] [] q8, [.Name "one" q9], 0⟩] scope lp] [] cp)) rp := by
  unfold retC at h
  split at h
  · split at h
    · rename_i q
      simp only [Bool.and_eq_true, beq_iff_eq] at q
      obtain ⟨⟨⟨⟨⟨⟨⟨⟨⟨rfl, rfl⟩, rfl⟩, rfl⟩, rfl⟩, rfl⟩, rfl⟩, rfl⟩, rfl⟩, q⟩ := q
      cases h
      exact ⟨_, _, _, _, _, _, _, _, _, _, _, _, _, _, _, _, by rw [beq_iff_eq]; exact q, rfl⟩
    · cases h
  · cases h
def kindC : List Stmt → Option (List Str × List Str × Scope)
  | [a1, a2, a3, a4, a5, b1, b2, r] => do
    let c1 ← isiC (← firstC "some" a1)
    let c2 ← isiC (← moreC "some" a2)
    let c3 ← isiC (← moreC "some" a3)
    let c4 ← isiC (← moreC "some" a4)
    let c5 ← isiC (← moreC "some" a5)
    let z1 ← strC (← firstC "titles" b1)
    let z2 ← strC (← moreC "titles" b2)
    let sc ← retC r
    some (c1 ++ c2 ++ c3 ++ c4 ++ c5, z1 ++ z2, sc)
  | _ => none
section
variable {X : Cx} {p : Addr × Obj} {D : Addr} {d : Option Addr}
theorem kind_pss (h : InE X p D d) (hot : HotC X) (hN : X.N.Nodup) (n1 : X.N[1]? = some ("some" : Str)) (n2 : X.N[2]? = some ("titles" : Str)) (n3 : X.N[3]? = some ("title" : Str)) (n4 : X.N[4]? = some ("one" : Str)) {body : List Stmt} {cs zs : List Str} {scope : Scope} (hk : kindC body = some (cs, zs, scope))
    (v1 : X.env.scope.names.lookup ("some" : Str) = some .local) (v2 : X.env.scope.names.lookup ("titles" : Str) = some .local) (ok : BlkOk X.N X.env.scope scope [("title", 3), ("one", 4)]) (v3 : (relS scope X.env.scope).names.lookup ("title" : Str) = some .local) (v4 : (relS scope X.env.scope).names.lookup ("one" : Str) = some .local)
    (gz : Gl X "zip") (mz : X.mg "zip" = none) {bs : List Bool} (hcs : Paired (CK X D) cs bs) (lz : zs.length = bs.length) (l1 : bs.length ≤ 100) (hj : ((pick zs bs).map (·.length)).sum + (pick zs bs).length * (" " : Str).length ≤ 16777216) :
    PSs X body (fun Dn σ H => At0 p.1 d σ H ∧ σ.length = 5 ∧ ∀ H', ExtH H H' → Dn.rt (.str (Txt.join " " (pick zs bs))) H') := by
  unfold kindC at hk
  split at hk
  · simp only [Option.bind_eq_bind, Option.bind_eq_some_iff, Option.some.injEq, Prod.mk.injEq] at hk
    obtain ⟨e1, g1, c1, f1, e2, g2, c2, f2, e3, g3, c3, f3, e4, g4, c4, f4, e5, g5, c5, f5, e6, g6, z1, f6, e7, g7, z2, f7, sc, g8, rfl, rfl, rfl⟩ := hk
    obtain ⟨u10, u11, u12, rfl⟩ := firstC_ok g1
    obtain ⟨u20, u21, u22, u23, u24, rfl⟩ := moreC_ok g2
    obtain ⟨u30, u31, u32, u33, u34, rfl⟩ := moreC_ok g3
    obtain ⟨u40, u41, u42, u43, u44, rfl⟩ := moreC_ok g4
    obtain ⟨u50, u51, u52, u53, u54, rfl⟩ := moreC_ok g5
    obtain ⟨u60, u61, u62, rfl⟩ := firstC_ok g6
    obtain ⟨u70, u71, u72, u73, u74, rfl⟩ := moreC_ok g7
    obtain ⟨j, kk, p1, ap, q1, q2, q3, q4, q5, q6, q7, q8, q9, lp, cp, rp, hl, rfl⟩ := retC_ok g8
    obtain ⟨b1234, b5, rfl, hcs, k5⟩ := paired_app hcs
    obtain ⟨b123, b4, rfl, hcs, k4⟩ := paired_app hcs
    obtain ⟨b12, b3, rfl, hcs, k3⟩ := paired_app hcs
    obtain ⟨b1, b2, rfl, k1, k2⟩ := paired_app hcs
    simp only [List.length_append] at l1 lz
    have pm : ∀ {bs : List Bool}, (bs.map V.bl).length = bs.length := fun {bs} => List.length_map ..
    have e0 : ∀ {σ : L2.St} {H H' : Hp} {i : Nat} {v : Option V}, At0 p.1 d σ H → i ≠ 0 → ExtH H H' → At0 p.1 d (σ.set i v) H' := fun a hi e => (a.set hi).ext e
    have s1 := fun p1 p2 p3 => ps_first (X := X) (i := 1) (p1 := p1) (p2 := p2) (p3 := p3) hN n1 v1 (pa_isi h (isiC_ok f1) k1) (by rw [pm]; omega)
    have s2 := fun p1 p2 p3 p4 p5 => ps_more (X := X) (i := 1) (p1 := p1) (p2 := p2) (p3 := p3) (p4 := p4) (p5 := p5) hN n1 v1 (by decide) (by decide) (pa_isi h (isiC_ok f2) k2)
    have s3 := fun p1 p2 p3 p4 p5 => ps_more (X := X) (i := 1) (p1 := p1) (p2 := p2) (p3 := p3) (p4 := p4) (p5 := p5) hN n1 v1 (by decide) (by decide) (pa_isi h (isiC_ok f3) k3)
    have s4 := fun p1 p2 p3 p4 p5 => ps_more (X := X) (i := 1) (p1 := p1) (p2 := p2) (p3 := p3) (p4 := p4) (p5 := p5) hN n1 v1 (by decide) (by decide) (pa_isi h (isiC_ok f4) k4)
    have s5 := fun p1 p2 p3 p4 p5 => ps_more (X := X) (i := 1) (p1 := p1) (p2 := p2) (p3 := p3) (p4 := p4) (p5 := p5) hN n1 v1 (by decide) (by decide) (pa_isi h (isiC_ok f5) k5)
    have t0 : ∀ {es : List Expr} {zs : List Str}, StrL es zs → PA X es (fun σ H Q => True ∧ Q (zs.map .str) H) := fun l => ⟨fun pos pins s σ H Q I q => (pa_strs l).run pos pins s σ H Q I q.2⟩
    have s6 := fun p1 p2 p3 => ps_first (X := X) (i := 2) (pre := fun _ _ => True) (p1 := p1) (p2 := p2) (p3 := p3) hN n2 v2 (t0 (strC_ok f6)) (by rw [List.length_map]; omega)
    have s7 := fun p1 p2 p3 p4 p5 => ps_more (X := X) (i := 2) (pre := fun _ _ => True) (p1 := p1) (p2 := p2) (p3 := p3) (p4 := p4) (p5 := p5) hN n2 v2 (by decide) (by decide) (t0 (strC_ok f7))
    have s8 := ps_ret (pos := rp) (pe_join (X := X) (apos := ap) (pos := cp) (pe_str (x := " ") (j := j) (pos := p1)) (pe_pick (ia := 2) (ib := 1) (it := 3) (io := 4) (kk := kk) (q1 := q1) (q2 := q2) (q3 := q3) (q4 := q4) (q5 := q5) (q6 := q6) (q7 := q7) (q8 := q8) (q9 := q9) (pos := lp) hot hN ok n2 n1 n3 n4 v2 v1 v3 v4 gz mz (by decide)) rfl rfl hl)
    have all := pss_cons (s1 u10 u11 u12) (pss_cons (s2 u20 u21 u22 u23 u24) (pss_cons (s3 u30 u31 u32 u33 u34) (pss_cons (s4 u40 u41 u42 u43 u44) (pss_cons (s5 u50 u51 u52 u53 u54) (pss_cons (s6 u60 u61 u62) (pss_cons (s7 u70 u71 u72 u73 u74) (pss_one s8)))))))
    refine ⟨fun pins s σ H Dn I ⟨a0, ln, fin⟩ => all.run pins s σ H Dn I ?_⟩
    refine ⟨a0, fun r1 H1 x1 w1 => ?_⟩
    have a1 := e0 (v := some (.ref r1)) a0 (show (1 : Nat) ≠ 0 by decide) x1
    have len : ∀ {σ : L2.St} {i : Nat} {v : Option V}, (σ.set i v).length = σ.length := fun {σ i v} => List.length_set
    refine ⟨a1, r1, _, by simp [ln], w1, by rw [pm, pm]; omega, fun r2 H2 x2 w2 => ?_⟩
    have a2 := e0 (i := 1) (v := some (.ref r2)) a1 (by decide) x2
    refine ⟨a2, r2, _, by simp [ln], w2, by rw [List.length_append, pm, pm, pm]; omega, fun r3 H3 x3 w3 => ?_⟩
    have a3 := e0 (i := 1) (v := some (.ref r3)) a2 (by decide) x3
    refine ⟨a3, r3, _, by simp [ln], w3, by rw [List.length_append, List.length_append, pm, pm, pm, pm]; omega, fun r4 H4 x4 w4 => ?_⟩
    have a4 := e0 (i := 1) (v := some (.ref r4)) a3 (by decide) x4
    refine ⟨a4, r4, _, by simp [ln], w4, by rw [List.length_append, List.length_append, List.length_append, pm, pm, pm, pm, pm]; omega, fun r5 H5 x5 w5 => ?_⟩
    refine ⟨trivial, fun r6 H6 x6 w6 => ⟨trivial, r6, _, by simp [ln], w6, by rw [List.length_map, List.length_map]; omega, fun r7 H7 x7 w7 => ?_⟩⟩
    refine ⟨⟨_, rfl⟩, by simp [ln], by simp [ln], r7, r5, z1 ++ z2, b1 ++ b2 ++ b3 ++ b4 ++ b5, by simp [ln], by simp [ln], by rw [List.map_append]; exact w7, by simp only [List.map_append]; exact x7 _ _ (x6 _ _ w5), by simp only [List.length_append]; omega, by simp only [List.length_append]; omega, fun l H8 x8 w8 => ⟨" ", l, _, rfl, rfl, .inl (.inl (.inl w8)), hj, fin H8 (((((((x1.trans x2).trans x3).trans x4).trans x5).trans x6).trans x7).trans x8)⟩⟩
  · cases hk
end
end MPH
namespace MPH
open PySem PySem.Spec PyProof.Rows L2 HotX L2H
def CKm (K : PySem.W.Frag) (mg : Str → Option Value) (D : Addr) (c : Str) (b : Bool) : Prop :=
  (∃ C, mg c = some (.ref C) ∧ PySem.W.kitOne K (.ref D) (.ref C) = some b) ∨ (c = "ValueError" ∧ mg c = none ∧ PySem.W.kitOne K (.ref D) (.type "ValueError") = some b)
theorem ck_of {X : Cx} {D : Addr} {c : Str} {b : Bool} (h : CKm X.K X.mg D c b) (g : Gl X c) (nd : (c == ("__debug__" : Str)) = false) : CK X D c b := by
  rcases h with ⟨C, hm, hk⟩ | ⟨rfl, hm, hk⟩
  · exact ⟨.ref C, .ref C, .own C, hk, fun p => pe_glob g hm rfl nd⟩
  · exact ⟨.ty "ValueError", .type "ValueError", .ty _, hk, fun p => pe_bltn g hm (by kernel_rfl) rfl (by decide) nd⟩
theorem paired_imp {α β : Type} {F G : α → β → Prop} : ∀ {a : List α} {b : List β}, Paired F a b → (∀ x ∈ a, ∀ y, F x y → G x y) → Paired G a b
  | _, _, .nil, _ => .nil
  | _, _, .cons h t, k => .cons (k _ (List.mem_cons_self ..) _ h) (paired_imp t fun x hx => k x (List.mem_cons_of_mem _ hx))
structure KOf (K : PySem.W.Frag) (mg : Str → Option Value) (cs zs : List Str) (D : Addr) (z : Str) : Prop where
  ex : ∃ bs : List Bool, Paired (CKm K mg D) cs bs ∧ zs.length = bs.length ∧ bs.length ≤ 100 ∧ ((pick zs bs).map (·.length)).sum + (pick zs bs).length * (" " : Str).length ≤ 16777216 ∧ z = Txt.join " " (pick zs bs)
def spK (K : PySem.W.Frag) (mg : Str → Option Value) (cs zs : List Str) : SpE := fun D d fs H Q => EC K D ∧ ∃ z, KOf K mg cs zs D z ∧ ∀ H', ExtH H H' → Q (.str z) H'
def kindS (cs : List Str) (sc scope : Scope) : Bool :=
  (cs ++ (["isinstance", "zip"] : List Str)).all (fun c => decide (sc.names.lookup c = some .globalImplicit) && !(c == ("__debug__" : Str))) && decide (sc.names.lookup ("e" : Str) = some .local) && decide (sc.names.lookup ("some" : Str) = some .local) && decide (sc.names.lookup ("titles" : Str) = some .local) &&
  decide ((relS scope sc).names.lookup ("title" : Str) = some .local) && decide ((relS scope sc).names.lookup ("one" : Str) = some .local)
theorem kind_ok {P : Program} {w : World} {K : PySem.W.Frag} {mg : Str → Option Value} {base : Heap} {f : Addr} {name qual : Str} {params : Arguments} {body : List Stmt} {sc scope : Scope} {dV kV doc pm cdv ct oc : Value} {an od : Option Addr} {osl : Array (Option Value)} {cs zs : List Str}
    (lk : K.lookup f = some ⟨oc, od, .func (PySem.W.fnOf name qual params body sc dV kV doc pm an cdv ct), osl⟩) (hcd : PySem.W.codeIn K cdv qual = true) (S : FnScope ["e", "some", "titles", "title", "one"] ["e"] sc) (hk : kindC body = some (cs, zs, scope)) (hs : kindS cs sc scope = true)
    (ok : BlkOk ["e", "some", "titles", "title", "one"] sc scope [("title", 3), ("one", 4)]) (m1 : mg "isinstance" = none) (m2 : mg "zip" = none) :
    FnE P w K mg base 1 f (PySem.W.fnOf name qual params body sc dV kV doc pm an cdv ct) ["e"] (spK K mg cs zs) := by
  unfold kindS at hs
  simp only [Bool.and_eq_true, decide_eq_true_eq, List.all_eq_true, Bool.not_eq_true'] at hs
  obtain ⟨⟨⟨⟨⟨hs, v0⟩, v1⟩, v2⟩, v3⟩, v4⟩ := hs
  refine fn_ofE (k := 0) lk hcd S fun A outer s H Q p D d fs hot hr hz hf hd ⟨hE, z, ⟨bs, hc, lz, l1, hj, ez⟩, q⟩ => ?_
  have gl : ∀ c ∈ cs ++ (["isinstance", "zip"] : List Str), Gl (cxH C8.CX0 P w K mg base ["e", "some", "titles", "title", "one"] qual sc f cdv A outer s H C8.E0 p) c := fun c h => (hs c h).1
  have ine : InE (cxH C8.CX0 P w K mg base ["e", "some", "titles", "title", "one"] qual sc f cdv A outer s H C8.E0 p) p D d := ⟨hE, List.mem_cons_self, hz, hf, rfl, .inl v0, gl _ (by simp), m1⟩
  refine ⟨_, kind_pss (X := cxH C8.CX0 P w K mg base ["e", "some", "titles", "title", "one"] qual sc f cdv A outer s H C8.E0 p) ine ⟨p, hot, List.mem_cons_self⟩ S.nd rfl rfl rfl rfl hk v1 v2 ok v3 v4 (gl _ (by simp)) m2
    (paired_imp hc fun c h b k => ck_of (X := cxH C8.CX0 P w K mg base ["e", "some", "titles", "title", "one"] qual sc f cdv A outer s H C8.E0 p) k (gl c (List.mem_append_left _ h)) (hs c (List.mem_append_left _ h)).2) lz l1 hj, ?_⟩
  subst ez
  exact ⟨⟨rfl, fs, hd⟩, rfl, fun H' ex => q H' ex⟩
inductive AttL : List Expr → List Str → Prop
  | nil : AttL [] []
  | cons {p1 p2 : Pos} {f : Str} {es : List Expr} {fl : List Str} (h : AttL es fl) : AttL (.Attribute (.Name "e" p1) f p2 :: es) (f :: fl)
def attC : List Expr → Option (List Str)
  | [] => some []
  | e :: es => match e with
    | .Attribute (.Name y _) f _ => if y == ("e" : Str) then (attC es).map (f :: ·) else none
    | _ => none
theorem attC_ok : ∀ {es : List Expr} {fl : List Str}, attC es = some fl → AttL es fl
  | [], fl, h => by
    simp only [attC, Option.some.injEq] at h
    subst h
    exact .nil
  | e :: es, fl, h => by
    unfold attC at h
    split at h
    · split at h
      · rename_i q
        rw [beq_iff_eq] at q
        subst q
        rw [Option.map_eq_some_iff] at h
        obtain ⟨r, h, rfl⟩ := h
        exact .cons (attC_ok h)
      · cases h
    · cases h
def tellC : Stmt → Option (List Str)
  | .Return (some (.Tuple (.Call (.Name k _) [.Name y _] [] _ :: es) _ _)) _ => if k == ("_law_kind_of" : Str) && y == ("e" : Str) then attC es else none
  | _ => none
theorem tellC_ok {s : Stmt} {fl : List Str} (h : tellC s = some fl) : ∃ p1 p2 p3 p4 p5 j es, AttL es fl ∧ s = .Return (some (.Tuple (.Call (.Name "_law_kind_of" p1) [.Name "e" p2] [] p3 :: es) j p4)) p5 := by
  unfold tellC at h
  split at h
  · split at h
    · rename_i q
      rw [Bool.and_eq_true, beq_iff_eq, beq_iff_eq] at q
      obtain ⟨rfl, rfl⟩ := q
      exact ⟨_, _, _, _, _, _, _, attC_ok h, rfl⟩
    · cases h
  · cases h
def nameC : List Expr → Option (List Str)
  | [] => some []
  | e :: es => match e with
    | .Name c _ => (nameC es).map (c :: ·)
    | _ => none
inductive NamL : List Expr → List Str → Prop
  | nil : NamL [] []
  | cons {p : Pos} {c : Str} {es : List Expr} {cs : List Str} (h : NamL es cs) : NamL (.Name c p :: es) (c :: cs)
theorem nameC_ok : ∀ {es : List Expr} {cs : List Str}, nameC es = some cs → NamL es cs
  | [], cs, h => by
    simp only [nameC, Option.some.injEq] at h
    subst h
    exact .nil
  | e :: es, cs, h => by
    unfold nameC at h
    split at h
    · rw [Option.map_eq_some_iff] at h
      obtain ⟨r, h, rfl⟩ := h
      exact .cons (nameC_ok h)
    · cases h
def if1C : Stmt → Option (Str × List Str)
  | .If (.Call (.Name x _) [.Name y _, .Name c _] [] _) [r] [] _ => if x == ("isinstance" : Str) && y == ("e" : Str) then (tellC r).map (c, ·) else none
  | _ => none
def ifTC : Stmt → Option (List Str × List Str)
  | .If (.Call (.Name x _) [.Name y _, .Tuple es _ _] [] _) [r] [] _ => if x == ("isinstance" : Str) && y == ("e" : Str) then do
      let cs ← nameC es
      let fl ← tellC r
      if es.isEmpty then none else some (cs, fl)
    else none
  | _ => none
theorem if1C_ok {s : Stmt} {c : Str} {fl : List Str} (h : if1C s = some (c, fl)) : ∃ p1 p2 p3 p4 p5 r, tellC r = some fl ∧ s = .If (.Call (.Name "isinstance" p1) [.Name "e" p2, .Name c p3] [] p4) [r] [] p5 := by
  unfold if1C at h
  split at h
  · split at h
    · rename_i q
      rw [Bool.and_eq_true, beq_iff_eq, beq_iff_eq] at q
      obtain ⟨rfl, rfl⟩ := q
      rw [Option.map_eq_some_iff] at h
      obtain ⟨fl', h, e⟩ := h
      cases e
      exact ⟨_, _, _, _, _, _, h, rfl⟩
    · cases h
  · cases h
theorem ifTC_ok {s : Stmt} {cs fl : List Str} (h : ifTC s = some (cs, fl)) : ∃ p1 p2 p3 p4 p5 j es r, es ≠ [] ∧ NamL es cs ∧ tellC r = some fl ∧ s = .If (.Call (.Name "isinstance" p1) [.Name "e" p2, .Tuple es j p3] [] p4) [r] [] p5 := by
  unfold ifTC at h
  split at h
  · split at h
    · rename_i q
      rw [Bool.and_eq_true, beq_iff_eq, beq_iff_eq] at q
      obtain ⟨rfl, rfl⟩ := q
      simp only [Option.bind_eq_bind, Option.bind_eq_some_iff] at h
      obtain ⟨cs', h1, fl', h2, h3⟩ := h
      split at h3
      · cases h3
      · rename_i ne
        cases h3
        exact ⟨_, _, _, _, _, _, _, _, fun z => ne (by rw [z]; rfl), nameC_ok h1, h2, rfl⟩
    · cases h
  · cases h
structure RefT where
  c1 : Str
  f1 : List Str
  c2 : Str
  f2 : List Str
  c3 : List Str
  f3 : List Str
  f4 : List Str
def refC : List Stmt → Option RefT
  | [a, b, c, r] => do
    let x ← if1C a
    let y ← if1C b
    let z ← ifTC c
    let f ← tellC r
    some ⟨x.1, x.2, y.1, y.2, z.1, z.2, f⟩
  | _ => none
def CKs (K : PySem.W.Frag) (mg : Str → Option Value) (D : Addr) (cs : List Str) (b : Bool) : Prop := ∃ Cs : List Addr, Paired (fun c C => mg c = some (.ref C)) cs Cs ∧ PySem.W.kitAny K (.ref D) (Cs.map .ref) = some b
structure ROf (K : PySem.W.Frag) (mg : Str → Option Value) (T : RefT) (D : Addr) (fl : List Str) : Prop where
  ex : ∃ b1 b2 b3 : Bool, CKm K mg D T.c1 b1 ∧ CKm K mg D T.c2 b2 ∧ CKs K mg D T.c3 b3 ∧ fl = if b1 then T.f1 else if b2 then T.f2 else if b3 then T.f3 else T.f4
  no : ∀ f ∈ fl, PySem.W.findIn K (.ref D) f = some none
def spR (K : PySem.W.Frag) (mg : Str → Option Value) (cs zs : List Str) (T : RefT) : SpE := fun D d fs H Q => EC K D ∧ ∃ z fl vs, KOf K mg cs zs D z ∧ ROf K mg T D fl ∧ fl.mapM (fun f => fs.lookup f) = some vs ∧ vs.length ≤ 100 ∧
  ∀ H' p, ExtH H H' → H' p = none → Q (.ref p) (upd H' p (.tup (.str z :: vs)))
theorem spR_mono {K : PySem.W.Frag} {mg : Str → Option Value} {cs zs : List Str} {T : RefT} : ∀ D d fs H Q Q', (∀ v H, Q v H → Q' v H) → spR K mg cs zs T D d fs H Q → spR K mg cs zs T D d fs H Q' :=
  fun D d fs H Q Q' m ⟨hE, z, fl, vs, a, b, c, l, q⟩ => ⟨hE, z, fl, vs, a, b, c, l, fun H' p x n => m _ _ (q H' p x n)⟩
section
variable {X : Cx} {p : Addr × Obj} {D : Addr} {d : Option Addr}
theorem pa_atts (h : InE X p D d) : ∀ {es : List Expr} {fl : List Str}, AttL es fl → (∀ f ∈ fl, PySem.W.findIn X.K (.ref D) f = some none) → PA X es (fun σ H Q => σ[0]? = some (some (.ref p.1)) ∧ ∃ fs vs, DAt d fs H ∧ fl.mapM (fun f => fs.lookup f) = some vs ∧ Q vs H)
  | _, _, .nil, _ => ⟨fun pos pins s σ H Q I ⟨_, fs, vs, _, e, q⟩ => (pa_nil (X := X)).run pos pins s σ H Q I (by
      simp only [List.mapM_nil, pure, Option.some.injEq] at e
      subst e
      exact q)⟩
  | _, _, .cons (p1 := p1) (p2 := p2) (f := f) (fl := fl) l, hn => ⟨fun pos pins s σ H Q I ⟨h0, fs, vs, hd, e, q⟩ => by
      have z := pa_cons (pe_xfP (pos := p2) (f := f) h.ec (hn f (List.mem_cons_self ..)) h.pn h.zn.zc h.fl (pe_var (pos := p1) h.nm h.vs)) (pa_atts h l fun g hg => hn g (List.mem_cons_of_mem _ hg))
      simp only [List.mapM_cons, Option.bind_eq_bind, Option.bind_eq_some_iff, Option.pure_def, Option.some.injEq] at e
      obtain ⟨v, e1, vr, e2, rfl⟩ := e
      refine z.run pos pins s σ H Q I ⟨_, h0, rfl, ?_⟩
      cases d with
      | none =>
        obtain rfl : fs = [] := hd
        cases e1
      | some a => exact ⟨a, fs, v, rfl, hd, e1, h0, fs, vr, hd, e2, q⟩⟩
theorem pa_names {mg : Str → Option Value} (hm : X.mg = mg) : ∀ {es : List Expr} {ns : List Str} {Cs : List Addr}, NamL es ns → Paired (fun c C => mg c = some (.ref C)) ns Cs → (∀ c ∈ ns, Gl X c ∧ (c == ("__debug__" : Str)) = false) → PA X es (fun _ H Q => Q (Cs.map .ref) H)
  | _, _, _, .nil, .nil, _ => ⟨fun pos pins s σ H Q I q => (pa_nil (X := X)).run pos pins s σ H Q I q⟩
  | _, _, _, .cons l, .cons k ks, g => ⟨fun pos pins s σ H Q I q => by
      obtain ⟨g1, g2⟩ := g _ (List.mem_cons_self ..)
      exact (pa_cons (pe_glob (v := .ref _) g1 (by rw [hm]; exact k) rfl g2) (pa_names hm l ks fun c hc => g c (List.mem_cons_of_mem _ hc))).run pos pins s σ H Q I q⟩
theorem clsv_refs : ∀ Cs : List Addr, Paired ClsV (Cs.map V.ref) (Cs.map Value.ref)
  | [] => .nil
  | C :: Cs => .cons (.own C) (clsv_refs Cs)
theorem pe_isiT (h : InE X p D d) {mg : Str → Option Value} (hm : X.mg = mg) {es : List Expr} {ns : List Str} {b : Bool} (l : NamL es ns) (k : CKs X.K mg D ns b) (g : ∀ c ∈ ns, Gl X c ∧ (c == ("__debug__" : Str)) = false) (hl : ns.length ≤ 100) {j : Nat} {p1 p2 p3 p4 : Pos} :
    PE X (.Call (.Name "isinstance" p1) [.Name "e" p2, .Tuple es j p3] [] p4) (fun σ H Q => At0 p.1 d σ H ∧ ∀ H', ExtH H H' → Q (.bl b) H') := by
  obtain ⟨Cs, kc, ko⟩ := k
  have len : ∀ {ns : List Str} {Cs : List Addr}, Paired (fun c C => mg c = some (.ref C)) ns Cs → Cs.length = ns.length := fun {ns Cs} q => by
    induction q with
    | nil => rfl
    | cons _ _ ih => rw [List.length_cons, List.length_cons, ih]
  have z := pe_callB (pos := p4) (p := p1) (call_isPT h.ec h.pn h.zn.zc h.fl) h.gi h.fi (by kernel_rfl) (pa_cons (pe_var (pos := p2) h.nm h.vs) (pa_cons (pe_tup (pos := p3) (x1 := j) (pa_names hm l kc g)) pa_nil))
  exact ⟨fun pins s σ H Q I ⟨⟨h0, fs, hd⟩, q⟩ => z.run pins s σ H Q I ⟨_, h0, by rw [List.length_map, len kc, sizeLine_eq]; omega, fun r n => ⟨r, Cs.map .ref, Cs.map .ref, b, fs, rfl, upd_same, clsv_refs Cs, hd.ext (extH_upd n), ko, q _ (extH_upd n)⟩⟩⟩
end
section
variable {X : Cx} {p : Addr × Obj} {D : Addr} {d : Option Addr} {mg : Str → Option Value} {cs zs : List Str} {fK : Addr} {kK : Nat} {fdK : FuncData}
structure InK (X : Cx) (p : Addr × Obj) (mg : Str → Option Value) (cs zs : List Str) (fK : Addr) (kK : Nat) (fdK : FuncData) : Prop where
  em : X.mg = mg
  fn : FnE X.prog X.w X.K X.mg X.base kK fK fdK ["e"] (spK X.K mg cs zs)
  rm : RoomH kK X.A
  hot : Hot1 X.A p
  gl : Gl X "_law_kind_of"
  at_ : X.mg "_law_kind_of" = some (.ref fK)
  kp : PySem.W.keepIn X.K (.ref fK) = true
  bd : Binds X.K fdK ["e"] []
theorem ps_tell (h : InE X p D d) (k : InK X p mg cs zs fK kK fdK) {r : Stmt} {fl : List Str} (ht : tellC r = some fl) :
    PS X r (fun Dn σ H => σ[0]? = some (some (.ref p.1)) ∧ ∃ fs z vs, DAt d fs H ∧ KOf X.K mg cs zs D z ∧ (∀ f ∈ fl, PySem.W.findIn X.K (.ref D) f = some none) ∧ fl.mapM (fun f => fs.lookup f) = some vs ∧ vs.length ≤ 100 ∧ ∀ H' q, ExtH H H' → H' q = none → Dn.rt (.ref q) (upd H' q (.tup (.str z :: vs)))) := by
  obtain ⟨p1, p2, p3, p4, p5, j, es, l, rfl⟩ := tellC_ok ht
  refine ⟨fun pins s σ H Dn I ⟨h0, fs, z, vs, hd, hz, hno, e, lv, q⟩ => ?_⟩
  have t := ps_ret (pos := p5) (pe_tup (pos := p4) (x1 := j) (pa_cons (pe_callE (q := p1) (p1 := p2) (pos := p3) (i := 0) k.fn k.rm k.hot h.pn h.zn h.fl k.gl k.at_ k.kp k.bd rfl h.nm h.vs) (pa_atts h l hno)))
  refine t.run pins s σ H Dn I ⟨h0, fs, hd, h.ec, z, hz, fun H1 x1 => ⟨h0, fs, vs, hd.ext x1, e, ?_, fun r n => q H1 r x1 n⟩⟩
  show (V.str z :: vs).length ≤ _
  rw [List.length_cons, sizeLine_eq]
  omega
theorem ref_pss (h : InE X p D d) (k : InK X p mg cs zs fK kK fdK) {body : List Stmt} {T : RefT} (hT : refC body = some T) (g : ∀ c ∈ T.c1 :: T.c2 :: T.c3, Gl X c ∧ (c == ("__debug__" : Str)) = false) (l3 : T.c3.length ≤ 100) :
    PSs X body (fun Dn σ H => σ[0]? = some (some (.ref p.1)) ∧ ∃ fs z fl vs, DAt d fs H ∧ KOf X.K mg cs zs D z ∧ ROf X.K mg T D fl ∧ fl.mapM (fun f => fs.lookup f) = some vs ∧ vs.length ≤ 100 ∧ ∀ H' q, ExtH H H' → H' q = none → Dn.rt (.ref q) (upd H' q (.tup (.str z :: vs)))) := by
  unfold refC at hT
  split at hT
  · simp only [Option.bind_eq_bind, Option.bind_eq_some_iff, Option.some.injEq] at hT
    obtain ⟨⟨c1, f1⟩, e1, ⟨c2, f2⟩, e2, ⟨c3, f3⟩, e3, f4, e4, rfl⟩ := hT
    obtain ⟨p11, p12, p13, p14, p15, r1, t1, rfl⟩ := if1C_ok e1
    obtain ⟨p21, p22, p23, p24, p25, r2, t2, rfl⟩ := if1C_ok e2
    obtain ⟨p31, p32, p33, p34, p35, j3, es, r3, ne, nl, t3, rfl⟩ := ifTC_ok e3
    refine ⟨fun pins s σ H Dn I ⟨h0, fs, z, fl, vs, hd, hz, ⟨⟨b1, b2, b3, k1, k2, k3, efl⟩, hno⟩, e, lv, q⟩ => ?_⟩
    have g1 := g c1 (by simp)
    have g2 := g c2 (by simp)
    rw [← k.em] at k1 k2
    have i1 := pe_isi (p1 := p11) (p2 := p12) (p3 := p13) (p4 := p14) h (ck_of k1 g1.1 g1.2)
    have i2 := pe_isi (p1 := p21) (p2 := p22) (p3 := p23) (p4 := p24) h (ck_of k2 g2.1 g2.2)
    have i3 := pe_isiT (p1 := p31) (p2 := p32) (p3 := p33) (p4 := p34) (j := j3) h k.em nl k3 (fun c hc => g c (by simp [hc])) l3
    have all := pss_cons (ps_if (pos := p15) (pt_val i1) (pss_one (ps_tell h k t1)) pss_nil) (pss_cons (ps_if (pos := p25) (pt_val i2) (pss_one (ps_tell h k t2)) pss_nil) (pss_cons (ps_if (pos := p35) (pt_val i3) (pss_one (ps_tell h k t3)) pss_nil) (pss_one (ps_tell h k e4))))
    refine all.run pins s σ H Dn I ⟨⟨h0, fs, hd⟩, b1, rfl, ?_⟩
    cases b1 with
    | true =>
      rw [if_pos rfl] at efl ⊢
      subst efl
      exact ⟨h0, fs, z, vs, hd, hz, hno, e, lv, q⟩
    | false =>
      rw [if_neg Bool.false_ne_true] at efl ⊢
      refine ⟨⟨h0, fs, hd⟩, b2, rfl, ?_⟩
      cases b2 with
      | true =>
        rw [if_pos rfl] at efl ⊢
        subst efl
        exact ⟨h0, fs, z, vs, hd, hz, hno, e, lv, q⟩
      | false =>
        rw [if_neg Bool.false_ne_true] at efl ⊢
        refine ⟨⟨h0, fs, hd⟩, fun H1 x1 => ⟨b3, rfl, ?_⟩⟩
        cases b3 with
        | true =>
          rw [if_pos rfl] at efl ⊢
          subst efl
          exact ⟨h0, fs, z, vs, hd.ext x1, hz, hno, e, lv, fun H' r x n => q H' r (x1.trans x) n⟩
        | false =>
          rw [if_neg Bool.false_ne_true] at efl ⊢
          subst efl
          exact ⟨h0, fs, z, vs, hd.ext x1, hz, hno, e, lv, fun H' r x n => q H' r (x1.trans x) n⟩
  · cases hT
end
def refS (T : RefT) (sc : Scope) : Bool := (T.c1 :: T.c2 :: T.c3 ++ (["isinstance", "_law_kind_of"] : List Str)).all (fun c => decide (sc.names.lookup c = some .globalImplicit) && !(c == ("__debug__" : Str))) && decide (sc.names.lookup ("e" : Str) = some .local) && decide (T.c3.length ≤ 100)
theorem ref_ok {P : Program} {w : World} {K : PySem.W.Frag} {mg : Str → Option Value} {base : Heap} {f fK : Addr} {kK : Nat} {fdK : FuncData} {name qual : Str} {params : Arguments} {body : List Stmt} {sc : Scope} {dV kV doc pm cdv ct oc : Value} {an od : Option Addr} {osl : Array (Option Value)} {cs zs : List Str} {T : RefT}
    (lk : K.lookup f = some ⟨oc, od, .func (PySem.W.fnOf name qual params body sc dV kV doc pm an cdv ct), osl⟩) (hcd : PySem.W.codeIn K cdv qual = true) (S : FnScope ["e"] ["e"] sc) (hT : refC body = some T) (hs : refS T sc = true) (m1 : mg "isinstance" = none)
    (FK : FnE P w K mg base kK fK fdK ["e"] (spK K mg cs zs)) (mK : mg "_law_kind_of" = some (.ref fK)) (kpK : PySem.W.keepIn K (.ref fK) = true) (bK : Binds K fdK ["e"] []) :
    FnE P w K mg base (kK + 1) f (PySem.W.fnOf name qual params body sc dV kV doc pm an cdv ct) ["e"] (spR K mg cs zs T) := by
  unfold refS at hs
  simp only [Bool.and_eq_true, decide_eq_true_eq, List.all_eq_true, Bool.not_eq_true'] at hs
  obtain ⟨⟨hs, v0⟩, l3⟩ := hs
  refine fn_ofE (k := kK) lk hcd S fun A outer s H Q p D d fs hot hr hz hf hd ⟨hE, z, fl, vs, k1, k2, e, lv, q⟩ => ?_
  have ine : InE (cxH C8.CX0 P w K mg base ["e"] qual sc f cdv A outer s H C8.E0 p) p D d := ⟨hE, List.mem_cons_self, hz, hf, rfl, .inl v0, (hs _ (by simp)).1, m1⟩
  have ink : InK (cxH C8.CX0 P w K mg base ["e"] qual sc f cdv A outer s H C8.E0 p) p mg cs zs fK kK fdK := ⟨rfl, FK, hr, hot, (hs _ (by simp)).1, mK, kpK, bK⟩
  exact ⟨_, ref_pss (X := cxH C8.CX0 P w K mg base ["e"] qual sc f cdv A outer s H C8.E0 p) ine ink hT (fun c hc => hs c (List.mem_append_left _ hc)) l3, rfl, fs, z, fl, vs, hd, k1, k2, e, lv, q⟩
end MPH
namespace MP
open PySem PySem.Spec PyProof.Rows L2
variable [LamT]
structure Exn where
  c : Str
  fl : List (Str × PyData)
inductive RX where
  | ok (x : Vl)
  | ex (e : Exn)
abbrev ΦX := List Vl → Option (RX × List Vl)
abbrev MX := Sl → Option (RX × Sl)
def FlR (K : PySem.W.Frag) (G : Hp) : List (Str × PyData) → List (Str × V) → Prop
  | [], fs => fs = []
  | (f, d) :: r, fs => ∃ v t, fs = (f, v) :: t ∧ Dt K G d v ∧ FlR K G r t
def XAt (K : PySem.W.Frag) (G : Hp) (e : Exn) (cls : Value) (d : Option Addr) : Prop := cls = .ref (He.ga K e.c) ∧ ∃ fs, MPH.DAt d fs G ∧ FlR K G e.fl fs
section
variable {K : PySem.W.Frag} {G : Hp}
theorem FlR.get : ∀ {fl : List (Str × PyData)} {fs : List (Str × V)} {f : Str} {x : PyData}, FlR K G fl fs → fl.lookup f = some x → ∃ v, fs.lookup f = some v ∧ Dt K G x v
  | [], _, _, _, _, e => by simp at e
  | (g, y) :: r, fs, f, x, h, e => by
    obtain ⟨v, t, rfl, h1, h2⟩ := h
    simp only [List.lookup] at e ⊢
    cases q : f == g with
    | true =>
      rw [q] at e
      simp only [Option.some.injEq] at e
      subst e
      exact ⟨v, rfl, h1⟩
    | false =>
      rw [q] at e
      exact h2.get e
theorem FlR.gets {fl : List (Str × PyData)} {fs : List (Str × V)} (h : FlR K G fl fs) : ∀ {ns : List Str} {ds : List PyData}, ns.mapM (fun f => fl.lookup f) = some ds → ∃ vs, ns.mapM (fun f => fs.lookup f) = some vs ∧ DtAll K G ds vs
  | [], ds, e => by
    simp only [List.mapM_nil, pure, Option.some.injEq] at e
    subst e
    exact ⟨[], rfl, by simp only [DtAll]⟩
  | n :: ns, ds, e => by
    simp only [List.mapM_cons, Option.bind_eq_bind, Option.bind_eq_some_iff, Option.pure_def, Option.some.injEq] at e
    obtain ⟨d, e1, r, e2, rfl⟩ := e
    obtain ⟨v, a1, a2⟩ := h.get e1
    obtain ⟨vs, b1, b2⟩ := h.gets e2
    refine ⟨v :: vs, by simp only [List.mapM_cons, a1, b1, Option.bind_eq_bind, Option.bind_some, Option.pure_def], ?_⟩
    simp only [DtAll]
    exact ⟨v, vs, rfl, a2, b2⟩
theorem FlR.mono {G' : Hp} (g : ∀ a o, G a = some o → G' a = some o) : ∀ {fl : List (Str × PyData)} {fs : List (Str × V)}, FlR K G fl fs → FlR K G' fl fs
  | [], _, h => h
  | (_, _) :: _, _, ⟨v, t, e, h1, h2⟩ => ⟨v, t, e, Dt.mono g _ _ h1, h2.mono g⟩
end
def PostF (K : PySem.W.Frag) (G H : Hp) (F : FP) (vs : List V) (Q : VK) (E : XK) : RX → List Vl → Prop
  | .ok x, ys => ∀ v Fx F' (G' : Hp) H', Own K G' H' x v Fx → OwnAll K G' H' ys vs F' → Ok G' H' (fun a => Fx a + F' a) → Fr G H F G' H' (fun a => Fx a + F' a) → Q v H'
  | .ex e, ys => ∀ cls d F' (G' : Hp) H', XAt K G' e cls d → OwnAll K G' H' ys vs F' → Ok G' H' F' → Fr G H F G' H' F' → E cls d H'
def spOfX (K : PySem.W.Frag) (φ : ΦX) : Sp := fun vs H Q E => ∃ (xs : List Vl) (F : FP) (G : Hp) (r : RX) (ys : List Vl), OwnAll K G H xs vs F ∧ Ok G H F ∧ φ xs = some (r, ys) ∧ PostF K G H F vs Q E r ys
def PostX (K : PySem.W.Frag) (σ : L2.St) (G H : Hp) (F : FP) (Q : VK) (W : WX) : RX → Sl → Prop
  | .ok x, ρ' => ∀ v Fx F' (G' : Hp) H', Own K G' H' x v Fx → OwnE K G' H' ρ' σ F' → Ok G' H' (fun a => Fx a + F' a) → Fr G H F G' H' (fun a => Fx a + F' a) → Q v H'
  | .ex e, ρ' => ∀ cls d F' (G' : Hp) H', XAt K G' e cls d → OwnE K G' H' ρ' σ F' → Ok G' H' F' → Fr G H F G' H' F' → W cls d σ H'
def SimX (K : PySem.W.Frag) (t : WX → TE) (f : MX) : Prop :=
  ∀ (σ : L2.St) (ρ : Sl) (F : FP) (G : Hp) (H : Hp), OwnE K G H ρ σ F → Ok G H F → ∀ r ρ', f ρ = some (r, ρ') → ∀ (Q : VK) (W : WX), PostX K σ G H F Q W r ρ' → t W σ H Q
@[simp] noncomputable def mOpX (φ : ΦX) (as : MA) : MX := fun ρ => (as ρ).bind fun p => (takeA p.1 p.2).bind fun q => (φ q.1).bind fun z => (putA p.1 z.2 q.2).bind fun ρ' => some (z.1, ρ')
section
variable {K : PySem.W.Frag}
theorem sim_callX {φ : ΦX} {ta : TA} {as : MA} (ha : SimA K ta as) : SimX K (fun W => tCallS (spOfX K φ) (WE W) ta) (mOpX φ as) := by
  intro σ ρ F G H hE ok r ρ' e Q W k
  obtain ⟨⟨us, ρ1⟩, e1, e⟩ := bind_some e
  obtain ⟨⟨xs, ρ2⟩, e2, e⟩ := bind_some e
  obtain ⟨⟨x', ys⟩, e3, e⟩ := bind_some e
  obtain ⟨ρ3, e4, e⟩ := bind_some e
  simp only [Option.some.injEq, Prod.mk.injEq] at e
  obtain ⟨rfl, rfl⟩ := e
  refine ha σ ρ F G H hE ok us ρ1 e1 _ fun vs Fa F1 G1 H1 o1 E1 ok1 fr1 => ?_
  obtain ⟨Fx, F2, a1, a2, a3, a4⟩ := take_ok o1 E1 e2
  have ok2 : Ok G1 H1 (fun a => F2 a + Fx a) := ok1.congr fun a => by have := a3 a; show F2 a + Fx a = Fa a + F1 a; omega
  refine ⟨xs, Fx, G1, x', ys, a1, ok2.sub fun a => by omega, e3, ?_⟩
  cases x' with
  | ok x =>
    intro v Fv F3 G3 H3 b1 b2 b3 b4
    obtain ⟨ok4, fr4, st⟩ := b4.side (F1 := F2) ok2 b3
    obtain ⟨F5, c1, c2⟩ := put_ok b2 (OwnE.mono b4.g ρ2 σ F2 a2 st) e4 a4
    have l : ∀ a, Fv a + F5 a ≤ F2 a + (Fv a + F3 a) := fun a => by have := c2 a; omega
    refine k v Fv F5 G3 H3 b1 c1 (ok4.sub l) ((fr1.trans (fr4.congr (fun a => ?_) fun _ => rfl)).sub l)
    have := a3 a; show Fa a + F1 a = F2 a + Fx a; omega
  | ex x =>
    intro cls d F3 G3 H3 b1 b2 b3 b4
    obtain ⟨ok4, fr4, st⟩ := b4.side (F1 := F2) ok2 b3
    obtain ⟨F5, c1, c2⟩ := put_ok b2 (OwnE.mono b4.g ρ2 σ F2 a2 st) e4 a4
    have l : ∀ a, F5 a ≤ F2 a + F3 a := fun a => by have := c2 a; omega
    refine k cls d F5 G3 H3 b1 c1 (ok4.sub l) ((fr1.trans (fr4.congr (fun a => ?_) fun _ => rfl)).sub l)
    have := a3 a; show Fa a + F1 a = F2 a + Fx a; omega
end
abbrev RT := List (Str × Str × List Str)
@[simp] def refD (rt : RT) (e : Exn) : Option PyData := (rt.lookup e.c).bind fun p => (p.2.mapM fun f => e.fl.lookup f).bind fun ds => some (.tuple (.str p.1 :: ds))
def TTd (K : PySem.W.Frag) (rt : RT) : (XK → Hp → VK → Prop) → Hp → VK → Prop := fun tl H Q => ∀ (Q' : VK) (E : XK), (∀ v H', (∀ p, H' p = none → Q (.ref p) (upd H' p (.tup [.str "told", v]))) → Q' v H') →
  (∀ (c z : Str) (fl : List Str) (d : Option Addr) (fs : List (Str × V)) (vs : List V) (H' : Hp), rt.lookup c = some (z, fl) → MPH.DAt d fs H' → fl.mapM (fun f => fs.lookup f) = some vs →
    (∀ H'' p, MPH.ExtH H' H'' → H'' p = none → Q (.ref p) (upd H'' p (.tup (.str z :: vs)))) → E (.ref (He.ga K c)) d H') → tl E H Q'
def tToldX (K : PySem.W.Frag) (rt : RT) (φ : ΦX) (ta : TA) : TE := LamX.tLam LamT.T (TTd K rt) fun E => tCallS (spOfX K φ) (fun _ => E) ta
@[simp] noncomputable def mToldX (φ : ΦX) (rt : RT) (as : MA) : M := fun ρ => (mOpX φ as ρ).bind fun p => match p.1 with
  | .ok x => (erase x).bind fun d => some (.fz (.tuple [.str "told", d]), p.2)
  | .ex e => (refD rt e).bind fun d => some (.fz d, p.2)
section
variable {K : PySem.W.Frag}
theorem tabs_of {G H : Hp} {F : FP} (ok : Ok G H F) : LamX.Tabs LamT.T H := fun p hp => by
  obtain ⟨ps, a, b⟩ := ok.tb p hp
  exact ⟨ps, a, b.1, fun pos cv hc => by
    obtain ⟨c, z1, z2⟩ := b.2 pos cv hc
    exact ⟨c, z1, ok.le _ _ z2⟩⟩
theorem tabs_ext {H H1 : Hp} (T : LamX.Tabs LamT.T H) (e : MPH.ExtH H H1) : LamX.Tabs LamT.T H1 := fun p hp => by
  obtain ⟨ps, a, b, c⟩ := T p hp
  exact ⟨ps, e _ _ a, b, fun pos cv hc => by
    obtain ⟨c', z1, z2⟩ := c pos cv hc
    exact ⟨c', z1, e _ _ z2⟩⟩
theorem DAt.le {G H : Hp} (le : ∀ a o, G a = some o → H a = some o) {d : Option Addr} {fs : List (Str × V)} (h : MPH.DAt d fs G) : MPH.DAt d fs H := by
  cases d with
  | none => exact h
  | some a => exact le _ _ h
theorem sim_toldX {φ : ΦX} {rt : RT} {ta : TA} {as : MA} (ha : SimA K ta as) : Sim K (tToldX K rt φ ta) (mToldX φ rt as) := by
  intro σ ρ F G H hE ok x ρ' e Q k
  obtain ⟨⟨r, ρ1⟩, e1, e⟩ := bind_some e
  refine ⟨tabs_of ok, fun H1 eN T1 => ?_⟩
  obtain ⟨ok1, fr1, st1⟩ := lam_ok ok eN T1
  have E1 := OwnE.mono fr1.g ρ σ F hE st1
  intro Q' E mono hex
  refine sim_callX (φ := φ) ha σ ρ F _ H1 E1 ok1 r ρ1 e1 Q' (fun cls d _ H => E cls d H) ?_
  cases r with
  | ok y =>
    obtain ⟨d, e2, e⟩ := bind_some e
    simp only [Option.some.injEq, Prod.mk.injEq] at e
    obtain ⟨rfl, rfl⟩ := e
    intro v Fx F2 G2 H2 o2 E2 ok2 fr2
    refine mono v H2 fun p hp => ?_
    have hd := Own.frz (thaw_le ok2) y v Fx d o2 e2 thaw_at
    obtain ⟨ok3, fr3⟩ := thaw_ok ok2
    obtain ⟨ok4, fr4, st4⟩ := ok_new (o := .tup [.str "told", v]) ok3 hp
    refine k (.ref p) (fun _ => 0) F2 _ _ (Own.ofD ?_) (OwnE.mono (fun a o z => fr4.g a o (fr3.g a o z)) _ _ _ E2 st4) (ok4.congr fun a => by simp) ((((fr1.trans fr2).trans fr3).trans fr4).congr (fun _ => rfl) fun a => by simp)
    simp only [Dt]
    refine ⟨p, [.str "told", v], rfl, .inl (.inl upd_same), ?_⟩
    simp only [DtAll]
    exact ⟨.str "told", [v], rfl, rfl, v, [], rfl, Dt.mono fr4.g _ _ hd, rfl⟩
  | ex y =>
    obtain ⟨d, e2, e⟩ := bind_some e
    simp only [Option.some.injEq, Prod.mk.injEq] at e
    obtain ⟨rfl, rfl⟩ := e
    obtain ⟨⟨z, fl⟩, e3, e2⟩ := bind_some e2
    obtain ⟨ds, e4, e2⟩ := bind_some e2
    simp only [Option.some.injEq] at e2
    subst e2
    rintro cls dd F2 G2 H2 ⟨rfl, fs, hd, hf⟩ E2 ok2 fr2
    obtain ⟨vs, f1, f2⟩ := hf.gets e4
    refine hex y.c z fl dd fs vs H2 e3 (DAt.le ok2.le hd) f1 fun H3 p ex hp => ?_
    obtain ⟨ok3, fr3, st3⟩ := lam_ok ok2 (LamX.ExtN.of ex) (tabs_ext (tabs_of ok2) ex)
    obtain ⟨ok4, fr4, st4⟩ := ok_new (o := .tup (.str z :: vs)) ok3 hp
    refine k (.ref p) (fun _ => 0) F2 _ _ (Own.ofD ?_) (OwnE.mono fr4.g _ _ _ (OwnE.mono fr3.g _ _ _ E2 st3) st4) (ok4.congr fun a => by simp) ((((fr1.trans fr2).trans fr3).trans fr4).congr (fun _ => rfl) fun a => by simp)
    simp only [Dt]
    refine ⟨p, .str z :: vs, rfl, .inl (.inl upd_same), ?_⟩
    simp only [DtAll]
    exact ⟨.str z, vs, rfl, rfl, DtAll.mono (fun a o q => fr4.g a o (fr3.g a o q)) _ _ f2⟩
end
section
variable {X : Cx}
theorem PA.nox {es : List Expr} {t : TA} (h : PA X.nox es t) : PA X es t := ⟨fun pos pins s σ H Q I hw =>
  wpAny_mono (h.run pos pins s σ H Q (I.wish _) hw) (fun _ _ ⟨vs, H', I', r, q⟩ => ⟨vs, H', I'.unwish, r, q⟩) fun _ _ z => False.elim z⟩
end
end MP
namespace MP
open PySem PySem.Spec PyProof.Rows L2
variable [LamT]
def mChain3 (p q r : Int → Int → Bool) (f g h i : M) : M := fun ρ => (f ρ).bind fun x => (g x.2).bind fun y => match x.1, y.1 with
  | .fz (.int a), .fz (.int b) => if p a b then (h y.2).bind fun z => match z.1 with
      | .fz (.int c) => if q b c then (i z.2).bind fun w => match w.1 with
          | .fz (.int d) => some (.fz (.bool (r c d)), w.2)
          | _ => none
        else some (.fz (.bool false), z.2)
      | _ => none
    else some (.fz (.bool false), y.2)
  | _, _ => none
def tChain3 (r r' r'' : R2) (ta tb tc td : TE) : TE := fun σ H Q => ta σ H fun x H1 => tb σ H1 fun y H2 => r x y H2 fun z H3 => ∃ k, z = .bl k ∧
  (if k = true then tc σ H3 fun w' H4 => r' y w' H4 fun z' H5 => ∃ k', z' = .bl k' ∧ (if k' = true then td σ H5 fun v' H6 => r'' w' v' H6 Q else Q (.bl false) H5) else Q (.bl false) H3)
section
variable {X : Cx} {a b c d : Expr} {ta tb tc td : TE} {pos : Pos}
theorem pe_chain3 {op op' op'' : CmpOp} {r r' r'' : R2} (ho : OpR X (compareOp op) r) (ho' : OpR X (compareOp op') r') (ho'' : OpR X (compareOp op'') r'') (ha : PE X a ta) (hb : PE X b tb) (hc : PE X c tc) (hd : PE X d td)
    (hm : lastMarks [op, op', op''] [b, c, d] = false := by with_unfolding_all rfl) : PE X (.Compare a [op, op', op''] [b, c, d] pos) (tChain3 r r' r'' ta tb tc td) := by
  refine ⟨fun pins s σ H Q I h => ?_⟩
  refine Compare_chain (thn (ha.run pins s σ H _ I h) fun v s1 ⟨x, H1, I1, r1, q1⟩ => chain_link (thn (hb.run pins s1 σ H1 _ I1 q1) fun u s2 ⟨y, H2, I2, r2, q2⟩ =>
    thn (ho pins s2 σ H2 x y v u _ I2 r1 r2 q2) fun d s3 ⟨z, H3, I3, r3, k, e, q3⟩ => ?_)) hm
  subst e
  cases r3
  refine wpAny_truthy_bool ?_
  cases k with
  | false => exact ite_ff ⟨.bl false, H3, I3, rfl, q3⟩
  | true =>
    refine ite_tt (chain_link (thn (hc.run pins s3 σ H3 _ I3 q3) fun w' s4 ⟨z', H4, I4, r4, q4⟩ => thn (ho' pins s4 σ H4 y z' u w' _ I4 r2 r4 q4) fun d s5 ⟨z2, H5, I5, r5, k', e', q5⟩ => ?_))
    subst e'
    cases r5
    refine wpAny_truthy_bool ?_
    cases k' with
    | false => exact ite_ff ⟨.bl false, H5, I5, rfl, q5⟩
    | true => exact ite_tt (chain_last (thn (hd.run pins s5 σ H5 _ I5 q5) fun v' s6 ⟨z3, H6, I6, r6, q6⟩ => ho'' pins s6 σ H6 z' z3 w' v' Q I6 r4 r6 q6))
end
section
variable {K : PySem.W.Frag}
theorem sim_chain3 {p q r : Int → Int → Bool} {ta tb tc td : TE} {f g h i : M} (h1 : Sim K ta f) (h2 : Sim K tb g) (h3 : Sim K tc h) (h4 : Sim K td i) :
    Sim K (tChain3 (rI0 fun i j => .bl (p i j)) (rI0 fun i j => .bl (q i j)) (rI0 fun i j => .bl (r i j)) ta tb tc td) (mChain3 p q r f g h i) := by
  intro σ ρ F G H hE ok x ρ' e Q k
  obtain ⟨⟨x1, ρ1⟩, e1, ea⟩ := bind_some e
  obtain ⟨⟨x2, ρ2⟩, e2, eb⟩ := bind_some ea
  clear e ea
  have e := eb
  clear eb
  simp only at e
  refine h1 σ ρ F G H hE ok x1 ρ1 e1 _ fun v1 Fx F1 G1 H1 o1 E1 ok1 fr1 => ?_
  have ok1' := ok1.sub (F' := F1) fun a => by omega
  have fr1' := fr1.sub (F2 := F1) fun a => by omega
  refine h2 σ ρ1 F1 G1 H1 E1 ok1' x2 ρ2 e2 _ fun v2 Fx2 F2 G2 H2 o2 E2 ok2 fr2 => ?_
  have ok2' := ok2.sub (F' := F2) fun a => by omega
  have fr2' := fr1'.trans (fr2.sub (F2 := F2) fun a => by omega)
  split at e
  · next i j =>
    have a1 := o1.fzF
    have a2 := o2.fzF
    simp only [Dt] at a1 a2
    refine ⟨i, j, a1, a2, p i j, rfl, ?_⟩
    cases hp : p i j with
    | true =>
      rw [hp] at e
      simp only [if_true] at e ⊢
      obtain ⟨⟨x3, ρ3⟩, e3, e⟩ := bind_some e
      refine h3 σ ρ2 F2 G2 H2 E2 ok2' x3 ρ3 e3 _ fun v3 Fx3 F3 G3 H3 o3 E3 ok3 fr3 => ?_
      have ok3' := ok3.sub (F' := F3) fun a => by omega
      have fr3' := fr2'.trans (fr3.sub (F2 := F3) fun a => by omega)
      simp only at e
      split at e
      · next l =>
        have a3 := o3.fzF
        simp only [Dt] at a3
        refine ⟨j, l, a2, a3, q j l, rfl, ?_⟩
        cases hq : q j l with
        | true =>
          rw [hq] at e
          simp only [if_true] at e ⊢
          obtain ⟨⟨x4, ρ4⟩, e4, e⟩ := bind_some e
          refine h4 σ ρ3 F3 G3 H3 E3 ok3' x4 ρ4 e4 _ fun v4 Fx4 F4 G4 H4 o4 E4 ok4 fr4 => ?_
          simp only at e
          split at e
          · simp only [Option.some.injEq, Prod.mk.injEq] at e
            obtain ⟨rfl, rfl⟩ := e
            have a4 := o4.fzF
            simp only [Dt] at a4
            exact ⟨l, _, a3, a4, k _ (fun _ => 0) F4 G4 H4 (Own.ofD dtBool) E4 (ok4.sub fun a => show 0 + F4 a ≤ Fx4 a + F4 a by omega) (fr3'.trans (fr4.sub fun a => show 0 + F4 a ≤ Fx4 a + F4 a by omega))⟩
          · cases e
        | false =>
          rw [hq] at e
          simp only [Bool.false_eq_true, if_false, Option.some.injEq, Prod.mk.injEq] at e ⊢
          obtain ⟨rfl, rfl⟩ := e
          exact k _ (fun _ => 0) F3 G3 H3 (Own.ofD dtBool) E3 (ok3'.sub fun a => show 0 + F3 a ≤ F3 a by omega) (fr3'.sub fun a => show 0 + F3 a ≤ F3 a by omega)
      · cases e
    | false =>
      rw [hp] at e
      simp only [Bool.false_eq_true, if_false, Option.some.injEq, Prod.mk.injEq] at e ⊢
      obtain ⟨rfl, rfl⟩ := e
      exact k _ (fun _ => 0) F2 G2 H2 (Own.ofD dtBool) E2 (ok2'.sub fun a => show 0 + F2 a ≤ F2 a by omega) (fr2'.sub fun a => show 0 + F2 a ≤ F2 a by omega)
  · cases e
end
end MP
namespace MP
open PySem L2
inductive BF where
  | len | sum | abs | max | min | int | any | all | list | tuple | sorted | str
  deriving DecidableEq
def BF.name : BF → Str
  | .len => "len" | .sum => "sum" | .abs => "abs" | .max => "max" | .min => "min" | .int => "int" | .any => "any" | .all => "all" | .list => "list" | .tuple => "tuple" | .sorted => "sorted" | .str => "str"
@[simp] def BF.h : BF → HD
  | .len => hLen | .sum => hSum | .abs => hAbs | .max => hMax | .min => hMin | .int => hInt | .any => hAnyA | .all => hAny true | .list => hList | .tuple => hTuple | .sorted => hSorted | .str => hStr
inductive Op where
  | bin (o : Operator)
  | neg
  | cmp (o : CmpOp)
  | isN (n : Bool)
  | isB (n : Bool)
  | ix | tup | lst
  | blt (f : BF)
  | isi (c : Cl)
  | isiA (cs : List Cl)
  | rev
  | call (j : Nat)
  | callK (j : Nat) (ks : List Str) (perm : List Nat)
  | listZ
inductive LM where
  | app | pop | ins
inductive ItK where
  | seq | range1 | range2 | range3 | zip | enum | zip3 | enumZ
inductive ItG where
  | seq (i c k : Nat)
  | enum (i c k : Nat)
  | zip (i c k j : Nat)
  | seqS (i : Nat)
  | zipS (i j : Nat)
mutual
inductive Ie where
  | c (d : PyData)
  | v (i : Nat)
  | g (j : Nat)
  | op (o : Op) (as : Ars)
  | slN (i : Nat) (lo hi : OIe)
  | slE (e : Ie) (lo hi : OIe)
  | ife (t : Te) (a b : Ie)
  | bv (o : BoolOp) (es : Ies)
  | notv (a : Ie)
  | chain (p q : CmpOp) (a b c : Ie)
  | lc (dp : Bool) (own : List Nat) (k : ItK) (as : Ars) (tg : Tg) (t : Ts) (e : Ie)
  | lc2 (dp : Bool) (own own1 : List Nat) (k : ItK) (as : Ars) (tg : Tg) (t : Ts) (k1 : ItK) (as1 : Ars) (tg1 : Tg) (t1 : Ts) (e : Ie)
  | lm (i : Nat) (m : LM) (as : Ars)
  | fl (i c k : Nat)
  | lkE (i c k : Nat) (e : Ie)
  | mth (j i c : Nat) (m : Str) (as : Ars)
  | mthE (j c : Nat) (m : Str) (e : Ie) (as : Ars)
  | mk (j c : Nat) (as : Ars)
  | lcG (dp : Bool) (own : List Nat) (g : ItG) (tg : Tg) (t : Ts) (e : Ie)
  | lmF (i c k : Nat) (m : LM) (as : Ars)
  | mv (i : Nat)
  | ix2 (i j k : Nat)
  | dnew
  | dsel (ks : List Str) (as : Ars) (k : Ie)
  | ix2e (i : Nat) (k1 : Ie) (k2 : Kx)
  | lstD (as : Ars)
  | mthF (j i c k c2 : Nat) (m : Str)
  | fl2 (i c k c2 k2 : Nat)
  | selC (j : Nat) (e : Ie)
  | told (e : Ie)
  | toldF (j : Nat) (as : Ars)
  | chain3 (p q r : CmpOp) (a b c d : Ie)
inductive Ars where
  | nil
  | nm (i : Nat) (r : Ars)
  | ex (e : Ie) (r : Ars)
  | fl (i c k : Nat) (r : Ars)
inductive OIe where
  | no
  | so (e : Ie)
inductive Te where
  | b (e : Ie)
  | v (e : Ie)
  | bo (o : BoolOp) (ts : Tes)
  | not (a : Te)
inductive Tes where
  | one (t : Te)
  | cons (t : Te) (r : Tes)
inductive Ies where
  | one (t : Ie)
  | cons (t : Ie) (r : Ies)
inductive Ts where
  | no
  | so (t : Te)
end
inductive AugO where
  | add | sub
@[simp] def AugO.f : AugO → Int → Int → Int
  | .add => fun i j => i + j
  | .sub => fun i j => i - j
mutual
inductive Is where
  | set (i : Nat) (e : Ie)
  | tg (t : Tg) (e : Ie)
  | par (i j : Nat) (a b : Ie)
  | par3 (i j l : Nat) (a b d : Ie)
  | setF2 (i c k k2 : Nat) (e : Ie)
  | aug (i : Nat) (o : AugO) (e : Ie)
  | setIx (i : Nat) (k e : Ie)
  | augIx (i : Nat) (k : Ie) (o : AugO) (e : Ie)
  | setIx2 (i j k : Nat) (e : Ie)
  | dput (i : Nat) (as : Ars) (e : Ie)
  | set2e (i : Nat) (k1 : Ie) (k2 : Kx) (e : Ie)
  | aug2 (i : Nat) (k1 : Ie) (k2 : Kx) (o : AugO) (e : Ie)
  | slSet (i : Nat) (lo hi e : Ie)
  | setF (i c k : Nat) (frz : Bool) (e : Ie)
  | augF (i c k : Nat) (o : AugO) (e : Ie)
  | setIxF (i c k : Nat) (x e : Ie)
  | lkS (i c k : Nat) (s : Is)
  | lkV (i : Nat) (s : Is)
  | fzS (i c k : Nat) (s : Is)
  | stk
  | forG (g : ItG) (tg : Tg) (b : Iss)
  | ex (e : Ie)
  | ret (e : Ie)
  | retM (i : Nat)
  | retN
  | ite (t : Te) (a b : Iss)
  | for_ (k : ItK) (as : Ars) (tg : Tg) (b : Iss)
  | while_ (t : Te) (b : Iss)
  | pass | brk | cnt
inductive Iss where
  | nil
  | cons (s : Is) (r : Iss)
end
structure En where
  f : Nat → Φ
  c : Nat → PyData
  s : Nat → List (Str × Int)
  x : Nat → ΦX
  rt : RT
structure EnV extends En where
  v : Nat → V
abbrev Φs := En
def cmpP : CmpOp → Option (Int → Int → Bool)
  | .Lt => some fun i j => decide (i < j)
  | .LtE => some fun i j => decide (i ≤ j)
  | .Gt => some fun i j => decide (j < i)
  | .GtE => some fun i j => decide (j ≤ i)
  | _ => none
@[simp] def fzAll : List Vl → Option (List PyData)
  | [] => some []
  | .fz d :: xs => (fzAll xs).bind fun ds => some (d :: ds)
  | _ => none
@[simp] def φSc (g : List Int → List PyData → Option PyData) (φ : Φ) : Φ := fun xs => match xs with
  | .sc ns :: r => (fzAll r).bind fun ds => (g ns ds).bind fun d => some (.fz d, xs)
  | _ => φ xs
@[simp] def gIx : List Int → List PyData → Option PyData
  | ns, [.int i] => (atI ns i).map .int
  | _, _ => none
@[simp] def gLen : List Int → List PyData → Option PyData
  | ns, [] => some (.int ns.length)
  | _, _ => none
@[simp] def φPerm (perm : List Nat) (φ : Φ) : Φ := fun xs => (fzAll xs).bind fun ds => if xs.length = perm.length then (φ ((perm.filterMap fun k => ds[k]?).map .fz)).bind fun z => some (z.1, xs) else none
@[simp] def phi (fs : Φs) : Op → Φ
  | .bin .Add => φD (hBl (fun i j => i + j) hAdd)
  | .bin .Sub => φD (hBr (fun i j => i - j) (hBl (fun i j => i - j) hSub))
  | .bin .Mult => φD (hBr (fun i j => i * j) hMul)
  | .bin .Mod => φD hMod
  | .bin .FloorDiv => φD hDiv
  | .bin .Pow => φD hPow
  | .bin _ => fun _ => none
  | .neg => φD hNeg
  | .cmp .Eq => φD (hEq false)
  | .cmp .NotEq => φD (hEq true)
  | .cmp .Lt => φD hLt
  | .cmp .LtE => φD hLe
  | .cmp .Gt => φD (hCmp fun i j => decide (j < i))
  | .cmp .GtE => φD (hCmp fun i j => decide (j ≤ i))
  | .cmp .In => φD (hIn false)
  | .cmp .NotIn => φD (hIn true)
  | .cmp _ => fun _ => none
  | .isN n => φD (hIsN n)
  | .isB n => φD (hIsB n)
  | .ix => φSc gIx (φD hIx)
  | .tup => φK hTup
  | .lst => φK hLst
  | .blt .len => φSc gLen (φD hLen)
  | .blt .sorted => φSorted
  | .blt f => φD f.h
  | .isi c => φD (hIsi c)
  | .isiA cs => φIsiA cs
  | .rev => φD hRev
  | .call j => fs.f j
  | .callK j _ perm => φPerm perm (fs.f j)
  | .listZ => φListZ
@[simp] def lmφ : LM → Φ
  | .app => φApp
  | .pop => φW hPop
  | .ins => φW hIns
@[simp] def itH : ItK → List PyData → Option (List PyData)
  | .seq => hSeq
  | .range1 => hRange1
  | .range2 => hRange2
  | .range3 => hRange3
  | .zip => hZipM
  | .enum => hEnumA
  | .zip3 => hZip3
  | .enumZ => hEnumZ
@[simp] noncomputable def evG : ItG → MItG
  | .seq i c k => mItG1 (fun ds => ds) i c k
  | .enum i c k => mItG1 enumD i c k
  | .zip i c k j => mItG2 zipD i c k j
  | .seqS i => mItS1 (fun ds => ds) i
  | .zipS i j => mItS2 zipD i j
mutual
@[simp] noncomputable def ev (fs : Φs) : Ie → M
  | .c d => mC d
  | .v i => mVar i
  | .g j => mC (fs.c j)
  | .op o as => mOp (phi fs o) (evA fs as)
  | .slN i lo hi => mSl (oNm i) (evI fs lo) (evI fs hi)
  | .slE e lo hi => mSl (oEx (ev fs e)) (evI fs lo) (evI fs hi)
  | .ife t a b => mIf (evT fs t) (ev fs a) (ev fs b)
  | .bv o es => evL fs o es
  | .notv a => mNotV (ev fs a)
  | .chain p q a b c => match cmpP p, cmpP q with
    | some p', some q' => mChain p' q' (ev fs a) (ev fs b) (ev fs c)
    | _, _ => fun _ => none
  | .lc dp own k as tg t e => mLc dp own (mIt (itH k) (evA fs as)) tg (evTs fs t) (ev fs e)
  | .lc2 dp own own1 k as tg t k1 as1 tg1 t1 e => mLc2 dp own own1 (mIt (itH k) (evA fs as)) tg (evTs fs t) (mIt (itH k1) (evA fs as1)) tg1 (evTs fs t1) (ev fs e)
  | .lm i m as => mLm i (lmφ m) (evA fs as)
  | .fl i c k => mFl i c k
  | .lkE i c k e => lockM i c k (ev fs e)
  | .mth j i c _ as => mMth (fs.f j) i c (evA fs as)
  | .mthE j c _ e as => mMthE (fs.f j) c (ev fs e) (evA fs as)
  | .mk j c as => mMk (fs.f j) c (evA fs as)
  | .lcG dp own g tg t e => mLcG dp own (evG g) tg (evTs fs t) (ev fs e)
  | .lmF i c k m as => mLmF i c k (lmφ m) (evA fs as)
  | .mv i => mMov i
  | .ix2 i j k => mOp φIx2 (aNm i (aNm j (aNm k aNil)))
  | .dnew => mDNew
  | .dsel ks as k => mSel ks (evDs fs as) (ev fs k)
  | .ix2e i k1 k2 => mIx2e i (ev fs k1) k2
  | .lstD as => mLstD (evA fs as)
  | .mthF j i c k c2 _ => mMthF (fs.f j) i c k c2
  | .fl2 i c k c2 k2 => mFl2 i c k c2 k2
  | .selC j e => mSelC (fs.s j) (ev fs e)
  | .told e => mTold (ev fs e)
  | .toldF j as => mToldX (fs.x j) fs.rt (evA fs as)
  | .chain3 p q r a b c d => match cmpP p, cmpP q, cmpP r with
    | some p', some q', some r' => mChain3 p' q' r' (ev fs a) (ev fs b) (ev fs c) (ev fs d)
    | _, _, _ => fun _ => none
@[simp] noncomputable def evDs (fs : Φs) : Ars → List M
  | .nil => []
  | .nm i r => mVar i :: evDs fs r
  | .ex e r => ev fs e :: evDs fs r
  | .fl _ _ _ _ => [fun _ => none]
@[simp] noncomputable def evA (fs : Φs) : Ars → MA
  | .nil => aNil
  | .nm i r => aNm i (evA fs r)
  | .ex e r => aEx (ev fs e) (evA fs r)
  | .fl i c k r => aFl i c k (evA fs r)
@[simp] noncomputable def evI (fs : Φs) : OIe → MI
  | .no => iNo
  | .so e => iSo (ev fs e)
@[simp] noncomputable def evL (fs : Φs) (o : BoolOp) : Ies → M
  | .one e => ev fs e
  | .cons e r => match o with
    | .And => mAndV (ev fs e) (evL fs o r)
    | .Or => mOrV (ev fs e) (evL fs o r)
@[simp] noncomputable def evT (fs : Φs) : Te → MT
  | .b e => mBl (ev fs e)
  | .v e => mTru (ev fs e)
  | .bo o ts => evTL fs o ts
  | .not a => mNot (evT fs a)
@[simp] noncomputable def evTL (fs : Φs) (o : BoolOp) : Tes → MT
  | .one t => evT fs t
  | .cons t r => match o with
    | .And => mAnd (evT fs t) (evTL fs o r)
    | .Or => mOr (evT fs t) (evTL fs o r)
@[simp] noncomputable def evTs (fs : Φs) : Ts → MT
  | .no => fun ρ => some (true, ρ)
  | .so t => evT fs t
end
mutual
@[simp] noncomputable def evS (fs : Φs) : Is → MS
  | .set i e => sSet i (ev fs e)
  | .tg t e => sTg t (ev fs e)
  | .par i j a b => sPar i j (ev fs a) (ev fs b)
  | .par3 i j l a b d => sPar3 i j l (ev fs a) (ev fs b) (ev fs d)
  | .setF2 i c k k2 e => sSetF2 i c k k2 (ev fs e)
  | .aug i o e => sAug i o.f (ev fs e)
  | .setIx i k e => sSetIx i (ev fs k) (ev fs e)
  | .augIx i k o e => sAugIx i (ev fs k) o.f (ev fs e)
  | .setIx2 i j k e => sSetIx2 i j k (ev fs e)
  | .dput i as e => sDPutM (hBl (fun i j => i + j) hAdd) i (evA fs as) (ev fs e)
  | .set2e i k1 k2 e => sSet2e i (ev fs k1) k2 (ev fs e)
  | .aug2 i k1 k2 o e => sAug2 i (ev fs k1) k2 o.f (ev fs e)
  | .slSet i lo hi e => sSlc i (ev fs lo) (ev fs hi) (ev fs e)
  | .setF i c k frz e => sSetF i c k frz (ev fs e)
  | .augF i c k o e => sAugF i c k o.f (ev fs e)
  | .setIxF i c k x e => sSetIxF i c k (ev fs x) (ev fs e)
  | .lkS i c k s => lockM i c k (evS fs s)
  | .lkV i s => lockS i (evS fs s)
  | .fzS i c k s => frzM i c k (evS fs s)
  | .stk => fun _ => none
  | .forG g tg b => sForG (evG g) tg (evSs fs b)
  | .ex e => sExpr (ev fs e)
  | .ret e => sRet (ev fs e)
  | .retM i => sRetM i
  | .retN => sRetN
  | .ite t a b => sIf (evT fs t) (evSs fs a) (evSs fs b)
  | .for_ k as tg b => sFor (mIt (itH k) (evA fs as)) tg (evSs fs b)
  | .while_ t b => sWhile (evT fs t) (evSs fs b)
  | .pass => sNil
  | .brk => sBrk
  | .cnt => sCnt
@[simp] noncomputable def evSs (fs : Φs) : Iss → MS
  | .nil => sNil
  | .cons s r => sSeq (evS fs s) (evSs fs r)
end
structure FT where
  name : Str
  ps : List Str
  kws : List (List Str × List Nat) := []
  cls : Option Nat := none
structure Cfg where
  N : List Str
  sc : Scope
  fn : Str → Bool
  free : List Str
  cst : List Str
  fns : List FT
  cls : List Nat
  dst : List Str
  xfns : List FT
def Cfg.glob (C : Cfg) (x : Str) : Bool := decide (C.sc.names.lookup x = some .globalImplicit) && !(x == ("__debug__" : Str)) && !(x == ("__name__" : Str))
def Cfg.vis (C : Cfg) (i : Nat) (x : Str) : Bool := decide (C.N[i]? = some x) && !(x == ("__debug__" : Str)) && !(x == ("__classdict__" : Str)) && (match C.sc.names.lookup x with
  | some .local => true | some .cell => true | some .free => true | _ => false)
def Cfg.loc (C : Cfg) (i : Nat) (x : Str) : Bool := decide (C.N[i]? = some x) && (match C.sc.names.lookup x with
  | some .local => true | some .cell => C.fn x | _ => false)
def Cfg.bltn (C : Cfg) (x : Str) : Bool := C.glob x && C.free.contains x
def plain : Expr → Bool
  | .Starred _ _ => false
  | _ => true
def isSlice : Expr → Bool
  | .Slice _ _ _ _ => true
  | _ => false
def isSet : Expr → Bool
  | .Set _ _ _ => true
  | _ => false
def isComp : Expr → Bool
  | .ListComp _ _ _ _ => true
  | .SetComp _ _ _ _ => true
  | .DictComp _ _ _ _ _ => true
  | _ => false
def plainT : Expr → Bool
  | .UnaryOp .Not _ _ => false
  | .BoolOp _ _ _ => false
  | .IfExp _ _ _ _ => false
  | .Compare _ _ _ _ => false
  | _ => true
def isName (C : Cfg) (x : Str) : Expr → Bool
  | .Name y _ => y == x && C.bltn x
  | _ => false
def namesAre (C : Cfg) : List Cl → List Expr → Bool
  | [], [] => true
  | c :: cs, e :: es => isName C c.name e && namesAre C cs es
  | _, _ => false
def kwArgs : List Str → List Keyword → Option (List Expr)
  | [], [] => some []
  | k :: ks, ⟨some n, e, _⟩ :: r => if n == k then (kwArgs ks r).map (e :: ·) else none
  | _, _ => none
def isOp : Bool → CmpOp
  | true => .IsNot
  | false => .Is
def okOp : Op → Bool
  | .bin .Add => true
  | .bin .Sub => true
  | .bin .Mult => true
  | .bin .Mod => true
  | .bin .FloorDiv => true
  | .bin .Pow => true
  | .bin _ => false
  | .cmp .Eq => true
  | .cmp .NotEq => true
  | .cmp .Lt => true
  | .cmp .LtE => true
  | .cmp .Gt => true
  | .cmp .GtE => true
  | .cmp .In => true
  | .cmp .NotIn => true
  | .cmp _ => false
  | _ => true
def opArgs (C : Cfg) : Op → Expr → Option (List Expr)
  | .bin o, .BinOp a o' b _ => if o = o' then some [a, b] else none
  | .neg, .UnaryOp .USub a _ => some [a]
  | .cmp o, .Compare a [o'] [b] _ => if o = o' && !isSet b then some [a, b] else none
  | .isN n, .Compare a [o] [.Constant .none _ _] _ => if o = isOp n then some [a] else none
  | .isB n, .Compare a [o] [b] _ => if o = isOp n then some [a, b] else none
  | .rev, .Subscript a (.Slice none none (some (.UnaryOp .USub (.Constant (.int 1) _ _) _)) _) _ => some [a]
  | .ix, .Subscript a b _ => if isSlice b then none else some [a, b]
  | .tup, .Tuple es _ _ => some es
  | .lst, .List es _ => some es
  | .blt f, .Call (.Name x _) es [] _ => if x == f.name && C.bltn x && !es.isEmpty && (decide (f ≠ .str) || C.free.contains ("str()" : Str)) then some es else none
  | .isi c, .Call (.Name x _) [a, t] [] _ => if x == ("isinstance" : Str) && C.bltn x && isName C c.name t then some [a] else none
  | .isiA cs, .Call (.Name x _) [a, .Tuple ts _ _] [] _ => if x == ("isinstance" : Str) && C.bltn x && namesAre C cs ts && !cs.isEmpty then some [a] else none
  | .call j, .Call (.Name x _) es [] _ => match C.fns[j]? with
    | some f => if f.name == x && C.glob x && !es.isEmpty && f.cls.isNone then some es else none
    | none => none
  | .callK j ks perm, .Call (.Name x _) [] kws _ => match C.fns[j]? with
    | some f => if f.name == x && C.glob x && decide ((ks, perm) ∈ f.kws) && f.cls.isNone then kwArgs ks kws else none
    | none => none
  | .listZ, .Call (.Name x _) [.Call (.Name y _) [a, b] [] _] [] _ => if x == ("list" : Str) && C.bltn x && y == ("zip" : Str) && C.bltn y then some [a, b] else none
  | _, _ => none
def noFl : Ars → Bool
  | .nil => true
  | .nm _ r => noFl r
  | .ex _ r => noFl r
  | .fl _ _ _ _ => false
def keysAre : List Str → List (Option Expr) → Bool
  | [], [] => true
  | k :: ks, some (.Constant (.str x) _ _) :: r => x == k && keysAre ks r
  | _, _ => false
def chkK (C : Cfg) : Kx → Expr → Bool
  | .nm j, .Name x _ => C.vis j x
  | .ct n, .Constant (.int i) _ _ => i == n
  | _, _ => false
def itArgs (C : Cfg) : ItK → Expr → Expr → Option (List Expr)
  | .seq, _, e => if isSet e then none else some [e]
  | .range1, _, .Call (.Name x _) [a] [] _ => if x == ("range" : Str) && C.bltn x then some [a] else none
  | .range2, _, .Call (.Name x _) [a, b] [] _ => if x == ("range" : Str) && C.bltn x then some [a, b] else none
  | .range3, _, .Call (.Name x _) [a, b, c] [] _ => if x == ("range" : Str) && C.bltn x then some [a, b, c] else none
  | .zip, .Tuple _ _ _, .Call (.Name x _) [a, b] [] _ => if x == ("zip" : Str) && C.bltn x then some [a, b] else none
  | .enum, .Tuple _ _ _, .Call (.Name x _) [a] [] _ => if x == ("enumerate" : Str) && C.bltn x then some [a] else none
  | .zip3, .Tuple _ _ _, .Call (.Name x _) [a, b, c] [] _ => if x == ("zip" : Str) && C.bltn x then some [a, b, c] else none
  | .enumZ, .Tuple _ _ _, .Call (.Name x _) [.Call (.Name y _) [a, b] [] _] [] _ => if x == ("enumerate" : Str) && C.bltn x && y == ("zip" : Str) && C.bltn y then some [a, b] else none
  | _, _, _ => none
def constIs : PyData → Const → Bool
  | .none, .none => true
  | .bool b, .bool c => b == c
  | .int i, .int j => i == j
  | .str x, .str y => x == y
  | _, _ => false
mutual
def chkTg (C : Cfg) : Tg → Expr → Bool
  | .nm i, e => match e with
    | .Name x _ => C.loc i x
    | _ => false
  | .tp ts, e => match e with
    | .Tuple es _ _ => chkTgs C ts es
    | _ => false
def chkTgs (C : Cfg) : Tgs → List Expr → Bool
  | .nil, es => es.isEmpty
  | .cons t ts, es => match es with
    | e :: r => plain e && chkTg C t e && chkTgs C ts r
    | [] => false
end
def Cfg.fld (C : Cfg) (i c k : Nat) : Expr → Bool
  | .Attribute (.Name x _) f _ => C.vis i x && decide ((clsFlds c)[k]? = some f) && C.cls.contains c
  | _ => false
def Cfg.mth (C : Cfg) (j c : Nat) (m : Str) : Bool := C.cls.contains c && !(clsFlds c).contains m && !(m == ("__init__" : Str)) && (match C.fns[j]? with
  | some f => decide (f.cls = some c) && f.name == m
  | none => false)
def Cfg.mkr (C : Cfg) (j c : Nat) (x : Str) : Bool := C.cls.contains c && x == clsName c && C.glob x && (match C.fns[j]? with
  | some f => decide (f.cls = some c) && f.name == ("__init__" : Str)
  | none => false)
def isCallN : Expr → Bool
  | .Call (.Name _ _) (_ :: _) _ _ => true
  | _ => false
def chkG (C : Cfg) : ItG → Expr → Expr → Bool
  | .seq i c k, _, e => C.fld i c k e
  | .enum i c k, t, e => match t, e with
    | .Tuple _ _ _, .Call (.Name x _) [a] [] _ => x == ("enumerate" : Str) && C.bltn x && C.fld i c k a
    | _, _ => false
  | .zip i c k j, t, e => match t, e with
    | .Tuple _ _ _, .Call (.Name x _) [a, b] [] _ => x == ("zip" : Str) && C.bltn x && C.fld i c k a && C.fld i c j b
    | _, _ => false
  | .seqS i, _, e => match e with
    | .Name x _ => C.vis i x
    | _ => false
  | .zipS i j, t, e => match t, e with
    | .Tuple _ _ _, .Call (.Name x _) [.Name a _, .Name b _] [] _ => x == ("zip" : Str) && C.bltn x && C.vis i a && C.vis j b
    | _, _ => false
def isLk : Ie → Bool
  | .lkE _ _ _ _ => true
  | .chain3 _ _ _ _ _ _ _ => true
  | _ => false
def ownOf (N : List Str) (own : List Nat) : List (Str × Nat) := own.filterMap fun i => (N[i]?).map fun x => (x, i)
def Cfg.blk (C : Cfg) (scope : Scope) : Cfg := { C with sc := relS scope C.sc, fn := fun x => scope.names.lookup x == some .cell && !(x == ("lambda()" : Str)) }
def Cfg.blkOk (C : Cfg) (scope : Scope) (own : List Nat) : Bool := blkC C.N C.sc scope (ownOf C.N own) && decide ((ownOf C.N own).map (·.2) = own)
def allIn (is js : List Nat) : Bool := is.all fun i => js.contains i
def Cfg.lamC (C : Cfg) (scope : Scope) : Cfg := { C with sc := scope, fn := fun _ => false, free := C.free.filter fun y => !(y == ("str()" : Str)) }
mutual
def chk (C : Cfg) : Ie → Expr → Bool
  | .c d, e => match e with
    | .Constant k _ _ => constIs d k
    | _ => false
  | .v i, e => match e with
    | .Name x _ => C.vis i x
    | _ => false
  | .g j, e => match e with
    | .Name x _ => C.glob x && decide (C.cst[j]? = some x)
    | _ => false
  | .op o as, e => okOp o && match opArgs C o e with
    | some es => chkA C as es
    | none => false
  | .slN i lo hi, e => match e with
    | .Subscript (.Name x _) (.Slice l h none _) _ => C.vis i x && chkI C lo l && chkI C hi h
    | _ => false
  | .slE a lo hi, e => match e with
    | .Subscript x (.Slice l h none _) _ => chk C a x && chkI C lo l && chkI C hi h
    | _ => false
  | .ife t a b, e => match e with
    | .IfExp c x y _ => chkT C t c && chk C a x && chk C b y
    | _ => false
  | .bv o es, e => match e with
    | .BoolOp o' (x :: y :: r) _ => decide (o = o') && chkL C es (x :: y :: r)
    | _ => false
  | .notv a, e => match e with
    | .UnaryOp .Not x _ => chk C a x
    | _ => false
  | .chain p q a b c, e => match e with
    | .Compare x [o1, o2] [y, z] _ => decide (o1 = p) && decide (o2 = q) && !isSet z && (cmpP p).isSome && (cmpP q).isSome && chk C a x && chk C b y && chk C c z
    | _ => false
  | .lc dp own k as tg t el, e => match e with
    | .ListComp elt [⟨target, iter, ifs, 0⟩] scope _ => C.blkOk scope own && allIn tg.slots own && !isSet iter && chkTg (C.blk scope) tg target && chkTs (C.blk scope) t ifs && chk (C.blk scope) el elt &&
      (match itArgs C k target iter with
        | some es => chkA C as es
        | none => false)
    | _ => false
  | .lc2 dp own own1 k as tg t k1 as1 tg1 t1 el, e => match e with
    | .ListComp elt [⟨target, iter, ifs, 0⟩, ⟨target1, iter1, ifs1, 0⟩] scope _ => C.blkOk scope own && allIn tg.slots own && allIn tg1.slots own1 && allIn own1 own && !isSet iter && !isSet iter1 &&
      chkTg (C.blk scope) tg target && chkTs (C.blk scope) t ifs && chkTg (C.blk scope) tg1 target1 && chkTs (C.blk scope) t1 ifs1 && chk (C.blk scope) el elt &&
      (match itArgs C k target iter with
        | some es => chkA C as es
        | none => false) &&
      (match itArgs (C.blk scope) k1 target1 iter1 with
        | some es => chkA (C.blk scope) as1 es
        | none => false)
    | _ => false
  | .lm i m as, e => match e with
    | .Call (.Attribute (.Name x _) f ap) es [] cp => C.vis i x && (ap.endLine == cp.line) && (match m with
      | .app => f == ("append" : Str) && decide (es.length = 1)
      | .pop => f == ("pop" : Str) && decide (es.length = 1)
      | .ins => f == ("insert" : Str) && decide (es.length = 2)) && chkA C as es
    | _ => false
  | .fl i c k, e => C.fld i c k e
  | .lkE i c k a, e => chk C a e
  | .mth j i c m as, e => match e with
    | .Call (.Attribute (.Name x _) f ap) es [] cp => C.vis i x && (ap.endLine == cp.line) && f == m && C.mth j c m && decide (es.length < 20) && chkA C as es
    | _ => false
  | .mthE j c m a as, e => match e with
    | .Call (.Attribute o f ap) es [] cp => isCallN o && (ap.endLine == cp.line) && f == m && C.mth j c m && decide (es.length < 20) && chk C a o && chkA C as es
    | _ => false
  | .mk j c as, e => match e with
    | .Call (.Name x _) (y :: es) [] _ => C.mkr j c x && chkA C as (y :: es)
    | _ => false
  | .lcG dp own g tg t el, e => match e with
    | .ListComp elt [⟨target, iter, ifs, 0⟩] scope _ => C.blkOk scope own && allIn tg.slots own && !isSet iter && chkTg (C.blk scope) tg target && chkTs (C.blk scope) t ifs && chk (C.blk scope) el elt && chkG C g target iter
    | _ => false
  | .lmF i c k m as, e => match e with
    | .Call (.Attribute o f ap) es [] cp => C.fld i c k o && (ap.endLine == cp.line) && (match m with
      | .app => f == ("append" : Str) && decide (es.length = 1)
      | .pop => f == ("pop" : Str) && decide (es.length = 1)
      | .ins => f == ("insert" : Str) && decide (es.length = 2)) && chkA C as es
    | _ => false
  | .mv i, e => match e with
    | .Name x _ => C.vis i x
    | _ => false
  | .ix2 i j k, e => match e with
    | .Subscript (.Subscript (.Name x _) (.Name y _) _) (.Name z _) _ => C.vis i x && C.vis j y && C.vis k z
    | _ => false
  | .dnew, e => match e with
    | .Dict [] [] _ => true
    | _ => false
  | .dsel ks as k, e => match e with
    | .Subscript (.Dict keys vals _) b _ => !isSlice b && keysAre ks keys && !ks.isEmpty && decide (ks.length ≤ 15) && noFl as && decide (vals.length = ks.length) && chkA C as vals && chk C k b
    | _ => false
  | .ix2e i k1 k2, e => match e with
    | .Subscript (.Subscript (.Name x _) a _) b _ => C.vis i x && !isSlice a && !isSlice b && chk C k1 a && chkK C k2 b
    | _ => false
  | .lstD as, e => match e with
    | .List es _ => chkA C as es
    | _ => false
  | .mthF j i c k c2 m, e => match e with
    | .Call (.Attribute o f ap) [] [] cp => C.fld i c k o && (ap.endLine == cp.line) && f == m && C.mth j c2 m
    | _ => false
  | .fl2 i c k c2 k2, e => match e with
    | .Attribute o f _ => C.fld i c k o && decide ((clsFlds c2)[k2]? = some f) && C.cls.contains c2
    | _ => false
  | .selC j a, e => match e with
    | .Subscript (.Name x _) b _ => C.glob x && decide (C.dst[j]? = some x) && !isSlice b && chk C a b
    | _ => false
  | .chain3 p q r a b c d, e => match e with
    | .Compare x [o1, o2, o3] [y, z, w] _ => decide (o1 = p) && decide (o2 = q) && decide (o3 = r) && !isSet w && (cmpP p).isSome && (cmpP q).isSome && (cmpP r).isSome && chk C a x && chk C b y && chk C c z && chk C d w
    | _ => false
  | .toldF j as, e => match e with
    | .Call (.Name x _) [.Lambda ⟨[], [], none, [], [], none, []⟩ (.Call (.Name y _) (a0 :: es) [] _) scope _] [] _ => x == ("_law_told" : Str) && C.glob x && (C.free.contains ("lamX()" : Str) && C.fn ("lambda()" : Str)) && LamX.lamSB C.sc scope &&
      ((match C.xfns[j]? with
        | some f => f.name == y && f.cls.isNone
        | none => false) && (C.lamC scope).glob y && chkA (C.lamC scope) as (a0 :: es))
    | _ => false
  | .told a, e => match e with
    | .Call (.Name x _) [.Lambda ⟨[], [], none, [], [], none, []⟩ body scope _] [] _ => x == ("_law_told" : Str) && C.glob x && (C.free.contains ("lambda()" : Str) && C.fn ("lambda()" : Str)) && LamX.lamSB C.sc scope && chk (C.lamC scope) a body
    | _ => false
def chkL (C : Cfg) : Ies → List Expr → Bool
  | .one b, es => match es with
    | [y] => chk C b y
    | _ => false
  | .cons b r, es => match es with
    | y :: z :: t => chk C b y && chkL C r (z :: t)
    | _ => false
def chkA (C : Cfg) : Ars → List Expr → Bool
  | .nil, es => es.isEmpty
  | .nm i r, es => match es with
    | .Name x _ :: t => C.vis i x && chkA C r t
    | _ => false
  | .ex a r, es => match es with
    | e :: t => plain e && chk C a e && chkA C r t
    | [] => false
  | .fl i c k r, es => match es with
    | e :: t => C.fld i c k e && chkA C r t
    | [] => false
def chkI (C : Cfg) : OIe → Option Expr → Bool
  | .no, e => e.isNone
  | .so a, e => match e with
    | some x => chk C a x
    | none => false
def chkT (C : Cfg) : Te → Expr → Bool
  | .b a, e => match e with
    | .Compare _ _ _ _ => !isLk a && chk C a e
    | _ => false
  | .v a, e => plainT e && chk C a e
  | .bo o ts, e => match e with
    | .BoolOp o' (x :: y :: r) _ => decide (o = o') && chkTL C ts (x :: y :: r)
    | _ => false
  | .not a, e => match e with
    | .UnaryOp .Not x _ => chkT C a x
    | _ => false
def chkTL (C : Cfg) : Tes → List Expr → Bool
  | .one b, es => match es with
    | [y] => chkT C b y
    | _ => false
  | .cons b r, es => match es with
    | y :: z :: t => chkT C b y && chkTL C r (z :: t)
    | _ => false
def chkTs (C : Cfg) : Ts → List Expr → Bool
  | .no, es => es.isEmpty
  | .so t, es => match es with
    | [e] => chkT C t e
    | _ => false
end
def swB (C : Cfg) (x : Str) (py : Pos) (e : Expr) : Bool := match e with
  | .ListComp _ _ scope pos => decide (C.sc.names.lookup x = some .local) && py.line == pos.line && !(scope.names.any fun (n, k) => n == x && (k == .local || k == .cell))
  | _ => false
def notLoc (C : Cfg) : Expr → Bool
  | .Name x _ => !decide (C.sc.names.lookup x = some .local)
  | _ => true
def isLc : Ie → Bool
  | .lc _ _ _ _ _ _ _ => true
  | .lc2 _ _ _ _ _ _ _ _ _ _ _ _ => true
  | _ => false
def listC : Expr → Bool
  | .ListComp _ _ _ _ => true
  | _ => false
mutual
def chkS (C : Cfg) (np : Nat) : Is → Stmt → Bool
  | .set i e, s => match s with
    | .Assign [.Name x _] v _ => decide (np ≤ i) && C.loc i x && (listC v || !isComp v) && (!listC v || isLc e) && chk C e v
    | _ => false
  | .tg t e, s => match s with
    | .Assign [.Tuple es k p] v _ => (t.slots.all fun i => decide (np ≤ i)) && chkTg C t (.Tuple es k p) && (match v with
      | .Tuple vs _ _ => decide (4 ≤ es.length) || vs.all (foldedForSure 8) || es.any (notLoc C)
      | _ => true) && chk C e v
    | _ => false
  | .par i j a b, s => match s with
    | .Assign [.Tuple [.Name x px, .Name y py] _ _] (.Tuple [v, w] _ _) _ => decide (np ≤ i) && decide (np ≤ j) && decide (i ≠ j) && decide (C.N[i]? = some x) && decide (C.N[j]? = some y) &&
      decide (C.sc.names.lookup x = some .local) && decide (C.sc.names.lookup y = some .local) && px.line == py.line && !(x == y) && plain v && plain w && !([v, w].all (foldedForSure 8)) && !([v, w].all (constantsAlone 8)) && chk C a v && chk C b w
    | _ => false
  | .par3 i j l a b d, s => match s with
    | .Assign [.Tuple [.Name x px, .Name y py, .Name z pz] _ _] (.Tuple [u, v, w] _ _) _ => decide (np ≤ i) && decide (np ≤ j) && decide (np ≤ l) && decide (i ≠ j) && decide (i ≠ l) && decide (j ≠ l) &&
      decide (C.N[i]? = some x) && decide (C.N[j]? = some y) && decide (C.N[l]? = some z) &&
      decide (C.sc.names.lookup x = some .local) && decide (C.sc.names.lookup y = some .local) && decide (C.sc.names.lookup z = some .local) && px.line == py.line && py.line == pz.line && !(x == y) && !(x == z) && !(y == z) && plain u && plain v && plain w &&
      !([u, v, w].all (foldedForSure 8)) && !([u, v, w].all (constantsAlone 8)) && chk C a u && chk C b v && chk C d w
    | _ => false
  | .setF2 i c k k2 e, s => match s with
    | .Assign [.Tuple [.Attribute (.Name x xp) f fp, .Attribute (.Name y yp) g gp] tk tp] v _ => C.vis i x && C.vis i y && decide ((clsFlds c)[k]? = some f) && decide ((clsFlds c)[k2]? = some g) && C.cls.contains c && !isComp v && (match v with
      | .Tuple vs _ _ => decide (4 ≤ 2) || vs.all (foldedForSure 8) || [Expr.Attribute (.Name x xp) f fp, Expr.Attribute (.Name y yp) g gp].any (notLoc C)
      | _ => true) && chk C e v
    | _ => false
  | .aug i o e, s => match s with
    | .AugAssign (.Name x _) o' v _ => decide (np ≤ i) && C.loc i x && (match o with
      | .add => decide (o' = .Add)
      | .sub => decide (o' = .Sub)) && chk C e v
    | _ => false
  | .setIx i k e, s => match s with
    | .Assign [.Subscript (.Name x _) b _] v _ => C.vis i x && !isSlice b && !isComp v && chk C k b && chk C e v
    | _ => false
  | .augIx i k o e, s => match s with
    | .AugAssign (.Subscript (.Name x _) b _) o' v _ => C.vis i x && !isSlice b && (match o with
      | .add => decide (o' = .Add)
      | .sub => decide (o' = .Sub)) && chk C k b && chk C e v
    | _ => false
  | .setIx2 i j k e, s => match s with
    | .Assign [.Subscript (.Subscript (.Name x _) (.Name y _) _) (.Name z _) _] v _ => C.vis i x && C.vis j y && C.vis k z && !isComp v && chk C e v
    | _ => false
  | .dput i as e, s => match s with
    | .Assign [.Subscript (.Name x _) (.BinOp a .Add b _) _] v _ => C.vis i x && !isComp v && chkA C as [a, b] && chk C e v
    | _ => false
  | .set2e i k1 k2 e, s => match s with
    | .Assign [.Subscript (.Subscript (.Name x _) a _) b _] v _ => C.vis i x && !isSlice a && !isSlice b && !isComp v && chk C k1 a && chkK C k2 b && chk C e v
    | _ => false
  | .aug2 i k1 k2 o e, s => match s with
    | .AugAssign (.Subscript (.Subscript (.Name x _) a _) b _) o' v _ => C.vis i x && !isSlice a && !isSlice b && (match o with
      | .add => decide (o' = .Add)
      | .sub => decide (o' = .Sub)) && chk C k1 a && chkK C k2 b && chk C e v
    | _ => false
  | .slSet i lo hi e, s => match s with
    | .Assign [.Subscript (.Name x _) (.Slice (some l) (some h) none _) _] v _ => C.vis i x && !isComp v && chk C lo l && chk C hi h && chk C e v
    | _ => false
  | .setF i c k _ e, s => match s with
    | .Assign [.Attribute (.Name x _) f _] v _ => C.vis i x && decide ((clsFlds c)[k]? = some f) && C.cls.contains c && chk C e v
    | _ => false
  | .augF i c k o e, s => match s with
    | .AugAssign (.Attribute (.Name x _) f _) o' v _ => C.vis i x && decide ((clsFlds c)[k]? = some f) && C.cls.contains c && (match o with
      | .add => decide (o' = .Add)
      | .sub => decide (o' = .Sub)) && chk C e v
    | _ => false
  | .setIxF i c k x e, s => match s with
    | .Assign [.Subscript o b _] v _ => C.fld i c k o && !isSlice b && chk C x b && chk C e v
    | _ => false
  | .lkS i c k a, s => chkS C np a s
  | .lkV i a, s => chkS C np a s
  | .fzS _ _ _ a, s => chkS C np a s
  | .stk, _ => true
  | .forG g tg b, s => match s with
    | .For target iter body [] _ => (tg.slots.all fun i => decide (np ≤ i)) && chkTg C tg target && !isSet iter && chkSs C np b body && chkG C g target iter
    | _ => false
  | .ex e, s => match s with
    | .Expr v _ => !isComp v && chk C e v
    | _ => false
  | .ret e, s => match s with
    | .Return (some v) _ => chk C e v
    | _ => false
  | .retM i, s => match s with
    | .Return (some (.Name x _)) _ => decide (np ≤ i) && C.vis i x
    | _ => false
  | .retN, s => match s with
    | .Return none _ => true
    | _ => false
  | .ite t a b, s => match s with
    | .If c x y _ => chkT C t c && chkSs C np a x && chkSs C np b y
    | _ => false
  | .for_ k as tg b, s => match s with
    | .For target iter body [] _ => (tg.slots.all fun i => decide (np ≤ i)) && chkTg C tg target && !isSet iter && chkSs C np b body && (match itArgs C k target iter with
      | some es => chkA C as es
      | none => false)
    | _ => false
  | .while_ t b, s => match s with
    | .While c body [] _ => chkT C t c && chkSs C np b body
    | _ => false
  | .pass, s => match s with
    | .Pass _ => true
    | _ => false
  | .brk, s => match s with
    | .Break _ => true
    | _ => false
  | .cnt, s => match s with
    | .Continue _ => true
    | _ => false
def chkSs (C : Cfg) (np : Nat) : Iss → List Stmt → Bool
  | .nil, ss => ss.isEmpty
  | .cons s r, ss => match ss with
    | x :: t => chkS C np s x && chkSs C np r t
    | [] => false
end
end MP
namespace MP
open PySem L2
variable [LamT]
theorem pe_imp {X : Cx} {e : Expr} {t t' : TE} (h : PE X e t) (k : ∀ σ H Q, t' σ H Q → t σ H Q) : PE X e t' := ⟨fun pins s σ H Q I q => h.run pins s σ H Q I (k σ H Q q)⟩
structure KB (K : PySem.W.Frag) (fd : FuncData) (ps ks : List Str) (perm : List Nat) : Prop where
  len : perm.length = ps.length
  kl : ks.length = ps.length
  lt : ∀ k ∈ perm, k < ks.length
  to : ∀ (s : Shared) (ws : List Value), K.In s.heap → ws.length = ks.length → BindsTo s fd ⟨[], ks.zip ws⟩ (ps.zip (perm.filterMap fun k => ws[k]?))
def FnAt (K : PySem.W.Frag) (mg : Str → Option Value) (ft : FT) (f : Addr) : Prop := (ft.cls = none → mg ft.name = some (.ref f) ∧ PySem.W.keepIn K (.ref f) = true) ∧
  ∀ c, ft.cls = some c → (ft.name ≠ ("__init__" : Str) → Meth K (He.ga K (clsName c)) ft.name f) ∧ (ft.name = ("__init__" : Str) → Mk K (He.ga K (clsName c)) f ∧ mg (clsName c) = some (.ref (He.ga K (clsName c))))
def FnIn (X : Cx) (ft : FT) (φ : Φ) : Prop := ∃ f fd k, Room (k + 1) X.A ∧ FnAt X.K X.mg ft f ∧ Binds X.K fd ft.ps [] ∧ (∀ p ∈ ft.kws, KB X.K fd ft.ps p.1 p.2) ∧
  FnOk X.prog X.w X.K X.mg X.base CX0 k f fd ft.ps (spOf X.K φ)
structure LamOk (X : Cx) (fns : List FT) (fs : EnV) : Prop where
  ex : ∃ (k : Nat) (g c P : Addr) (oc : Value) (od : Option Addr) (pg : Arguments) (bg : List Stmt) (sg : Scope) (dV kV doc pm cdv ct : Value) (an : Option Addr) (osl : Array (Option Value)) (Ng : List Str),
    Room (k + 3) X.A ∧ X.mg "_law_told" = some (.ref g) ∧ PySem.W.keepIn X.K (.ref g) = true ∧ X.K.lookup g = some ⟨oc, od, .func (PySem.W.fnOf "_law_told" "_law_told" pg bg sg dV kV doc pm an cdv ct), osl⟩ ∧ PySem.W.codeIn X.K cdv "_law_told" = true ∧
    L2.Binds X.K (PySem.W.fnOf "_law_told" "_law_told" pg bg sg dV kV doc pm an cdv ct) ["deed"] [] ∧ FnScope Ng ["deed"] sg ∧ Ng[0]? = some ("deed" : Str) ∧ Vis sg "deed" ∧ LamX.GivesTo X Ng "_law_told" sg g cdv bg "deed" (X.env.qual ++ "<lambda>") TTold ∧
    LamX.TabB X.base X.mg c P ∧ X.env.code = .ref c ∧ (P, X.env.qual ++ "<lambda>") ∈ LamT.T ∧ (∀ p ∈ LamT.T, p.1 = P → p.2 = X.env.qual ++ "<lambda>") ∧
    ∀ (j : Nat) ft, fns[j]? = some ft → ∃ f fd, FnAt X.K X.mg ft f ∧ Binds X.K fd ft.ps [] ∧ (∀ p ∈ ft.kws, KB X.K fd ft.ps p.1 p.2) ∧ FnOk X.prog X.w X.K X.mg X.base CX0 k f fd ft.ps (spOf X.K (fs.f j))
structure LamOkX (X : Cx) (fns xfns : List FT) (fs : EnV) : Prop where
  ex : ∃ (k : Nat) (g c P : Addr) (oc : Value) (od : Option Addr) (pg : Arguments) (bg : List Stmt) (sg : Scope) (dV kV doc pm cdv ct : Value) (an : Option Addr) (osl : Array (Option Value)) (Ng : List Str),
    Room (k + 3) X.A ∧ X.mg "_law_told" = some (.ref g) ∧ PySem.W.keepIn X.K (.ref g) = true ∧ X.K.lookup g = some ⟨oc, od, .func (PySem.W.fnOf "_law_told" "_law_told" pg bg sg dV kV doc pm an cdv ct), osl⟩ ∧ PySem.W.codeIn X.K cdv "_law_told" = true ∧
    L2.Binds X.K (PySem.W.fnOf "_law_told" "_law_told" pg bg sg dV kV doc pm an cdv ct) ["deed"] [] ∧ FnScope Ng ["deed"] sg ∧ Ng[0]? = some ("deed" : Str) ∧ Vis sg "deed" ∧ MPH.GivesN X Ng "_law_told" sg g cdv bg "deed" (X.env.qual ++ "<lambda>") (TTd X.K fs.rt) ∧
    LamX.TabB X.base X.mg c P ∧ X.env.code = .ref c ∧ (P, X.env.qual ++ "<lambda>") ∈ LamT.T ∧ (∀ p ∈ LamT.T, p.1 = P → p.2 = X.env.qual ++ "<lambda>") ∧
    (∀ (j : Nat) ft, fns[j]? = some ft → ∃ f fd, FnAt X.K X.mg ft f ∧ Binds X.K fd ft.ps [] ∧ (∀ p ∈ ft.kws, KB X.K fd ft.ps p.1 p.2) ∧ FnOk X.prog X.w X.K X.mg X.base CX0 k f fd ft.ps (spOf X.K (fs.f j))) ∧
    ∀ (j : Nat) ft, xfns[j]? = some ft → ∃ f fd, FnAt X.K X.mg ft f ∧ Binds X.K fd ft.ps [] ∧ FnOk X.prog X.w X.K X.mg X.base (L2N.CX X.prog X.w) k f fd ft.ps (spOfX X.K (fs.x j))
structure XOk (X : Cx) (C : Cfg) (fs : EnV) : Prop where
  N : X.N = C.N
  nd : C.N.Nodup
  sc : X.env.scope = C.sc
  kind : C.sc.kind = .function
  calm : X.calm = true
  fn : ∀ x, C.fn x = true → X.fn x = true
  xe : X.xe = fun _ _ => False
  units : X.A.units + 66 < cLine
  free : ∀ x, C.free.contains x = true → X.mg x = none
  cst : ∀ (j : Nat) x, C.cst[j]? = some x → ∃ u, X.mg x = some u ∧ RelV (fs.v j) u
  fns : ∀ (j : Nat) ft, C.fns[j]? = some ft → FnIn X ft (fs.f j)
  cls : ∀ c, C.cls.contains c = true → ClsOk X.K c
  dst : ∀ (j : Nat) x, C.dst[j]? = some x → ∃ p, X.mg x = some (.ref p) ∧ ∀ z i, (fs.s j).lookup z = some i → KDct X.K X.w p z (.int i)
  gd : C.free.contains ("str()" : Str) = true → X.A.guards = some []
  lam : (C.free.contains ("lambda()" : Str) && C.fn ("lambda()" : Str)) = true → LamOk X C.fns fs
  lamX : (C.free.contains ("lamX()" : Str) && C.fn ("lambda()" : Str)) = true → LamOkX X C.fns C.xfns fs
inductive APE (X : Cx) : List Expr → TA → Prop
  | nil : APE X [] tNil
  | cons {e : Expr} {es : List Expr} {t : TE} {ta : TA} : PE X e t → plain e = true → APE X es ta → APE X (e :: es) (tCons t ta)
section
variable {X : Cx} {C : Cfg} {fs : EnV}
theorem star_plain {e : Expr} {es : List Expr} {env : Env} (h : plain e = true) : starEach (e :: es) env = (false, eval e env) :: starEach es env := by
  cases e <;> first | rfl | cases h
theorem APE.pa : ∀ {es : List Expr} {ta : TA}, APE X es ta → PA X es ta
  | _, _, .nil => pa_nil
  | _, _, .cons h p r => pa_cons h r.pa (star_plain p)
theorem APE.he {e : Expr} {es : List Expr} {ta : TA} (h : APE X (e :: es) ta) : starEach (e :: es) X.env = (false, eval e X.env) :: starEach es X.env := by
  cases h with
  | cons _ p _ => exact star_plain p
theorem APE.any : ∀ {es : List Expr} {ta : TA} {pos : Pos}, APE X es ta → (backTo pos (starEach es X.env)).any (·.1) = false
  | _, _, _, .nil => rfl
  | _, _, pos, .cons h p r => by
    rw [star_plain p]
    have := r.any (pos := pos)
    simp only [backTo, List.map_cons, List.any_cons, Bool.false_or] at this ⊢
    exact this
theorem APE.hpl {e : Expr} {es : List Expr} {ta : TA} {pos : Pos} (h : APE X (e :: es) ta) : (backTo pos (starEach es X.env)).any (·.1) = false := by
  cases h with
  | cons _ p r => exact r.any
theorem XOk.gl (ok : XOk X C fs) {x : Str} (h : C.glob x = true) : Gl X x ∧ (x == ("__debug__" : Str)) = false ∧ x ≠ "__name__" := by
  simp only [Cfg.glob, Bool.and_eq_true, decide_eq_true_eq, Bool.not_eq_true', beq_eq_false_iff_ne, ne_eq] at h
  obtain ⟨⟨h1, h2⟩, h3⟩ := h
  refine ⟨?_, beq_eq_false_iff_ne.mpr h2, h3⟩
  show X.env.scope.names.lookup x = _
  rw [ok.sc]; exact h1
theorem XOk.bl (ok : XOk X C fs) {x : Str} (h : C.bltn x = true) : Gl X x ∧ X.mg x = none ∧ (x == ("__debug__" : Str)) = false ∧ x ≠ "__name__" := by
  simp only [Cfg.bltn, Bool.and_eq_true] at h
  obtain ⟨a, b, c⟩ := ok.gl h.1
  exact ⟨a, ok.free x h.2, b, c⟩
def rdg (K : PySem.W.Frag) (fs : EnV) : Op → RN
  | .bin .Add => r2 (rOr (rAddA K) (rBl fun i j => i + j))
  | .bin .Sub => r2 (rOr (rOr rSubI (rBl fun i j => i - j)) (rBr fun i j => i - j))
  | .bin .Mult => r2 (rOr (rMulA K) (rBr fun i j => i * j))
  | .bin .Mod => r2 rModI
  | .bin .FloorDiv => r2 rDivI
  | .bin .Pow => r2 rPowI
  | .bin _ => fun _ _ _ => False
  | .neg => r1 rNegI
  | .cmp .Eq => r2 (rEqD K)
  | .cmp .NotEq => r2 (rNeD K)
  | .cmp .Lt => r2 (rLtA K)
  | .cmp .LtE => r2 (rLeA K)
  | .cmp .Gt => r2 (rI0 fun i j => .bl (decide (j < i)))
  | .cmp .GtE => r2 (rI0 fun i j => .bl (decide (j ≤ i)))
  | .cmp .In => r2 (rInA K false)
  | .cmp .NotIn => r2 (rInA K true)
  | .cmp _ => fun _ _ _ => False
  | .isN n => r1 (rIsN n)
  | .isB n => r2 (rIsB n)
  | .ix => r2 (rIx K)
  | .tup => rTup
  | .lst => rLst
  | .blt .len => rLenA K
  | .blt .sum => rSum K
  | .blt .abs => rAbs
  | .blt .max => rMax2
  | .blt .min => rMin2
  | .blt .int => rInt
  | .blt .any => rAnyA K
  | .blt .all => rAll K
  | .blt .list => rListA K
  | .blt .tuple => rTupleA K
  | .blt .sorted => rSortedA K
  | .blt .str => rStr K
  | .isi c => rIsi1 K c
  | .isiA cs => rIsiA K cs
  | .rev => r1 (rRev K)
  | .call j => fun vs H Q => spOf K (fs.f j) vs H Q E0
  | .callK j _ perm => fun vs H Q => spOf K (fs.f j) (perm.filterMap fun k => vs[k]?) H Q E0 ∧ vs.length = perm.length
  | .listZ => rListZ K
theorem os_none {K : PySem.W.Frag} : OpSem K (fun _ _ _ => False) (fun _ => none) := fun vs xs F G H ho ok x ys e Q k => by cases e
theorem fzAll_ok {K : PySem.W.Frag} {G H : Hp} : ∀ {xs : List Vl} {vs : List V} {F : FP} {ds : List PyData}, OwnAll K G H xs vs F → fzAll xs = some ds → xs = ds.map .fz ∧ DtAll K G ds vs ∧ ∀ a, F a = 0
  | [], vs, F, ds, h, e => by
    simp only [fzAll, Option.some.injEq] at e
    subst e
    simp only [OwnAll] at h
    simp only [DtAll]
    exact ⟨rfl, h⟩
  | .fz d :: xs, vs, F, ds, h, e => by
    simp only [fzAll] at e
    obtain ⟨ds', e1, e⟩ := bind_some e
    cases e
    simp only [OwnAll] at h
    obtain ⟨v, r, A, B, rfl, h1, h2, f⟩ := h
    obtain ⟨a1, a2, a3⟩ := fzAll_ok h2 e1
    refine ⟨by rw [a1]; rfl, ?_, fun a => by rw [f, a3, h1.fz0]⟩
    simp only [DtAll]
    exact ⟨v, r, rfl, h1.fzF, a2⟩
  | .ls _ :: _, _, _, _, _, e => by simp [fzAll] at e
  | .ob _ _ :: _, _, _, _, _, e => by simp [fzAll] at e
  | .lk _ _ :: _, _, _, _, _, e => by simp [fzAll] at e
  | .hl _ :: _, _, _, _, _, e => by simp [fzAll] at e
  | .dt _ :: _, _, _, _, _, e => by simp [fzAll] at e
  | .sc _ :: _, _, _, _, _, e => by simp [fzAll] at e
def ScOk (K : PySem.W.Frag) (r : RN) (g : List Int → List PyData → Option PyData) : Prop := ∀ (ns : List Int) (ds : List PyData) (a : Addr) (ws : List V) (G H : Hp) (d : PyData), (∀ b o, G b = some o → H b = some o) → SqL K G a (ns.map V.int) → DtAll K G ds ws → g ns ds = some d → ∀ Q : VK, (∀ v, Dt K G d v → Q v H) → r (.ref a :: ws) H Q
theorem os_sc {K : PySem.W.Frag} {r : RN} {g : List Int → List PyData → Option PyData} {φ : Φ} (h : OpSem K r φ) (hg : ScOk K r g) : OpSem K r (φSc g φ) := by
  intro vs xs F G H ho ok x ys e Q k
  unfold φSc at e
  split at e
  · rename_i ns r
    obtain ⟨ds, e1, e⟩ := bind_some e
    obtain ⟨d, e2, e⟩ := bind_some e
    simp only [Option.some.injEq, Prod.mk.injEq] at e
    obtain ⟨rfl, rfl⟩ := e
    have ho0 := ho
    simp only [OwnAll] at ho
    obtain ⟨v, ws, A, B, rfl, h1, h2, f⟩ := ho
    simp only [Own] at h1
    obtain ⟨⟨a, rfl, q⟩, fA⟩ := h1
    obtain ⟨a1, a2, a3⟩ := fzAll_ok h2 e1
    refine hg ns ds a ws G H d ok.le q a2 e2 Q fun v hv => k v (fun _ => 0) F G H (Own.ofD hv) ho0 (ok.congr fun a => by simp) ((Fr.refl ok).congr (fun _ => rfl) fun a => by simp)
  · exact h vs xs F G H ho ok x ys e Q k
theorem atI_map {α β : Type} (f : α → β) (xs : List α) (i : Int) : atI (xs.map f) i = (atI xs i).map f := by
  unfold atI
  rw [List.length_map]
  cases ixN xs.length i with
  | none => rfl
  | some j => simp
theorem sc_ix {K : PySem.W.Frag} : ScOk K (r2 (rIx K)) gIx := by
  intro ns ds a ws G H d le q hd e Q k
  unfold gIx at e
  split at e
  · rename_i i
    rw [Option.map_eq_some_iff] at e
    obtain ⟨n, e, rfl⟩ := e
    obtain ⟨w, rfl, hw⟩ := dt1 hd
    simp only [Dt] at hw
    subst hw
    exact .inl ⟨a, ns.map V.int, i, .int n, rfl, rfl, sqL_mono le q, by rw [atI_map, e]; rfl, k _ dtInt⟩
  · cases e
theorem sc_len {K : PySem.W.Frag} : ScOk K (rLenA K) gLen := by
  intro ns ds a ws G H d le q hd e Q k
  unfold gLen at e
  split at e
  · cases e
    simp only [DtAll] at hd
    subst hd
    refine .inl ⟨a, ns.map V.int, rfl, .inl (sqL_mono le q), ?_⟩
    rw [List.length_map]
    exact k _ dtInt
  · cases e
theorem os_op0 {K : PySem.W.Frag} : ∀ o : Op, okOp o = true → (∀ j ks perm, o ≠ .callK j ks perm) → OpSem K (rdg K fs o) (phi fs.toEn o)
  | .bin .Add, _, _ => opD (od_bl od_add)
  | .bin .Sub, _, _ => opD (od_br (od_bl od_sub))
  | .bin .Mult, _, _ => opD (od_br od_mul)
  | .bin .Mod, _, _ => opD od_mod
  | .bin .FloorDiv, _, _ => opD od_div
  | .bin .Pow, _, _ => opD od_pow
  | .bin .MatMult, h, _ => by cases h
  | .bin .Div, h, _ => by cases h
  | .bin .LShift, h, _ => by cases h
  | .bin .RShift, h, _ => by cases h
  | .bin .BitOr, h, _ => by cases h
  | .bin .BitXor, h, _ => by cases h
  | .bin .BitAnd, h, _ => by cases h
  | .neg, _, _ => opD od_neg
  | .cmp .Eq, _, _ => opD od_eq
  | .cmp .NotEq, _, _ => opD od_ne
  | .cmp .Lt, _, _ => opD od_lt
  | .cmp .LtE, _, _ => opD od_le
  | .cmp .Gt, _, _ => opD od_cmp
  | .cmp .GtE, _, _ => opD od_cmp
  | .cmp .Is, h, _ => by cases h
  | .cmp .IsNot, h, _ => by cases h
  | .cmp .In, _, _ => opD od_in
  | .cmp .NotIn, _, _ => opD od_in
  | .isN n, _, _ => opD od_isN
  | .isB n, _, _ => opD od_isB
  | .ix, _, _ => os_sc (opD od_ix) sc_ix
  | .tup, _, _ => opK ok_tup
  | .lst, _, _ => opK ok_lst
  | .blt .len, _, _ => os_sc (opD od_len) sc_len
  | .blt .sum, _, _ => opD od_sum
  | .blt .abs, _, _ => opD od_abs
  | .blt .max, _, _ => opD od_max
  | .blt .min, _, _ => opD od_min
  | .blt .int, _, _ => opD od_int
  | .blt .any, _, _ => opD od_anyA
  | .blt .all, _, _ => opD od_all
  | .blt .list, _, _ => opD od_list
  | .blt .tuple, _, _ => opD od_tuple
  | .blt .sorted, _, _ => os_sorted
  | .blt .str, _, _ => opD od_str
  | .isi c, _, _ => opD od_isi
  | .isiA cs, _, _ => os_isiA
  | .rev, _, _ => opD od_rev
  | .call j, _, _ => os_sp (E := E0)
  | .callK j ks perm, _, h => absurd rfl (h j ks perm)
  | .listZ, _, _ => os_listZ
theorem ape_pl {e : Expr} {es : List Expr} {ta : TA} (h : APE X (e :: es) ta) : plain e = true := by
  cases h with
  | cons _ p _ => exact p
theorem ape1 {a : Expr} {ta : TA} (h : APE X [a] ta) : ∃ t, ta = tCons t tNil ∧ PE X a t := by
  cases h with
  | cons h p r => cases r; exact ⟨_, rfl, h⟩
theorem ape2 {a b : Expr} {ta : TA} (h : APE X [a, b] ta) : ∃ t u, ta = tCons t (tCons u tNil) ∧ PE X a t ∧ PE X b u := by
  cases h with
  | cons h p r =>
    obtain ⟨u, rfl, h2⟩ := ape1 r
    exact ⟨_, _, rfl, h, h2⟩
theorem pe_isN' {a : Expr} {ta : TE} {n : Bool} {j : Nat} {pos' pos : Pos} (h : PE X a ta) : PE X (.Compare a [isOp n] [.Constant .none j pos'] pos) (tN (r1 (rIsN n)) (tCons ta tNil)) := by
  cases n with
  | false => exact pe_cmp (pc_isN h)
  | true => exact pe_cmp (pc_notN h)
theorem pe_clsN (ok : XOk X C fs) {c : Cl} {e : Expr} (h : isName C c.name e = true) : PE X e (tC (.ty c.name)) := by
  cases e with
  | Name y p =>
    simp only [isName, Bool.and_eq_true, beq_iff_eq] at h
    obtain ⟨rfl, hb⟩ := h
    obtain ⟨g, m, d, n⟩ := ok.bl hb
    have hv : bootBuiltins (c.name : Str) = some (.type c.name) := by cases c <;> decide +kernel
    exact pe_bltn g m hv rfl n d
  | _ => cases h
theorem perm_dt {K : PySem.W.Frag} {G : Hp} {ds : List PyData} {vs : List V} (h : DtAll K G ds vs) : ∀ perm : List Nat, DtAll K G (perm.filterMap fun k => ds[k]?) (perm.filterMap fun k => vs[k]?)
  | [] => by simp [DtAll]
  | k :: perm => by
    have ih := perm_dt h perm
    cases q : ds[k]? with
    | none =>
      have q2 : vs[k]? = none := by
        rw [List.getElem?_eq_none_iff] at q ⊢
        rw [← h.len]; exact q
      rw [List.filterMap_cons_none q, List.filterMap_cons_none q2]
      exact ih
    | some d =>
      obtain ⟨v, q2, hd⟩ := h.get q
      rw [List.filterMap_cons_some q, List.filterMap_cons_some q2]
      simp only [DtAll]
      exact ⟨v, _, rfl, hd, ih⟩
theorem os_callK {K : PySem.W.Frag} {j : Nat} {ks : List Str} {perm : List Nat} : OpSem K (rdg K fs (.callK j ks perm)) (phi fs.toEn (.callK j ks perm)) := by
  intro vs xs F G H ho ok x ys e Q k
  simp only [phi, φPerm] at e
  obtain ⟨ds, e1, e⟩ := bind_some e
  split at e
  case isFalse => cases e
  rename_i hl
  obtain ⟨⟨x', zs⟩, e2, e⟩ := bind_some e
  simp only [Option.some.injEq, Prod.mk.injEq] at e
  obtain ⟨rfl, rfl⟩ := e
  obtain ⟨a1, a2, a3⟩ := fzAll_ok ho e1
  refine ⟨⟨_, fun _ => 0, G, x', zs, ownAll_fz (perm_dt a2 perm), ok.congr fun a => (a3 a).symm, e2, fun v Fx F' G' H' o1 o2 ok1 fr1 => ?_⟩, by rw [← ho.len]; exact hl⟩
  have o3 : OwnAll K G' H' xs vs (fun _ => 0) := by
    rw [a1]
    exact ownAll_fz (DtAll.mono fr1.g _ _ a2)
  exact k v Fx (fun _ => 0) G' H' o1 o3 (ok1.sub fun a => by show Fx a + 0 ≤ _; omega) ((fr1.congr (F1 := F) (fun a => a3 a) fun _ => rfl).sub fun a => by show Fx a + 0 ≤ _; omega)
theorem kw_pk : ∀ {ks : List Str} {kws : List Keyword} {es : List Expr} {ta : TA} {pos : Pos}, kwArgs ks kws = some es → APE X es ta → PK X kws ta ∧ (backToKw pos (keywordEach kws X.env)).all (·.1.isSome) = true ∧ (backToKw pos (keywordEach kws X.env)).filterMap (·.1) = ks ∧
    (backToKw pos (keywordEach kws X.env)).any (·.1.isNone) = false ∧ ks.length = es.length
  | [], [], es, ta, pos, h, a => by
    simp only [kwArgs, Option.some.injEq] at h
    subst h
    cases a
    exact ⟨pk_nil, rfl, rfl, rfl, rfl⟩
  | [], _ :: _, es, ta, pos, h, a => by simp [kwArgs] at h
  | k :: ks, [], es, ta, pos, h, a => by simp [kwArgs] at h
  | k :: ks, ⟨none, e, kp⟩ :: r, es, ta, pos, h, a => by simp [kwArgs] at h
  | k :: ks, ⟨some n, e, kp⟩ :: r, es, ta, pos, h, a => by
    simp only [kwArgs] at h
    split at h
    · rename_i hn
      have hn' : n = k := by simpa using hn
      subst hn'
      rw [Option.map_eq_some_iff] at h
      obtain ⟨es', h, rfl⟩ := h
      cases a with
      | cons a1 p a2 =>
        obtain ⟨b1, b2, b3, b4, b5⟩ := kw_pk (pos := pos) h a2
        refine ⟨pk_cons a1 b1, ?_, ?_, ?_, by simp [b5]⟩
        · simp only [keywordEach, backToKw, List.map_cons, List.all_cons, Option.isSome_some, Bool.true_and] at b2 ⊢
          exact b2
        · simp only [keywordEach, backToKw, List.map_cons, List.filterMap_cons] at b3 ⊢
          rw [b3]
        · simp only [keywordEach, backToKw, List.map_cons, List.any_cons, Option.isNone_some, Bool.false_or] at b4 ⊢
          exact b4
    · cases h
theorem pe_bltF (ok : XOk X C fs) {f : BF} {x : Str} {p pos : Pos} {e : Expr} {es : List Expr} {ta : TA} (hx : x = f.name) (hb : C.bltn x = true) (hs : (decide (f ≠ .str) || C.free.contains ("str()" : Str)) = true) (ha : APE X (e :: es) ta) : PE X (.Call (.Name x p) (e :: es) [] pos) (tN (rdg X.K fs (.blt f)) ta) := by
  subst hx
  obtain ⟨g, m, d, n⟩ := ok.bl hb
  cases f with
  | len => exact pe_callB cr_len g m (by decide +kernel) ha.pa n d ha.he ha.hpl
  | sum => exact pe_callB (cr_sum ok.calm) g m (by decide +kernel) ha.pa n d ha.he ha.hpl
  | abs => exact pe_callB call_abs g m (by decide +kernel) ha.pa n d ha.he ha.hpl
  | max => exact pe_callB (call_max2 ok.calm) g m (by decide +kernel) ha.pa n d ha.he ha.hpl
  | min => exact pe_callB (call_min2 ok.calm) g m (by decide +kernel) ha.pa n d ha.he ha.hpl
  | int => exact pe_callTy call_int1 g m (by decide +kernel) ha.pa n d ha.he ha.hpl
  | any => exact pe_callB (cr_anyA ok.calm) g m (by decide +kernel) ha.pa n d ha.he ha.hpl
  | all => exact pe_callB (cr_all ok.calm) g m (by decide +kernel) ha.pa n d ha.he ha.hpl
  | list => exact pe_callTy call_list_of g m (by decide +kernel) ha.pa n d ha.he ha.hpl
  | tuple => exact pe_callTy call_tuple_of g m (by decide +kernel) ha.pa n d ha.he ha.hpl
  | sorted => exact pe_callB (call_sortedA (by have := ok.units; omega) ok.calm) g m (by decide +kernel) ha.pa n d ha.he ha.hpl
  | str => exact pe_callTy (call_str (by have := ok.units; omega) (ok.gd (by simpa using hs))) g m (by decide +kernel) ha.pa n d ha.he ha.hpl
theorem pe_clsA (ok : XOk X C fs) : ∀ {cs : List Cl} {ts : List Expr}, namesAre C cs ts = true → ∃ ta, APE X ts ta ∧ ∀ σ H Q, ta σ H Q = Q (cs.map fun c => V.ty c.name) H
  | [], [], _ => ⟨tNil, .nil, fun _ _ _ => rfl⟩
  | [], _ :: _, h => by cases h
  | _ :: _, [], h => by cases h
  | c :: cs, e :: es, h => by
    simp only [namesAre, Bool.and_eq_true] at h
    obtain ⟨ta, a1, a2⟩ := pe_clsA ok h.2
    have he := pe_clsN ok h.1
    have pl : plain e = true := by
      cases e <;> first | rfl | (have := h.1; cases this)
    refine ⟨tCons (tC (.ty c.name)) ta, .cons he pl a1, fun σ H Q => ?_⟩
    show ta σ H (fun xs H2 => Q (.ty c.name :: xs) H2) = _
    rw [a2]; rfl
theorem pe_callKo (ok : XOk X C fs) {j : Nat} {ft : FT} {ks : List Str} {perm : List Nat} {x : Str} {p pos : Pos} {kws : List Keyword} {es : List Expr} {ta : TA} (hj : C.fns[j]? = some ft) (hx : ft.name = x) (hg : C.glob x = true) (hm : (ks, perm) ∈ ft.kws) (hno : ft.cls = none)
    (hk : kwArgs ks kws = some es) (ha : APE X es ta) : PE X (.Call (.Name x p) [] kws pos) (tN (rdg X.K fs (.callK j ks perm)) ta) := by
  subst hx
  obtain ⟨f, fd, k, hr, hat, hb, hkb, hF⟩ := ok.fns j ft hj
  obtain ⟨hmg, hkp⟩ := hat.1 hno
  have hr := hr.mono (Nat.le_succ k)
  obtain ⟨gl, hd, hn⟩ := ok.gl hg
  obtain ⟨b1, b2, b3, b4, b5⟩ := kw_pk (pos := pos) hk ha
  have kb := hkb _ hm
  refine ⟨fun pins s σ H Q I h => ?_⟩
  refine wpAny_Call_Name_kw (ld_glob I gl hmg ?_ hd)
  refine PySem.W.callWith_KW0 (h₀ := X.base) I.ok.mod.kin hkp b2 (thn (b1.run pos pins s σ H _ I h) fun ws s2 ⟨zs, H2, I2, rz, q2⟩ => ⟨I2.kIn, ?_⟩) b4
  rw [b3]
  obtain ⟨q2, ql⟩ := q2
  have hl : ws.length = ks.length := by rw [← rz.length, ql, kb.len, kb.kl]
  have rv : Vals (perm.filterMap fun k => zs[k]?) (perm.filterMap fun k => ws[k]?) := by
    have : ∀ pm : List Nat, Vals (pm.filterMap fun k => zs[k]?) (pm.filterMap fun k => ws[k]?) := by
      intro pm
      induction pm with
      | nil => exact .nil
      | cons k pm ih =>
        cases q : zs[k]? with
        | none =>
          have q2 := rz.none_of q
          rw [List.filterMap_cons_none q, List.filterMap_cons_none q2]
          exact ih
        | some z =>
          obtain ⟨u, q2, r⟩ := rz.get q
          rw [List.filterMap_cons_some q, List.filterMap_cons_some q2]
          exact .cons r ih
    exact this perm
  refine PySem.wpAny_call (codeAny_mono (hF.run X.A X.stack s2 H2 ⟨[], ks.zip ws⟩ _ _ Q E0 hr I2.env0 (kb.to s2 ws I2.kIn hl) rv q2) fun r s' hq => ?_)
  cases r with
  | error e => exact hq.elim
  | ok fl =>
    cases fl with
    | ret u => exact I2.after hq
    | next => exact False.elim hq
    | brk => exact False.elim hq
    | cont => exact False.elim hq
theorem PlainIx_of {b : Expr} (h : isSlice b = false) : PlainIx b := by
  intro o i
  cases b <;> first | rfl | cases h
theorem nomark' {op : CmpOp} {b : Expr} (h : isSet b = false) : behindInMarks op b = false := by
  cases b <;> first | rfl | cases h
theorem op_pe (ok : XOk X C fs) {o : Op} {e : Expr} {es : List Expr} {ta : TA} (hok : okOp o = true) (h : opArgs C o e = some es) (ha : APE X es ta) : PE X e (tN (rdg X.K fs o) ta) := by
  unfold opArgs at h
  split at h
  · -- bin
    rename_i o a o' b _
    split at h
    · rename_i ho
      subst ho
      cases h
      obtain ⟨t, u, rfl, h1, h2⟩ := ape2 ha
      cases o with
      | Add => exact pe_op (op_addA.or op_addBl) h1 h2
      | Sub => exact pe_op ((op_sub.or op_subBl).or op_subBr) h1 h2
      | Mult => exact pe_op (op_mulA.or op_mulBr) h1 h2
      | Mod => exact pe_op op_modN h1 h2
      | FloorDiv => exact pe_op op_divI h1 h2
      | Pow => exact pe_op op_pow h1 h2
      | _ => cases hok
    · cases h
  · cases h
    obtain ⟨t, rfl, h1⟩ := ape1 ha
    exact pe_un un_neg h1
  · -- cmp
    split at h
    · rename_i o a o' b _ hc
      simp only [Bool.and_eq_true, decide_eq_true_eq, Bool.not_eq_true'] at hc
      obtain ⟨rfl, hs⟩ := hc
      cases h
      obtain ⟨t, u, rfl, h1, h2⟩ := ape2 ha
      have hu0 : X.A.units < cLine := by have := ok.units; omega
      cases o with
      | Eq => exact pe_cmpR (op_eqD (by have := ok.units; omega)) h1 h2 (nomark' hs)
      | NotEq => exact pe_cmpR (op_neD (by have := ok.units; omega)) h1 h2 (nomark' hs)
      | In => exact pe_cmpR (op_inA (by have := ok.units; omega)) h1 h2 (nomark' hs)
      | NotIn => exact pe_cmpR (op_notInA (by have := ok.units; omega)) h1 h2 (nomark' hs)
      | Lt => exact pe_cmpR (op_ltA hu0) h1 h2 (nomark' hs)
      | LtE => exact pe_cmpR (op_leA hu0) h1 h2 (nomark' hs)
      | Gt => exact pe_cmpR op_gt h1 h2 (nomark' hs)
      | GtE => exact pe_cmpR op_ge h1 h2 (nomark' hs)
      | _ => cases hok
    · cases h
  · -- is None
    split at h
    · rename_i n a o _ _ _ hc
      subst hc
      cases h
      obtain ⟨t, rfl, h1⟩ := ape1 ha
      exact pe_isN' h1
    · cases h
  · split at h
    · rename_i n a o b _ hc
      subst hc
      cases h
      obtain ⟨t, u, rfl, h1, h2⟩ := ape2 ha
      refine ?_
      cases n with
      | false => exact pe_cmpR op_isBf h1 h2 (nomark _)
      | true => exact pe_cmpR op_isBt h1 h2 (nomark _)
    · cases h
  · cases h
    obtain ⟨t, rfl, h1⟩ := ape1 ha
    exact pe_rev2 h1
  · split at h
    · cases h
    · rename_i hs
      cases h
      obtain ⟨t, u, rfl, h1, h2⟩ := ape2 ha
      exact pe_ix ix_seq h1 h2 (PlainIx_of (by simpa using hs))
  · cases h
    exact pe_tup ha.pa
  · cases h
    exact pe_lst ha.pa
  · split at h
    · rename_i f x _ es' _ hc
      simp only [Bool.and_eq_true, beq_iff_eq, Bool.not_eq_true'] at hc
      cases h
      cases es with
      | nil => cases hc.1.2
      | cons e es => exact pe_bltF ok hc.1.1.1 hc.1.1.2 hc.2 ha
    · cases h
  · split at h
    · rename_i c x _ a t _ hc
      simp only [Bool.and_eq_true, beq_iff_eq] at hc
      obtain ⟨⟨rfl, hb⟩, hn⟩ := hc
      cases h
      have hp := ape_pl ha
      obtain ⟨ta', rfl, h1⟩ := ape1 ha
      obtain ⟨g, m, d, n⟩ := ok.bl hb
      have hpt : plain t = true := by cases t <;> first | rfl | cases hn
      have ap : APE X [a, t] (tCons ta' (tCons (tC (.ty c.name)) tNil)) := .cons h1 hp (.cons (pe_clsN ok hn) hpt .nil)
      exact pe_imp (pe_callB call_isi g m (by decide +kernel) ap.pa n d ap.he ap.hpl) fun _ _ _ q => q
    · cases h
  · split at h
    · rename_i cs x _ a ts kk pp _ hc
      simp only [Bool.and_eq_true, beq_iff_eq, Bool.not_eq_true'] at hc
      obtain ⟨⟨⟨rfl, hb⟩, hn⟩, _⟩ := hc
      cases h
      have hp := ape_pl ha
      obtain ⟨ta', rfl, h1⟩ := ape1 ha
      obtain ⟨g, m, d, n⟩ := ok.bl hb
      obtain ⟨tc, a1, a2⟩ := pe_clsA ok hn
      have ap : APE X [a, .Tuple ts kk pp] (tCons ta' (tCons (tTup tc) tNil)) := .cons h1 hp (.cons (pe_tup a1.pa) rfl .nil)
      refine pe_imp (pe_callB call_isiT g m (by decide +kernel) ap.pa n d ap.he ap.hpl) fun σ H Q q => ?_
      have e0 : tCB (rIsiT X.K) (tCons ta' (tCons (tTup tc) tNil)) σ H Q = tN (rdg X.K fs (.isiA cs)) (tCons ta' tNil) σ H Q := by
        show (ta' σ H fun x H1 => tc σ H1 fun xs H2 => xs.length ≤ sizeLine ∧ ∀ p, H2 p = none → rIsiT X.K [x, .ref p] (upd H2 p (.tup xs)) Q) = (ta' σ H fun x H1 => rIsiA X.K cs [x] H1 Q)
        congr 1
        funext x H1
        rw [a2]
        rfl
      rw [e0]
      exact q
    · cases h
  · -- call
    split at h
    · rename_i hj
      split at h
      · rename_i hc
        simp only [Bool.and_eq_true, beq_iff_eq, Bool.not_eq_true'] at hc
        obtain ⟨⟨⟨rfl, hg⟩, hne⟩, hno⟩ := hc
        cases h
        obtain ⟨f, fd, k, hr, hat, hb, hkb, hF⟩ := ok.fns _ _ hj
        obtain ⟨hmg, hkp⟩ := hat.1 (Option.isNone_iff_eq_none.mp hno)
        have hr := hr.mono (Nat.le_succ k)
        obtain ⟨gl, hd, hn⟩ := ok.gl hg
        cases es with
        | nil => cases hne
        | cons e es =>
          refine pe_imp (pe_call (E := E0) (dvs := []) hF hr gl hmg hkp hb .nil pass0 ha.pa hd ha.he ha.hpl) fun σ H Q q => ?_
          have key : ∀ φ : Φ, (ta σ H fun vs H1 => spOf X.K φ vs H1 Q E0) → ta σ H fun vs H1 => spOf X.K φ (vs ++ []) H1 Q E0 := fun φ q => by
            have e0 : (fun (vs : List V) (H1 : Hp) => spOf X.K φ (vs ++ []) H1 Q E0) = fun vs H1 => spOf X.K φ vs H1 Q E0 := by
              funext vs H1
              rw [List.append_nil]
            rw [e0]
            exact q
          exact key _ q
      · cases h
    · cases h
  · -- keywords
    split at h
    · rename_i hj
      split at h
      · rename_i hc
        simp only [Bool.and_eq_true, beq_iff_eq, decide_eq_true_eq] at hc
        exact pe_callKo ok hj hc.1.1.1 hc.1.1.2 hc.1.2 (Option.isNone_iff_eq_none.mp hc.2) h ha
      · cases h
    · cases h
  · -- list(zip(..))
    split at h
    · rename_i hc
      simp only [Bool.and_eq_true, beq_iff_eq] at hc
      obtain ⟨⟨⟨rfl, hb⟩, rfl⟩, hb2⟩ := hc
      cases h
      obtain ⟨g, m, _, _⟩ := ok.bl hb
      obtain ⟨g2, m2, _, _⟩ := ok.bl hb2
      exact pe_listZ ok.calm g m g2 m2 ha.pa ha.he ha.hpl
    · cases h
  · cases h
end
end MP
namespace MP
open PySem L2
variable [LamT]
def cV : PyData → V
  | .none => .non
  | .bool b => .bl b
  | .int i => .int i
  | .str x => .str x
  | _ => .non
def rIt (K : PySem.W.Frag) : ItK → RI
  | .seq => rSeq K
  | .range1 => rRange1
  | .range2 => rRange2
  | .range3 => rRange3
  | .zip => rZipM K
  | .enum => rEnumA K
  | .zip3 => rZip3 K
  | .enumZ => rEnumZ K
def fN (c k : Nat) : Str := ((clsFlds c)[k]?).getD Str.empty
def rdG (K : PySem.W.Frag) : ItG → TI
  | .seq i c k => tI (rSeq K) (tCons (tFld K (tVar i) (fN c k)) tNil)
  | .enum i c k => iEnum K (tCons (tFld K (tVar i) (fN c k)) tNil)
  | .zip i c k j => tI (rZip K) (tCons (tFld K (tVar i) (fN c k)) (tCons (tFld K (tVar i) (fN c j)) tNil))
  | .seqS i => tI (rSeq K) (tCons (tVar i) tNil)
  | .zipS i j => tI (rZip K) (tCons (tVar i) (tCons (tVar j) tNil))
def lmR : LM → V → List V → Hp → VK → Prop
  | .app => rAppend
  | .pop => rPopAt
  | .ins => rIns
mutual
def rdE (K : PySem.W.Frag) (fs : EnV) : Ie → TE
  | .c d => tC (cV d)
  | .v i => tVar i
  | .g j => tC (fs.v j)
  | .op o as => tN (rdg K fs o) (rdA K fs as)
  | .slN i lo hi => tSl (rSlAll K) (tVar i) (rdI K fs lo) (rdI K fs hi)
  | .slE e lo hi => tSl (rSlAll K) (rdE K fs e) (rdI K fs lo) (rdI K fs hi)
  | .ife t a b => tIf (rdT K fs t) (rdE K fs a) (rdE K fs b)
  | .bv o es => rdL K fs o es
  | .notv a => tNotT K (rdE K fs a)
  | .chain p q a b c => match cmpP p, cmpP q with
    | some p', some q' => tChain (rI0 fun i j => .bl (p' i j)) (rI0 fun i j => .bl (q' i j)) (rdE K fs a) (rdE K fs b) (rdE K fs c)
    | _, _ => fun _ _ _ => False
  | .lc _ own k as tg t e => tLc (tI (rIt K k) (rdA K fs as)) (gOf K tg) (rdTs K fs t) (rdE K fs e) own
  | .lc2 _ own own1 k as tg t k1 as1 tg1 t1 e => tLc2 (tI (rIt K k) (rdA K fs as)) (gOf K tg) (rdTs K fs t) (tI (rIt K k1) (rdA K fs as1)) (gOf K tg1) (rdTs K fs t1) (rdE K fs e) own own1
  | .lm i m as => tBM K "list" (lmR m) (tVar i) (rdA K fs as)
  | .fl i c k => tFld K (tVar i) (fN c k)
  | .mthF j i c k c2 m => tMeth (He.ga K (clsName c2)) m (spOf K (fs.f j)) [] E0 (tFld K (tVar i) (fN c k)) tNil
  | .fl2 i c k c2 k2 => tFld K (tFld K (tVar i) (fN c k)) (fN c2 k2)
  | .selC j e => tSelC (fs.s j) (rdE K fs e)
  | .told e => tTold (rdE K fs e)
  | .toldF j as => tToldX K fs.rt (fs.x j) (rdA K fs as)
  | .chain3 p q r a b c d => match cmpP p, cmpP q, cmpP r with
    | some p', some q', some r' => tChain3 (rI0 fun i j => .bl (p' i j)) (rI0 fun i j => .bl (q' i j)) (rI0 fun i j => .bl (r' i j)) (rdE K fs a) (rdE K fs b) (rdE K fs c) (rdE K fs d)
    | _, _, _ => fun _ _ _ => False
  | .lkE _ _ _ e => rdE K fs e
  | .mth j i c m as => tMeth (He.ga K (clsName c)) m (spOf K (fs.f j)) [] E0 (tVar i) (rdA K fs as)
  | .mthE j c m e as => tMeth (He.ga K (clsName c)) m (spOf K (fs.f j)) [] E0 (rdE K fs e) (rdA K fs as)
  | .mk j c as => tMake (He.ga K (clsName c)) (spOf K (fs.f j)) [] E0 (rdA K fs as)
  | .lcG _ own g tg t e => tLc (rdG K g) (gOf K tg) (rdTs K fs t) (rdE K fs e) own
  | .lmF i c k m as => tBM K "list" (lmR m) (tFld K (tVar i) (fN c k)) (rdA K fs as)
  | .mv i => tVar i
  | .ix2 i j k => tN (rIx3 K) (tCons (tVar i) (tCons (tVar j) (tCons (tVar k) tNil)))
  | .dnew => tDNewT
  | .dsel ks as k => tDGet (tDisp (prT ks (rdDs K fs as))) (rdE K fs k)
  | .ix2e i k1 k2 => tOp (rIx K) (tOp (rIx K) (tVar i) (rdE K fs k1)) (tKx k2)
  | .lstD as => tN rLst (rdA K fs as)
def rdDs (K : PySem.W.Frag) (fs : EnV) : Ars → List TE
  | .nil => []
  | .nm i r => tVar i :: rdDs K fs r
  | .ex e r => rdE K fs e :: rdDs K fs r
  | .fl i c k _ => [tFld K (tVar i) (fN c k)]
def rdA (K : PySem.W.Frag) (fs : EnV) : Ars → TA
  | .nil => tNil
  | .nm i r => tCons (tVar i) (rdA K fs r)
  | .ex e r => tCons (rdE K fs e) (rdA K fs r)
  | .fl i c k r => tCons (tFld K (tVar i) (fN c k)) (rdA K fs r)
def rdI (K : PySem.W.Frag) (fs : EnV) : OIe → TO
  | .no => tNoPart
  | .so e => tPart (rdE K fs e)
def rdL (K : PySem.W.Frag) (fs : EnV) (o : BoolOp) : Ies → TE
  | .one e => rdE K fs e
  | .cons e r => match o with
    | .And => tAndT K (rdE K fs e) (rdL K fs o r)
    | .Or => tOrT K (rdE K fs e) (rdL K fs o r)
def rdT (K : PySem.W.Frag) (fs : EnV) : Te → TT
  | .b e => tTest (rdE K fs e)
  | .v e => tTru K (rdE K fs e)
  | .bo o ts => rdTL K fs o ts
  | .not a => tNot (rdT K fs a)
def rdTL (K : PySem.W.Frag) (fs : EnV) (o : BoolOp) : Tes → TT
  | .one t => rdT K fs t
  | .cons t r => match o with
    | .And => tAnd (rdT K fs t) (rdTL K fs o r)
    | .Or => tOr (rdT K fs t) (rdTL K fs o r)
def rdTs (K : PySem.W.Frag) (fs : EnV) : Ts → TT
  | .no => tYes
  | .so t => rdT K fs t
end
def cOk : PyData → Bool
  | .none => true
  | .bool _ => true
  | .int _ => true
  | .str _ => true
  | _ => false
section
variable {K : PySem.W.Frag} {fs : EnV}
theorem os_opA (o : Op) : OpSem K (rdg K fs o) (phi fs.toEn o) := by
  cases h : okOp o with
  | true =>
    cases o with
    | callK j ks perm => exact os_callK
    | _ => exact os_op0 _ h (fun _ _ _ z => by cases z)
  | false =>
    cases o with
    | bin o => cases o <;> first | exact os_none | cases h
    | cmp o => cases o <;> first | exact os_none | cases h
    | _ => cases h
def CsK (K : PySem.W.Frag) (cl : List Nat) : Prop := ∀ c, cl.contains c = true → ClsOk K c
def fOk (cl : List Nat) (c k : Nat) : Bool := cl.contains c && ((clsFlds c)[k]?).isSome
theorem fOk_ok {cl : List Nat} {c k : Nat} (hk : CsK K cl) (h : fOk cl c k = true) : ClsOk K c ∧ (clsFlds c)[k]? = some (fN c k) := by
  simp only [fOk, Bool.and_eq_true] at h
  refine ⟨hk c h.1, ?_⟩
  obtain ⟨f, hf⟩ := Option.isSome_iff_exists.mp h.2
  simp [fN, hf]
def wfG (cl : List Nat) : ItG → Bool
  | .seq _ c k => fOk cl c k
  | .enum _ c k => fOk cl c k
  | .zip _ c k j => fOk cl c k && fOk cl c j
  | .seqS _ => true
  | .zipS _ _ => true
theorem simG {cl : List Nat} (hk : CsK K cl) : ∀ g : ItG, wfG cl g = true → SimItG K (rdG K g) (evG g)
  | .seq i c k, h => by
    obtain ⟨a, b⟩ := fOk_ok hk h
    exact sig_seq a b
  | .enum i c k, h => by
    obtain ⟨a, b⟩ := fOk_ok hk h
    exact sig_enum a b
  | .zip i c k j, h => by
    simp only [wfG, Bool.and_eq_true] at h
    obtain ⟨a, b⟩ := fOk_ok hk h.1
    obtain ⟨_, d⟩ := fOk_ok hk h.2
    exact sig_zip a b d
  | .seqS i, _ => sig_seqS
  | .zipS i j, _ => sig_zipS
theorem id_it : ∀ k : ItK, ItD K (rIt K k) (itH k)
  | .seq => id_seq
  | .range1 => id_range1
  | .range2 => id_range2
  | .range3 => id_range3
  | .zip => id_zipM
  | .enum => id_enumA
  | .zip3 => id_zip3
  | .enumZ => id_enumZ
theorem st_yes : SimT K tYes (fun ρ => some (true, ρ)) := by
  intro σ ρ F G H hE ok b ρ' e Q k
  simp only [Option.some.injEq, Prod.mk.injEq] at e
  obtain ⟨rfl, rfl⟩ := e
  exact k F G H hE ok (Fr.refl ok)
mutual
def wfE (cl : List Nat) : Ie → Bool
  | .c d => cOk d
  | .op _ as => wfA cl as
  | .slN _ lo hi => wfI cl lo && wfI cl hi
  | .slE e lo hi => wfE cl e && wfI cl lo && wfI cl hi
  | .ife t a b => wfT cl t && wfE cl a && wfE cl b
  | .bv _ es => wfL cl es
  | .notv a => wfE cl a
  | .chain _ _ a b c => wfE cl a && wfE cl b && wfE cl c
  | .lc _ own _ as tg t e => allIn tg.slots own && wfA cl as && wfTs cl t && wfE cl e
  | .lc2 _ own own1 _ as tg t _ as1 tg1 t1 e => allIn tg.slots own && allIn tg1.slots own1 && allIn own1 own && wfA cl as && wfTs cl t && wfA cl as1 && wfTs cl t1 && wfE cl e
  | .lm _ _ as => wfA cl as
  | .fl _ c k => fOk cl c k
  | .mthF _ _ c k c2 m => fOk cl c k && !(clsFlds c2).contains m
  | .fl2 _ c k c2 k2 => fOk cl c k && fOk cl c2 k2
  | .selC _ e => wfE cl e
  | .told e => wfE cl e
  | .toldF _ as => wfA cl as
  | .chain3 _ _ _ a b c d => wfE cl a && wfE cl b && wfE cl c && wfE cl d
  | .lkE _ _ _ e => wfE cl e
  | .mth _ _ c m as => !(clsFlds c).contains m && wfA cl as
  | .mthE _ c m e as => !(clsFlds c).contains m && wfE cl e && wfA cl as
  | .mk _ _ as => wfA cl as
  | .lcG _ own g tg t e => allIn tg.slots own && wfG cl g && wfTs cl t && wfE cl e
  | .lmF _ c k _ as => fOk cl c k && wfA cl as
  | .dsel _ as k => wfA cl as && wfE cl k
  | .ix2e _ k1 _ => wfE cl k1
  | .lstD as => wfA cl as
  | _ => true
def wfA (cl : List Nat) : Ars → Bool
  | .nil => true
  | .nm _ r => wfA cl r
  | .ex e r => wfE cl e && wfA cl r
  | .fl _ c k r => fOk cl c k && wfA cl r
def wfI (cl : List Nat) : OIe → Bool
  | .no => true
  | .so e => wfE cl e
def wfL (cl : List Nat) : Ies → Bool
  | .one e => wfE cl e
  | .cons e r => wfE cl e && wfL cl r
def wfT (cl : List Nat) : Te → Bool
  | .b e => wfE cl e
  | .v e => wfE cl e
  | .bo _ ts => wfTL cl ts
  | .not a => wfT cl a
def wfTL (cl : List Nat) : Tes → Bool
  | .one t => wfT cl t
  | .cons t r => wfT cl t && wfTL cl r
def wfTs (cl : List Nat) : Ts → Bool
  | .no => true
  | .so t => wfT cl t
end
theorem cV_ok {d : PyData} (h : cOk d = true) : Dt K (fun _ => none) d (cV d) := by
  cases d <;> first | exact dtNone | exact dtBool | exact dtInt | exact dtStr | cases h
theorem allIn_ok {is js : List Nat} (h : allIn is js = true) : ∀ i ∈ is, i ∈ js := fun i hi => by
  have := List.all_eq_true.mp h i hi
  simpa using this
theorem os_lm : ∀ m : LM, OpSem K (rMt (lmR m)) (lmφ m)
  | .app => os_app
  | .pop => os_w ow_pop
  | .ins => os_w ow_ins
def CstOk (K : PySem.W.Frag) (fs : EnV) : Prop := ∀ j, Dt K (fun _ => none) (fs.c j) (fs.v j)
mutual
theorem simE (hc : CstOk K fs) {cl : List Nat} (hk : CsK K cl) : ∀ ir : Ie, wfE cl ir = true → Sim K (rdE K fs ir) (ev fs.toEn ir)
  | .c d, h => by
    simp only [wfE] at h
    simp only [rdE, ev]
    exact sim_c (cV_ok h)
  | .v i, _ => by simp only [rdE, ev]; exact sim_var
  | .g j, _ => by simp only [rdE, ev]; exact sim_c (hc j)
  | .op o as, h => by
    simp only [wfE] at h
    simp only [rdE, ev]
    exact sim_op (os_opA o) (simA hc hk as h)
  | .slN i lo hi, h => by
    simp only [wfE, Bool.and_eq_true] at h
    simp only [rdE, ev]
    exact sim_sl so_nm (simI hc hk lo h.1) (simI hc hk hi h.2)
  | .slE e lo hi, h => by
    simp only [wfE, Bool.and_eq_true] at h
    simp only [rdE, ev]
    exact sim_sl (so_ex (simE hc hk e h.1.1)) (simI hc hk lo h.1.2) (simI hc hk hi h.2)
  | .ife t a b, h => by
    simp only [wfE, Bool.and_eq_true] at h
    simp only [rdE, ev]
    exact sim_if (simT hc hk t h.1.1) (simE hc hk a h.1.2) (simE hc hk b h.2)
  | .bv o es, h => by
    simp only [wfE] at h
    simp only [rdE, ev]
    exact simL hc hk o es h
  | .notv a, h => by
    simp only [wfE] at h
    simp only [rdE, ev]
    exact sim_notV (simE hc hk a h)
  | .chain p q a b c, h => by
    simp only [wfE, Bool.and_eq_true] at h
    simp only [rdE, ev]
    cases cmpP p with
    | none => intro σ ρ F G H hE ok x ρ' e; cases e
    | some p' =>
      cases cmpP q with
      | none => intro σ ρ F G H hE ok x ρ' e; cases e
      | some q' => exact sim_chain (simE hc hk a h.1.1) (simE hc hk b h.1.2) (simE hc hk c h.2)
  | .lc dp own k as tg t e, h => by
    simp only [wfE, Bool.and_eq_true] at h
    simp only [rdE, ev]
    exact sim_lc (sit (id_it k) (simA hc hk as h.1.1.2)) (simTs hc hk t h.1.2) (simE hc hk e h.2) (allIn_ok h.1.1.1)
  | .lc2 dp own own1 k as tg t k1 as1 tg1 t1 e, h => by
    simp only [wfE, Bool.and_eq_true] at h
    obtain ⟨⟨⟨⟨⟨⟨⟨h1, h2⟩, h3⟩, h4⟩, h5⟩, h6⟩, h7⟩, h8⟩ := h
    simp only [rdE, ev]
    exact sim_lc2 (sit (id_it k) (simA hc hk as h4)) (simTs hc hk t h5) (sit (id_it k1) (simA hc hk as1 h6)) (simTs hc hk t1 h7) (simE hc hk e h8) (allIn_ok h1) (allIn_ok h2) (allIn_ok h3)
  | .lm i m as, h => by
    simp only [wfE] at h
    simp only [rdE, ev]
    exact sim_lm (os_lm m) (simA hc hk as h)
  | .fl i c k, h => by
    simp only [wfE] at h
    obtain ⟨a, b⟩ := fOk_ok hk h
    simp only [rdE, ev]
    exact sim_fl a b
  | .mthF j i c k c2 m, h => by
    simp only [wfE, Bool.and_eq_true, Bool.not_eq_true'] at h
    obtain ⟨a, b⟩ := fOk_ok hk h.1
    simp only [rdE, ev]
    exact sim_mthF a b fun z => by rw [List.contains_iff_mem.mpr z] at h; exact Bool.noConfusion h.2
  | .fl2 i c k c2 k2, h => by
    simp only [wfE, Bool.and_eq_true] at h
    obtain ⟨a, b⟩ := fOk_ok hk h.1
    obtain ⟨a2, b2⟩ := fOk_ok hk h.2
    simp only [rdE, ev]
    exact sim_fl2 a b a2 b2
  | .selC j e, h => by
    simp only [wfE] at h
    simp only [rdE, ev]
    exact sim_selC (simE hc hk e h)
  | .chain3 p q r a b c d, h => by
    simp only [wfE, Bool.and_eq_true] at h
    simp only [rdE, ev]
    cases cmpP p with
    | none => (intro σ ρ F G H hE ok x ρ' e; cases e)
    | some p' =>
      cases cmpP q with
      | none => (intro σ ρ F G H hE ok x ρ' e; cases e)
      | some q' =>
        cases cmpP r with
        | none => (intro σ ρ F G H hE ok x ρ' e; cases e)
        | some r' => exact sim_chain3 (simE hc hk a h.1.1.1) (simE hc hk b h.1.1.2) (simE hc hk c h.1.2) (simE hc hk d h.2)
  | .toldF j as, h => by
    simp only [wfE] at h
    simp only [rdE, ev]
    exact sim_toldX (simA hc hk as h)
  | .told e, h => by
    simp only [wfE] at h
    simp only [rdE, ev]
    exact sim_told (simE hc hk e h)
  | .lkE i c k e, h => by
    simp only [wfE] at h
    simp only [rdE, ev]
    exact sim_lock (simE hc hk e h)
  | .mth j i c m as, h => by
    simp only [wfE, Bool.and_eq_true, Bool.not_eq_true'] at h
    simp only [rdE, ev]
    exact sim_mth (fun z => by rw [List.contains_iff_mem.mpr z] at h; exact Bool.noConfusion h.1) (simA hc hk as h.2)
  | .mthE j c m e as, h => by
    simp only [wfE, Bool.and_eq_true, Bool.not_eq_true'] at h
    simp only [rdE, ev]
    exact sim_mthE (fun z => by rw [List.contains_iff_mem.mpr z] at h; exact Bool.noConfusion h.1.1) (simE hc hk e h.1.2) (simA hc hk as h.2)
  | .mk j c as, h => by
    simp only [wfE] at h
    simp only [rdE, ev]
    exact sim_mk (simA hc hk as h)
  | .lcG dp own g tg t e, h => by
    simp only [wfE, Bool.and_eq_true] at h
    simp only [rdE, ev]
    exact sim_lcG (simG hk g h.1.1.2) (simTs hc hk t h.1.2) (simE hc hk e h.2) (allIn_ok h.1.1.1)
  | .lmF i c k m as, h => by
    simp only [wfE, Bool.and_eq_true] at h
    obtain ⟨a, b⟩ := fOk_ok hk h.1
    simp only [rdE, ev]
    exact sim_lmF a b (os_lm m) (simA hc hk as h.2)
  | .mv i, _ => by simp only [rdE, ev]; exact sim_mov
  | .ix2 i j k, _ => by
    simp only [rdE, ev]
    exact sim_op os_ix2 (sa_nm (i := i) (sa_nm (i := j) (sa_nm (i := k) sa_nil)))
  | .dnew, _ => by simp only [rdE, ev]; exact sim_dnew
  | .dsel ks as k, h => by
    simp only [wfE, Bool.and_eq_true] at h
    simp only [rdE, ev]
    exact sim_sel (simDs hc hk as h.1) (simE hc hk k h.2)
  | .ix2e i k1 k2, h => by
    simp only [wfE] at h
    simp only [rdE, ev]
    exact sim_ix2e (simE hc hk k1 h)
  | .lstD as, h => by
    simp only [wfE] at h
    simp only [rdE, ev]
    exact sim_lstD (simA hc hk as h)
theorem simDs (hc : CstOk K fs) {cl : List Nat} (hk : CsK K cl) : ∀ as : Ars, wfA cl as = true → F2x (Sim K) (rdDs K fs as) (evDs fs.toEn as)
  | .nil, _ => by simp only [rdDs, evDs]; exact .nil
  | .nm i r, h => by
    simp only [wfA] at h
    simp only [rdDs, evDs]
    exact .cons sim_var (simDs hc hk r h)
  | .ex e r, h => by
    simp only [wfA, Bool.and_eq_true] at h
    simp only [rdDs, evDs]
    exact .cons (simE hc hk e h.1) (simDs hc hk r h.2)
  | .fl i c k r, h => by
    simp only [rdDs, evDs]
    exact .cons (fun σ ρ F G H hE ok x ρ' e => by cases e) .nil
theorem simA (hc : CstOk K fs) {cl : List Nat} (hk : CsK K cl) : ∀ as : Ars, wfA cl as = true → SimA K (rdA K fs as) (evA fs.toEn as)
  | .nil, _ => by simp only [rdA, evA]; exact sa_nil
  | .nm i r, h => by
    simp only [wfA] at h
    simp only [rdA, evA]
    exact sa_nm (simA hc hk r h)
  | .ex e r, h => by
    simp only [wfA, Bool.and_eq_true] at h
    simp only [rdA, evA]
    exact sa_ex (simE hc hk e h.1) (simA hc hk r h.2)
  | .fl i c k r, h => by
    simp only [wfA, Bool.and_eq_true] at h
    obtain ⟨a, b⟩ := fOk_ok hk h.1
    simp only [rdA, evA]
    exact sa_fl a b (simA hc hk r h.2)
theorem simI (hc : CstOk K fs) {cl : List Nat} (hk : CsK K cl) : ∀ o : OIe, wfI cl o = true → SimI K (rdI K fs o) (evI fs.toEn o)
  | .no, _ => by simp only [rdI, evI]; exact si_no
  | .so e, h => by
    simp only [wfI] at h
    simp only [rdI, evI]
    exact si_so (simE hc hk e h)
theorem simL (hc : CstOk K fs) {cl : List Nat} (hk : CsK K cl) (o : BoolOp) : ∀ es : Ies, wfL cl es = true → Sim K (rdL K fs o es) (evL fs.toEn o es)
  | .one e, h => by
    simp only [wfL] at h
    simp only [rdL, evL]
    exact simE hc hk e h
  | .cons e r, h => by
    simp only [wfL, Bool.and_eq_true] at h
    simp only [rdL, evL]
    cases o with
    | And => exact sim_andV (simE hc hk e h.1) (simL hc hk .And r h.2)
    | Or => exact sim_orV (simE hc hk e h.1) (simL hc hk .Or r h.2)
theorem simT (hc : CstOk K fs) {cl : List Nat} (hk : CsK K cl) : ∀ t : Te, wfT cl t = true → SimT K (rdT K fs t) (evT fs.toEn t)
  | .b e, h => by
    simp only [wfT] at h
    simp only [rdT, evT]
    exact st_bl (simE hc hk e h)
  | .v e, h => by
    simp only [wfT] at h
    simp only [rdT, evT]
    exact st_tru (simE hc hk e h)
  | .bo o ts, h => by
    simp only [wfT] at h
    simp only [rdT, evT]
    exact simTL hc hk o ts h
  | .not a, h => by
    simp only [wfT] at h
    simp only [rdT, evT]
    exact st_not (simT hc hk a h)
theorem simTL (hc : CstOk K fs) {cl : List Nat} (hk : CsK K cl) (o : BoolOp) : ∀ es : Tes, wfTL cl es = true → SimT K (rdTL K fs o es) (evTL fs.toEn o es)
  | .one e, h => by
    simp only [wfTL] at h
    simp only [rdTL, evTL]
    exact simT hc hk e h
  | .cons e r, h => by
    simp only [wfTL, Bool.and_eq_true] at h
    simp only [rdTL, evTL]
    cases o with
    | And => exact st_and (simT hc hk e h.1) (simTL hc hk .And r h.2)
    | Or => exact st_or (simT hc hk e h.1) (simTL hc hk .Or r h.2)
theorem simTs (hc : CstOk K fs) {cl : List Nat} (hk : CsK K cl) : ∀ t : Ts, wfTs cl t = true → SimT K (rdTs K fs t) (evTs fs.toEn t)
  | .no, _ => by simp only [rdTs, evTs]; exact st_yes
  | .so t, h => by
    simp only [wfTs] at h
    simp only [rdTs, evTs]
    exact simT hc hk t h
end
end
section
variable {fs : EnV}
theorem blk_own {C : Cfg} {scope : Scope} {own : List Nat} (h : C.blkOk scope own = true) : BlkOk C.N C.sc scope (ownOf C.N own) ∧ (ownOf C.N own).map (·.2) = own := by
  simp only [Cfg.blkOk, Bool.and_eq_true, decide_eq_true_eq] at h
  exact ⟨blkOk_by h.1, h.2⟩
theorem XOk.blk {X : Cx} {C : Cfg} (ok : XOk X C fs) {scope : Scope} {own : List Nat} (h : C.blkOk scope own = true) (s : Shared) (H : Hp) (A : Addr) (cl : List (Str × Addr)) (fp : List Addr) :
    XOk (X.blk s H scope (compEnvC scope cl A X.env) fp) (C.blk scope) fs where
  N := ok.N
  nd := ok.nd
  sc := by
    show relabel scope X.env = relS scope C.sc
    rw [← ok.sc]; rfl
  kind := (blk_own h).1.kind
  calm := ok.calm
  fn := fun x h => (Bool.and_eq_true_iff.mp h).1
  xe := rfl
  units := ok.units
  free := ok.free
  cst := ok.cst
  fns := ok.fns
  cls := ok.cls
  dst := ok.dst
  gd := ok.gd
  lam := fun h => by
    have z := (Bool.and_eq_true_iff.mp (Bool.and_eq_true_iff.mp h).2).2
    cases z
  lamX := fun h => by
    have z := (Bool.and_eq_true_iff.mp (Bool.and_eq_true_iff.mp h).2).2
    cases z
theorem vis_ok {X : Cx} {C : Cfg} (ok : XOk X C fs) {i : Nat} {x : Str} {p : Pos} (h : C.vis i x = true) : PE X (.Name x p) (tVar i) := by
  simp only [Cfg.vis, Bool.and_eq_true, decide_eq_true_eq, Bool.not_eq_true'] at h
  obtain ⟨⟨⟨h1, h2⟩, h3⟩, h4⟩ := h
  refine pe_var (by rw [ok.N]; exact h1) ?_ h2 h3
  show X.env.scope.names.lookup x = some .local ∨ X.env.scope.names.lookup x = some .cell ∨ X.env.scope.names.lookup x = some .free
  rw [ok.sc]
  split at h4 <;> first | exact .inl (by assumption) | exact .inr (.inl (by assumption)) | exact .inr (.inr (by assumption)) | cases h4
theorem loc_ok {X : Cx} {C : Cfg} (ok : XOk X C fs) {i : Nat} {x : Str} (h : C.loc i x = true) : X.N[i]? = some x ∧ L2.Loc X.env.scope x ∧ (X.fn x = true ∨ X.env.scope.names.lookup x = some .local) := by
  simp only [Cfg.loc, Bool.and_eq_true, decide_eq_true_eq] at h
  obtain ⟨h1, h2⟩ := h
  refine ⟨by rw [ok.N]; exact h1, ?_⟩
  unfold L2.Loc
  rw [ok.sc]
  split at h2
  · rename_i q
    exact ⟨.inl q, .inr q⟩
  · rename_i q
    exact ⟨.inr q, .inl (ok.fn x h2)⟩
  · cases h2
theorem assign_plain {e : Expr} {es : List Expr} {env : Env} (h : plain e = true) : assignEach (e :: es) env = (false, assign e env) :: assignEach es env := by
  cases e <;> first | rfl | cases h
theorem pg_tl {X : Cx} {es : List Expr} {k n : Nat} {t : TGs} {pos : Pos} (hc : X.calm = true) (h : PGs X es t) (hn : (assignEach es X.env).length = n) (hst : (assignEach es X.env).findIdx? (·.1) = none) : PG X (.Tuple es k pos) (gTL X.K n t) :=
  ⟨fun pins s σ H v u Q I r hw => hw.elim (fun z => (pg_tup hc h hn hst).run pins s σ H v u Q I r z) fun z => (pg_lst hc h hn hst).run pins s σ H v u Q I r z⟩
mutual
theorem pgT {X : Cx} {C : Cfg} (ok : XOk X C fs) : ∀ (tg : Tg) (e : Expr), chkTg C tg e = true → PG X e (gOf X.K tg)
  | .nm i, e, h => by
    cases e with
    | Name x p =>
      simp only [chkTg] at h
      obtain ⟨a, b, c⟩ := loc_ok ok h
      simp only [gOf]
      exact pg_name (by rw [ok.N]; exact ok.nd) a b c
    | _ => cases h
  | .tp ts, e, h => by
    cases e with
    | Tuple es k p =>
      simp only [chkTg] at h
      obtain ⟨a, b, c⟩ := pgTs ok ts es h
      simp only [gOf]
      exact pg_tl ok.calm a b c
    | _ => cases h
theorem pgTs {X : Cx} {C : Cfg} (ok : XOk X C fs) : ∀ (ts : Tgs) (es : List Expr), chkTgs C ts es = true → PGs X es (gsOf X.K ts) ∧ (assignEach es X.env).length = ts.len ∧ (assignEach es X.env).findIdx? (·.1) = none
  | .nil, es, h => by
    cases es with
    | nil => simp only [gsOf]; exact ⟨pgs_nil, rfl, rfl⟩
    | cons _ _ => cases h
  | .cons t ts, es, h => by
    cases es with
    | nil => cases h
    | cons e r =>
      simp only [chkTgs, Bool.and_eq_true] at h
      obtain ⟨a, b, c⟩ := pgTs ok ts r h.2
      have h1 := pgT ok t e h.1.2
      simp only [gsOf]
      have e0 := assign_plain (es := r) (env := X.env) h.1.1
      refine ⟨pgs_cons h1 a (by rw [e0]; rfl), by rw [e0, List.length_cons, b]; rfl, ?_⟩
      rw [e0, List.findIdx?_cons]
      simp only [Bool.false_eq_true, if_false]
      rw [c]; rfl
end
theorem it_pi {X : Cx} {C : Cfg} (ok : XOk X C fs) {k : ItK} {tg e : Expr} {es : List Expr} {ta : TA} (h : itArgs C k tg e = some es) (ha : APE X es ta) : PI X tg e (tI (rIt X.K k) ta) := by
  unfold itArgs at h
  split at h
  · split at h
    · cases h
    · cases h
      obtain ⟨t, rfl, h1⟩ := ape1 ha
      exact pi_seqA h1
  · split at h
    · rename_i hc
      simp only [Bool.and_eq_true, beq_iff_eq] at hc
      obtain ⟨rfl, hb⟩ := hc
      cases h
      obtain ⟨g, m, d, n⟩ := ok.bl hb
      have he := ha.he
      exact pi_range1 g m ha.pa (by rw [he]; rfl)
    · cases h
  · split at h
    · rename_i hc
      simp only [Bool.and_eq_true, beq_iff_eq] at hc
      obtain ⟨rfl, hb⟩ := hc
      cases h
      obtain ⟨g, m, d, n⟩ := ok.bl hb
      have he := ha.he
      cases ha with
      | cons h1 p1 r =>
        have he2 := r.he
        exact pi_range2 g m (pa_cons h1 r.pa he) (by rw [he, he2]; rfl) he2
    · cases h
  · split at h
    · rename_i hc
      simp only [Bool.and_eq_true, beq_iff_eq] at hc
      obtain ⟨rfl, hb⟩ := hc
      cases h
      obtain ⟨g, m, d, n⟩ := ok.bl hb
      exact pi_range3 g m ha.pa ha.he ha.hpl
    · cases h
  · split at h
    · rename_i hc
      simp only [Bool.and_eq_true, beq_iff_eq] at hc
      obtain ⟨rfl, hb⟩ := hc
      cases h
      obtain ⟨g, m, d, n⟩ := ok.bl hb
      exact pi_zipM g m ha.pa ha.he ha.hpl
    · cases h
  · split at h
    · rename_i hc
      simp only [Bool.and_eq_true, beq_iff_eq] at hc
      obtain ⟨rfl, hb⟩ := hc
      cases h
      obtain ⟨g, m, d, n⟩ := ok.bl hb
      have he := ha.he
      exact pi_enumA g m ha.pa (by rw [he]; rfl)
    · cases h
  · split at h
    · rename_i hc
      simp only [Bool.and_eq_true, beq_iff_eq] at hc
      obtain ⟨rfl, hb⟩ := hc
      cases h
      obtain ⟨g, m, d, n⟩ := ok.bl hb
      exact pi_zip3 g m ha.pa ha.he ha.hpl
    · cases h
  · split at h
    · rename_i hc
      simp only [Bool.and_eq_true, beq_iff_eq] at hc
      obtain ⟨⟨⟨rfl, hb⟩, rfl⟩, hb2⟩ := hc
      cases h
      obtain ⟨g, m, _, _⟩ := ok.bl hb
      obtain ⟨g2, m2, _, _⟩ := ok.bl hb2
      exact pi_enumZ g m g2 m2 ha.pa ha.he ha.hpl
    · cases h
  · cases h
theorem folded_ok {e : Expr} (h : isSet e = false) : ∀ env x, foldedSetIterable e env x = pure x := by
  intro env x
  cases e <;> first | rfl | cases h
theorem cmpP_or {X : Cx} {o : CmpOp} {p : Int → Int → Bool} (h : cmpP o = some p) : OpR X (compareOp o) (rI0 fun i j => .bl (p i j)) := by
  cases o <;> cases h
  · exact op_lt
  · exact op_le
  · exact op_gt
  · exact op_ge
theorem const_pe {X : Cx} {d : PyData} {c : Const} {j : Nat} {p : Pos} (h : constIs d c = true) : PE X (.Constant c j p) (tC (cV d)) := by
  cases d <;> cases c <;> first | cases h | skip
  · exact pe_non
  · simp only [constIs, beq_iff_eq] at h; subst h; exact pe_bl
  · simp only [constIs, beq_iff_eq] at h; subst h; exact pe_int
  · simp only [constIs, beq_iff_eq] at h; subst h; exact pe_str
end
end MP
namespace MP
open PySem L2
variable [LamT]
section
variable {fs : EnV}
theorem pt_isN' {X : Cx} {a : Expr} {ta : TE} {n : Bool} {j : Nat} {pos' pos : Pos} (h : PE X a ta) : PT X (.Compare a [isOp n] [.Constant .none j pos'] pos) (tTest (tN (r1 (rIsN n)) (tCons ta tNil))) := by
  cases n with
  | false => exact pt_cmp (pc_isN h)
  | true => exact pt_cmp (pc_notN h)
theorem op_pt {X : Cx} {C : Cfg} (ok : XOk X C fs) {o : Op} {a : Expr} {ops : List CmpOp} {cs : List Expr} {pos : Pos} {es : List Expr} {ta : TA} (hok : okOp o = true) (h : opArgs C o (.Compare a ops cs pos) = some es) (ha : APE X es ta) :
    PT X (.Compare a ops cs pos) (tTest (tN (rdg X.K fs o) ta)) := by
  have hu0 : X.A.units < cLine := by have := ok.units; omega
  cases o with
  | cmp o =>
    unfold opArgs at h
    split at h
    all_goals first | (rename_i q1 q2; cases q1; done) | (rename_i q1 q2; cases q2; done) | skip
    · rename_i o1 a1 o2 b p1 q1 q2
      cases q1
      cases q2
      split at h
      · rename_i hc
        simp only [Bool.and_eq_true, decide_eq_true_eq, Bool.not_eq_true'] at hc
        obtain ⟨rfl, hs⟩ := hc
        cases h
        obtain ⟨t, u, rfl, h1, h2⟩ := ape2 ha
        cases o with
        | Eq => exact pt_cmpR (op_eqD (by have := ok.units; omega)) h1 h2 (nomark' hs)
        | NotEq => exact pt_cmpR (op_neD (by have := ok.units; omega)) h1 h2 (nomark' hs)
        | In => exact pt_cmpR (op_inA (by have := ok.units; omega)) h1 h2 (nomark' hs)
        | NotIn => exact pt_cmpR (op_notInA (by have := ok.units; omega)) h1 h2 (nomark' hs)
        | Lt => exact pt_cmpR (op_ltA hu0) h1 h2 (nomark' hs)
        | LtE => exact pt_cmpR (op_leA hu0) h1 h2 (nomark' hs)
        | Gt => exact pt_cmpR op_gt h1 h2 (nomark' hs)
        | GtE => exact pt_cmpR op_ge h1 h2 (nomark' hs)
        | _ => cases hok
      · cases h
    all_goals cases h
  | isN n =>
    unfold opArgs at h
    split at h
    all_goals first | (rename_i q1 q2; cases q1; done) | (rename_i q1 q2; cases q2; done) | skip
    · rename_i o1 a1 o2 b p1 p2 q1 q2
      cases q1
      cases q2
      split at h
      · rename_i hc
        subst hc
        cases h
        obtain ⟨t, rfl, h1⟩ := ape1 ha
        exact pt_isN' h1
      · cases h
    all_goals cases h
  | isB n =>
    unfold opArgs at h
    split at h
    all_goals first | (rename_i q1 q2; cases q1; done) | (rename_i q1 q2; cases q2; done) | skip
    · rename_i o1 a1 o2 b p1 q1 q2
      cases q1
      cases q2
      split at h
      · rename_i hc
        subst hc
        cases h
        obtain ⟨t, u, rfl, h1, h2⟩ := ape2 ha
        cases n with
        | false => exact pt_cmpR op_isBf h1 h2 (nomark _)
        | true => exact pt_cmpR op_isBt h1 h2 (nomark _)
      · cases h
    all_goals cases h
  | _ => cases h
theorem isTrue_plainT {a : Expr} {env : Env} (h : plainT a = true) (whole : Sem Value) : isTrue a env whole = (do let v ← whole; standAt a.pos; holding [v] (truthy v)) := by
  cases a with
  | UnaryOp o x p => cases o <;> first | rfl | cases h
  | BoolOp _ _ _ => cases h
  | IfExp _ _ _ _ => cases h
  | Compare _ _ _ _ => cases h
  | _ => rfl
theorem pe_lmX {X : Cx} {m : LM} {f : Str} {oe : Expr} {ap cp : Pos} {e : Expr} {es : List Expr} {ta : TA} {t : TE} (ho : PE X oe t) (hbs : ∀ nm, attributeBase oe nm X.env (eval oe X.env) = eval oe X.env) (ha : APE X (e :: es) ta) (hl : (ap.endLine == cp.line) = true)
    (hf : (match m with
      | .app => f == ("append" : Str) && decide ((e :: es).length = 1)
      | .pop => f == ("pop" : Str) && decide ((e :: es).length = 1)
      | .ins => f == ("insert" : Str) && decide ((e :: es).length = 2)) = true) : PE X (.Call (.Attribute oe f ap) (e :: es) [] cp) (tBM X.K "list" (lmR m) t ta) := by
  cases m with
  | app =>
    simp only [Bool.and_eq_true, beq_iff_eq, decide_eq_true_eq] at hf
    obtain ⟨rfl, hf⟩ := hf
    have e0 : es = [] := by cases es with
      | nil => rfl
      | cons _ _ => simp at hf
    subst e0
    exact pe_bm PySem.F.plainAttrs_list PySem.F.slot_list_append PySem.F.type_list_append mt_append ho ha.pa (hbs _) (by rw [ha.he]; rfl) hl ha.he ha.hpl
  | pop =>
    simp only [Bool.and_eq_true, beq_iff_eq, decide_eq_true_eq] at hf
    obtain ⟨rfl, hf⟩ := hf
    have e0 : es = [] := by cases es with
      | nil => rfl
      | cons _ _ => simp at hf
    subst e0
    exact pe_bm PySem.F.plainAttrs_list PySem.F.slot_list_pop PySem.F.type_list_pop mt_popAt ho ha.pa (hbs _) (by rw [ha.he]; rfl) hl ha.he ha.hpl
  | ins =>
    simp only [Bool.and_eq_true, beq_iff_eq, decide_eq_true_eq] at hf
    obtain ⟨rfl, hf⟩ := hf
    obtain ⟨e2, rfl⟩ : ∃ e2, es = [e2] := by
      cases es with
      | nil => simp at hf
      | cons a r =>
        cases r with
        | nil => exact ⟨a, rfl⟩
        | cons _ _ => simp at hf
    cases ha with
    | cons h1 p1 r =>
      have h2 := r.he
      have h3 := star_plain (es := [e2]) (env := X.env) p1
      exact pe_bm PySem.F.plainAttrs_list PySem.F.slot_list_insert PySem.F.type_list_insert mt_insert ho (pa_cons h1 r.pa h3) (hbs _) (by rw [h3, h2]; rfl) hl h3 r.any
theorem fld_ok {X : Cx} {C : Cfg} (ok : XOk X C fs) {i c k : Nat} {e : Expr} (h : C.fld i c k e = true) : PE X e (tFld X.K (tVar i) (fN c k)) ∧ plain e = true ∧ (∀ nm, attributeBase e nm X.env (eval e X.env) = eval e X.env) := by
  unfold Cfg.fld at h
  split at h
  · simp only [Bool.and_eq_true, decide_eq_true_eq] at h
    obtain ⟨⟨h1, h2⟩, h3⟩ := h
    rename_i x px f fp
    have hf : fN c k = f := by simp only [fN, h2, Option.getD_some]
    rw [hf]
    exact ⟨pe_fld (vis_ok ok h1) rfl, rfl, fun _ => rfl⟩
  · cases h
theorem call_form {X : Cx} : ∀ {es : List Expr} {ta : TA} {pos : Pos}, APE X es ta → es.length < 20 → methodCallForm (es.length + ([] : List Keyword).length) (backTo pos (starEach es X.env)) (backToKw pos (keywordEach [] X.env)) = true := by
  intro es ta pos ha hl
  have h1 := ha.any (pos := pos)
  unfold methodCallForm
  have h2 : (backTo pos (starEach es X.env)).all (fun x => !x.1) = true := by
    rw [List.all_eq_not_any_not]
    simp only [Bool.not_not]
    rw [h1]
    rfl
  have h3 : decide (es.length + ([] : List Keyword).length + (if (backToKw pos (keywordEach [] X.env)).isEmpty then 0 else 1) < 30) = true := by
    refine decide_eq_true ?_
    simp only [List.length_nil]
    split <;> omega
  first
    | (rw [h2, h3]; rfl)
    | (simp only [h2, Bool.true_and]; exact h3)
    | simp_all
theorem meth_eq {env : Env} {o : Expr} {m : Str} {apos pos : Pos} {es : List Expr} (hb : attributeBase o m env (eval o env) = eval o env) (hf : methodCallForm (es.length + ([] : List Keyword).length) (backTo pos (starEach es env)) (backToKw pos (keywordEach [] env)) = true) (hl : (apos.endLine == pos.line) = true) :
    eval (.Call (.Attribute o m apos) es [] pos) env = (do
      let ov ← eval o env
      standAt apos.atName
      let (f, first) ← holding [ov] (getMethod ov m (plainOf o env))
      callWith pos f first (backTo pos (starEach es env)) (backToKw pos (keywordEach [] env))) := by
  rw [arm_eval_Call, hb]
  congr 1
  funext ov
  congr 1
  funext _
  exact mcall_line hf hl
theorem pe_mthX {X : Cx} {C : Cfg} (ok : XOk X C fs) {j c : Nat} {m : Str} {oe : Expr} {t : TE} {ap cp : Pos} {es : List Expr} {ta : TA} (ho : PE X oe t) (hbs : attributeBase oe m X.env (eval oe X.env) = eval oe X.env) (hm : C.mth j c m = true) (ha : APE X es ta) (hn : es.length < 20) (hl : (ap.endLine == cp.line) = true) :
    PE X (.Call (.Attribute oe m ap) es [] cp) (tMeth (He.ga X.K (clsName c)) m (spOf X.K (fs.f j)) [] E0 t ta) := by
  simp only [Cfg.mth, Bool.and_eq_true, Bool.not_eq_true', beq_eq_false_iff_ne] at hm
  obtain ⟨⟨⟨h1, h2⟩, h3⟩, h4⟩ := hm
  split at h4
  · rename_i ft hj
    simp only [Bool.and_eq_true, decide_eq_true_eq, beq_iff_eq] at h4
    obtain ⟨h5, rfl⟩ := h4
    obtain ⟨f, fd, k, hr, hat, hb, hkb, hF⟩ := ok.fns j ft hj
    have hM := (hat.2 c h5).1 h3
    have hr := hr.mono (Nat.le_succ k)
    cases es with
    | nil =>
      cases ha
      exact pe_meth0 ho (ok.cls c h1).cl hM hF hr hb .nil pass0 (meth_eq hbs (call_form .nil hn) hl)
    | cons e es => exact pe_meth ho (ok.cls c h1).cl hM hF hr hb .nil pass0 ha.pa ha.he ha.hpl (meth_eq hbs (call_form ha hn) hl)
  · cases h4
theorem pe_mkX {X : Cx} {C : Cfg} (ok : XOk X C fs) {j c : Nat} {x : Str} {px pos : Pos} {e : Expr} {es : List Expr} {ta : TA} (hm : C.mkr j c x = true) (ha : APE X (e :: es) ta) :
    PE X (.Call (.Name x px) (e :: es) [] pos) (tMake (He.ga X.K (clsName c)) (spOf X.K (fs.f j)) [] E0 ta) := by
  simp only [Cfg.mkr, Bool.and_eq_true, beq_iff_eq] at hm
  obtain ⟨⟨⟨h1, rfl⟩, h3⟩, h4⟩ := hm
  split at h4
  · rename_i ft hj
    simp only [Bool.and_eq_true, decide_eq_true_eq, beq_iff_eq] at h4
    obtain ⟨h5, h6⟩ := h4
    obtain ⟨f, fd, k, hr, hat, hb, hkb, hF⟩ := ok.fns j ft hj
    obtain ⟨hM, hg⟩ := (hat.2 c h5).2 h6
    obtain ⟨gl, hd, hn⟩ := ok.gl h3
    exact pe_make hM hF hr gl hg hb .nil pass0 ha.pa hd ha.he ha.hpl
  · cases h4
theorem g_pi {X : Cx} {C : Cfg} (ok : XOk X C fs) {tg e : Expr} : ∀ {g : ItG}, chkG C g tg e = true → PI X tg e (rdG X.K g)
  | .seq i c k, h => by
    simp only [chkG] at h
    exact pi_seqA (fld_ok ok h).1
  | .enum i c k, h => by
    simp only [chkG] at h
    split at h
    · simp only [Bool.and_eq_true, beq_iff_eq] at h
      obtain ⟨⟨rfl, hb⟩, hf⟩ := h
      obtain ⟨g, m, d, n⟩ := ok.bl hb
      obtain ⟨a, b, _⟩ := fld_ok ok hf
      have ap : APE X _ _ := .cons a b .nil
      have he := ap.he
      exact pi_enum g m ap.pa (by rw [he]; rfl)
    · cases h
  | .zip i c k j, h => by
    simp only [chkG] at h
    split at h
    · simp only [Bool.and_eq_true, beq_iff_eq] at h
      obtain ⟨⟨⟨rfl, hb⟩, hf⟩, hf2⟩ := h
      obtain ⟨g, m, d, n⟩ := ok.bl hb
      obtain ⟨a, b, _⟩ := fld_ok ok hf
      obtain ⟨a2, b2, _⟩ := fld_ok ok hf2
      have ap : APE X _ _ := .cons a b (.cons a2 b2 .nil)
      exact RZ.pi_zipA g m ap.pa ap.he ap.hpl
    · cases h
  | .seqS i, h => by
    simp only [chkG] at h
    split at h
    · exact pi_seqA (vis_ok ok h)
    · cases h
  | .zipS i j, h => by
    simp only [chkG] at h
    split at h
    · simp only [Bool.and_eq_true, beq_iff_eq] at h
      obtain ⟨⟨⟨rfl, hb⟩, hf⟩, hf2⟩ := h
      obtain ⟨g, m, d, n⟩ := ok.bl hb
      refine RZ.pi_zipA g m (APE.pa ?ap) (APE.he ?ap) (APE.hpl ?ap)
      exact .cons (vis_ok ok hf) rfl (.cons (vis_ok ok hf2) rfl .nil)
    · cases h
theorem kx_pe {X : Cx} {C : Cfg} (ok : XOk X C fs) {k : Kx} {e : Expr} (h : chkK C k e = true) : PE X e (tKx k) := by
  unfold chkK at h
  split at h
  · exact vis_ok ok h
  · have h' : _ = _ := eq_of_beq h
    subst h'
    exact pe_int
  · cases h
theorem lam_xok {X : Cx} {C : Cfg} (ok : XOk X C fs) {k : Nat} {scope : Scope} (L : LamX.LamS X.env.scope scope) (hfn : ∀ (j : Nat) ft, C.fns[j]? = some ft → ∃ f fd, FnAt X.K X.mg ft f ∧ Binds X.K fd ft.ps [] ∧ (∀ p ∈ ft.kws, KB X.K fd ft.ps p.1 p.2) ∧ FnOk X.prog X.w X.K X.mg X.base CX0 k f fd ft.ps (spOf X.K (fs.f j)))
    (A : Around) (outer : List Env) (s : Shared) (H : Hp) (E : XK) (f c' : Addr) (hr : Room (k + 1) (A.deeper (LamX.lamEnv X scope s.heap.objs.size f c'))) : XOk (LamX.lamCx X A outer s H E scope f c').nox (C.lamC scope) fs where
  N := ok.N
  nd := ok.nd
  sc := rfl
  kind := L.kind
  calm := rfl
  fn := fun x h => by
    have z : (fun _ : Str => false) x = true := h
    cases z
  xe := rfl
  units := by
    have := hr.un
    show (A.deeper _).units + 66 < cLine
    omega
  free := fun x h => ok.free x (by
    rw [List.contains_iff_mem] at h ⊢
    exact (List.mem_filter.mp h).1)
  cst := ok.cst
  fns := fun j ft hj => by
    obtain ⟨f2, fd, a1, a2, a3, a4⟩ := hfn j ft hj
    exact ⟨f2, fd, k, hr, a1, a2, a3, a4⟩
  cls := ok.cls
  dst := ok.dst
  gd := fun h => by
    have h : (C.free.filter fun y => !(y == ("str()" : Str))).contains ("str()" : Str) = true := h
    rw [List.contains_iff_mem] at h
    have z := (List.mem_filter.mp h).2
    simp at z
  lam := fun h => by
    have z := (Bool.and_eq_true_iff.mp h).2
    cases z
  lamX := fun h => by
    have z := (Bool.and_eq_true_iff.mp h).2
    cases z
theorem pe_told {X : Cx} {C : Cfg} (ok : XOk X C fs) {body : Expr} {scope : Scope} {p lpos pos : Pos} {te : TE} (h2 : C.glob "_law_told" = true) (h3 : (C.free.contains ("lambda()" : Str) && C.fn ("lambda()" : Str)) = true) (h4 : LamX.lamSB C.sc scope = true)
    (hb : ∀ (A : Around) (outer : List Env) (s : Shared) (H : Hp) (E : XK) (f c' : Addr), XOk (LamX.lamCx X A outer s H E scope f c').nox (C.lamC scope) fs → PE (LamX.lamCx X A outer s H E scope f c').nox body te) :
    PE X (.Call (.Name "_law_told" p) [.Lambda ⟨[], [], none, [], [], none, []⟩ body scope lpos] [] pos) (tTold te) := by
  obtain ⟨k, g, c, P, oc, od, pg, bg, sg, dV, kV, doc, pm, cdv, ct, an, osl, Ng, hr, hm, hk, lk, hcg, hbd, Sg, hN0, hva, hG, TB, hcode, hmT, hu, hfn⟩ := (ok.lam h3).ex
  have L : LamX.LamS X.env.scope scope := LamX.lamS_by (by rw [ok.sc]; exact h4)
  obtain ⟨gl, _, _⟩ := ok.gl h2
  exact LamX.pe_lamcall (k := k + 1) (T := LamT.T) (TT := TTold) (a := "deed") (t := fun _ => te) gl hm hk lk hcg hbd Sg hN0 hva hG TB hcode hmT hu hr L rfl (fun q cl pm cv ctv => rfl) fun A outer s H E f c' hr2 => PE.nox (hb A outer s H E f c' (lam_xok ok L hfn A outer s H E f c' hr2))
theorem pe_toldX {X : Cx} {C : Cfg} (ok : XOk X C fs) {j : Nat} {y : Str} {a0 : Expr} {es : List Expr} {scope : Scope} {p lpos pos q cp : Pos} {ta : TA} (h2 : C.glob "_law_told" = true) (h3 : (C.free.contains ("lamX()" : Str) && C.fn ("lambda()" : Str)) = true) (h4 : LamX.lamSB C.sc scope = true)
    (h5 : (match C.xfns[j]? with
      | some f => f.name == y && f.cls.isNone
      | none => false) = true) (h6 : (C.lamC scope).glob y = true)
    (hb : ∀ (A : Around) (outer : List Env) (s : Shared) (H : Hp) (E : XK) (f c' : Addr), XOk (LamX.lamCx X A outer s H E scope f c').nox (C.lamC scope) fs → APE (LamX.lamCx X A outer s H E scope f c').nox (a0 :: es) ta) :
    PE X (.Call (.Name "_law_told" p) [.Lambda ⟨[], [], none, [], [], none, []⟩ (.Call (.Name y q) (a0 :: es) [] cp) scope lpos] [] pos) (tToldX X.K fs.rt (fs.x j) ta) := by
  obtain ⟨k, g, c, P, oc, od, pg, bg, sg, dV, kV, doc, pm, cdv, ct, an, osl, Ng, hr, hm, hk, lk, hcg, hbd, Sg, hN0, hva, hG, TB, hcode, hmT, hu, hfn, hxf⟩ := (ok.lamX h3).ex
  have L : LamX.LamS X.env.scope scope := LamX.lamS_by (by rw [ok.sc]; exact h4)
  obtain ⟨gl, _, _⟩ := ok.gl h2
  cases hj : C.xfns[j]? with
  | none => rw [hj] at h5; cases h5
  | some ft =>
    rw [hj] at h5
    simp only [Bool.and_eq_true, beq_iff_eq, Option.isNone_iff_eq_none] at h5
    obtain ⟨rfl, hc0⟩ := h5
    obtain ⟨fx, fdx, hat, hbx, hFx⟩ := hxf j ft hj
    obtain ⟨hmx, hkx⟩ := hat.1 hc0
    refine MPH.pe_lamcallN (k := k + 1) (T := LamT.T) (TT := TTd X.K fs.rt) (a := "deed") (t := fun E => tCallS (spOfX X.K (fs.x j)) (fun _ => E) ta) gl hm hk lk hcg hbd Sg hN0 hva hG TB hcode hmT hu hr L rfl (fun q cl pm cv ctv => rfl) fun A outer s H E f c' hr2 => ?_
    have okl := lam_xok ok L hfn A outer s H E f c' hr2
    have ha := hb A outer s H E f c' okl
    obtain ⟨gy, hd, _⟩ := okl.gl h6
    exact pe_callS (CX := L2N.CX X.prog X.w) (E := fun _ => E) hFx (hr2.mono (Nat.le_succ k)) gy hmx hkx hbx (fun σ => L2N.passAt (W := fun cls d _ H => E cls d H) MPH.lamN_takes σ) (PA.nox ha.pa) hd ha.he ha.hpl
theorem pe_selC {X : Cx} {C : Cfg} (ok : XOk X C fs) {j : Nat} {x : Str} {px pos : Pos} {b : Expr} {tb : TE} (h1 : C.glob x = true) (h2 : C.dst[j]? = some x) (h3 : isSlice b = false) (hb : PE X b tb) :
    PE X (.Subscript (.Name x px) b pos) (tSelC (fs.s j) tb) := by
  obtain ⟨g, hd, hn⟩ := ok.gl h1
  obtain ⟨p, hm, hk⟩ := ok.dst j x h2
  refine ⟨fun pins s σ H Q I q => ?_⟩
  refine PyProof.Rows.Subscript_ (binT (pe_glob (pos := px) g hm (show RelV (.ref p) (Value.ref p) from rfl) hd) hb I (R := fun x y H2 => x = V.ref p ∧ ∃ z i, y = V.str z ∧ (fs.s j).lookup z = some i ∧ Q (.int i) H2) ?_ fun v u s2 x y H2 I2 rx ry q => ?_)
  · show tb σ H fun y H2 => V.ref p = V.ref p ∧ ∃ z i, y = V.str z ∧ (fs.s j).lookup z = some i ∧ Q (.int i) H2
    have e : (fun (y : V) (H2 : Hp) => V.ref p = V.ref p ∧ ∃ z i, y = V.str z ∧ (fs.s j).lookup z = some i ∧ Q (.int i) H2) = fun y H2 => ∃ z i, y = V.str z ∧ (fs.s j).lookup z = some i ∧ Q (.int i) H2 := by
      funext y H2
      exact propext ⟨fun h => h.2, fun h => ⟨rfl, h⟩⟩
    rw [e]
    exact q
  · obtain ⟨rfl, z, i, rfl, e, q⟩ := q
    exact ix_kdict _ b pins s2 σ H2 _ _ v u Q I2 rx ry ⟨p, z, _, rfl, rfl, hk z i e, q⟩ (PlainIx_of h3 _ _)
theorem keys_ok : ∀ {ks : List Str} {keys : List (Option Expr)}, keysAre ks keys = true → keys.all (·.isSome) = true ∧ keys.length = ks.length ∧ True
  | [], [], _ => ⟨rfl, rfl, trivial⟩
  | [], _ :: _, h => by simp [keysAre] at h
  | _ :: _, [], h => by simp [keysAre] at h
  | k :: ks, none :: r, h => by simp [keysAre] at h
  | k :: ks, some e :: r, h => by
    unfold keysAre at h
    split at h
    · rename_i q1 q2
      cases q1
    · rename_i k' ks' x p1 p2 r' q1 q2
      cases q1
      cases q2
      simp only [Bool.and_eq_true] at h
      obtain ⟨a, b, _⟩ := keys_ok h.2
      exact ⟨by simp [a], by simp [b], trivial⟩
    · cases h
inductive DPE (X : Cx) : List Expr → List TE → Prop where
  | nil : DPE X [] []
  | cons {e : Expr} {t : TE} {es : List Expr} {ts : List TE} : PE X e t → DPE X es ts → DPE X (e :: es) (t :: ts)
theorem ppD {X : Cx} {pos : Pos} : ∀ {es : List Expr} {ts : List TE} {ks : List Str} {keys : List (Option Expr)}, DPE X es ts → keysAre ks keys = true → es.length = ks.length → PPs X pos keys es (prT ks ts)
  | _, _, [], [], .nil, _, _ => pps_nil
  | _, _, [], [], .cons _ _, _, hl => by simp at hl
  | _, _, [], _ :: _, _, h, _ => by simp [keysAre] at h
  | _, _, _ :: _, [], _, h, _ => by simp [keysAre] at h
  | _, _, k :: ks, key :: keys, .nil, _, hl => by simp at hl
  | _, _, k :: ks, key :: keys, .cons h1 h2, h, hl => by
    unfold keysAre at h
    split at h
    · rename_i q1 q2
      cases q1
    · rename_i k' ks' x p1 p2 r' q1 q2
      cases q1
      cases q2
      simp only [Bool.and_eq_true] at h
      have e : x = k := eq_of_beq h.1
      subst e
      exact pps_cons pe_str h1 (ppD h2 h.2 (by simpa using hl))
    · cases h
mutual
theorem peE {X : Cx} {C : Cfg} (ok : XOk X C fs) : ∀ (ir : Ie) (e : Expr), chk C ir e = true → PE X e (rdE X.K fs ir)
  | .c d, e, h => by
    simp only [chk] at h
    split at h
    · simp only [rdE]; exact const_pe h
    · cases h
  | .v i, e, h => by
    simp only [chk] at h
    split at h
    · simp only [rdE]; exact vis_ok ok h
    · cases h
  | .g j, e, h => by
    simp only [chk] at h
    split at h
    · simp only [Bool.and_eq_true, decide_eq_true_eq] at h
      simp only [rdE]
      obtain ⟨g, hd, hn⟩ := ok.gl h.1
      obtain ⟨u, hm, r⟩ := ok.cst j _ h.2
      exact pe_glob g hm r hd
    · cases h
  | .op o as, e, h => by
    simp only [chk, Bool.and_eq_true] at h
    obtain ⟨h0, h⟩ := h
    split at h
    · rename_i es he
      simp only [rdE]
      exact op_pe ok h0 he (peA ok as es h)
    · cases h
  | .slN i lo hi, e, h => by
    simp only [chk] at h
    split at h
    · simp only [Bool.and_eq_true] at h
      simp only [rdE]
      exact pe_slice sl_all (vis_ok ok h.1.1) (peI ok lo _ h.1.2) (peI ok hi _ h.2)
    · cases h
  | .slE a lo hi, e, h => by
    simp only [chk] at h
    split at h
    · simp only [Bool.and_eq_true] at h
      simp only [rdE]
      exact pe_slice sl_all (peE ok a _ h.1.1) (peI ok lo _ h.1.2) (peI ok hi _ h.2)
    · cases h
  | .ife t a b, e, h => by
    simp only [chk] at h
    split at h
    · simp only [Bool.and_eq_true] at h
      simp only [rdE]
      exact pe_ifExp (peT ok t _ h.1.1) (peE ok a _ h.1.2) (peE ok b _ h.2)
    · cases h
  | .bv o es, e, h => by
    simp only [chk] at h
    split at h
    · simp only [Bool.and_eq_true, decide_eq_true_eq] at h
      obtain ⟨rfl, h⟩ := h
      simp only [rdE]
      exact peL ok o _ es _ h
    · cases h
  | .notv a, e, h => by
    simp only [chk] at h
    split at h
    · simp only [rdE]
      exact pe_notT (peE ok a _ h)
    · cases h
  | .chain p q a b c, e, h => by
    simp only [chk] at h
    split at h
    · simp only [Bool.and_eq_true, decide_eq_true_eq, Bool.not_eq_true'] at h
      obtain ⟨⟨⟨⟨⟨⟨⟨rfl, rfl⟩, hs⟩, h1⟩, h2⟩, h3⟩, h4⟩, h5⟩ := h
      obtain ⟨p', hp⟩ := Option.isSome_iff_exists.mp h1
      obtain ⟨q', hq⟩ := Option.isSome_iff_exists.mp h2
      simp only [rdE, hp, hq]
      exact pe_chain (cmpP_or hp) (cmpP_or hq) (peE ok a _ h3) (peE ok b _ h4) (peE ok c _ h5) (nomark' hs)
    · cases h
  | .lc dp own k as tg t el, e, h => by
    simp only [chk] at h
    split at h
    · rename_i elt target iter ifs scope pos
      simp only [Bool.and_eq_true, Bool.not_eq_true'] at h
      obtain ⟨⟨⟨⟨⟨⟨h1, h2⟩, h3⟩, h4⟩, h5⟩, h6⟩, h7⟩ := h
      split at h7
      · rename_i es he
        have hb := blk_own h1
        have hN : X.N = C.N := ok.N
        have r := pe_lc (X := X) (pos := pos) (elt := elt) (wi := tI (rIt X.K k) (rdA X.K fs as)) (g := gOf X.K tg) (tt := rdTs X.K fs t) (te := rdE X.K fs el) (own := ownOf C.N own) ok.calm (by rw [hN]; exact ok.nd) (it_pi ok he (peA ok as es h7)) (by rw [hN, ok.sc]; exact hb.1)
          (fun s H A cl fp => pgT (ok.blk h1 s H A cl fp) tg _ h4) (fun s H A cl fp => peTs (ok.blk h1 s H A cl fp) t _ h5) (fun s H A cl fp => peE (ok.blk h1 s H A cl fp) el _ h6) (folded_ok h3 _)
        rw [hb.2] at r
        simp only [rdE]
        exact r
      · cases h7
    · cases h
  | .lc2 dp own own1 k as tg t k1 as1 tg1 t1 el, e, h => by
    simp only [chk] at h
    split at h
    · rename_i elt target iter ifs target1 iter1 ifs1 scope pos
      simp only [Bool.and_eq_true, Bool.not_eq_true'] at h
      obtain ⟨⟨⟨⟨⟨⟨⟨⟨⟨⟨⟨⟨h1, h2⟩, h3⟩, h4⟩, h5⟩, h6⟩, h7⟩, h8⟩, h9⟩, h10⟩, h11⟩, h12⟩, h13⟩ := h
      split at h12
      · rename_i es he
        split at h13
        · rename_i es1 he1
          have hb := blk_own h1
          have hN : X.N = C.N := ok.N
          have r := pe_lc2 (X := X) (pos := pos) (elt := elt) (wi := tI (rIt X.K k) (rdA X.K fs as)) (g := gOf X.K tg) (tt := rdTs X.K fs t) (wi1 := tI (rIt X.K k1) (rdA X.K fs as1)) (g1 := gOf X.K tg1) (tt1 := rdTs X.K fs t1) (te := rdE X.K fs el) (own := ownOf C.N own) (vs1 := own1) ok.calm (by rw [hN]; exact ok.nd) (it_pi ok he (peA ok as es h12)) (by rw [hN, ok.sc]; exact hb.1) (by rw [hb.2]; exact allIn_ok h4)
            (fun s H A cl fp => pgT (ok.blk h1 s H A cl fp) tg _ h7) (fun s H A cl fp => peTs (ok.blk h1 s H A cl fp) t _ h8)
            (fun s H A cl fp => it_pi (ok.blk h1 s H A cl fp) he1 (peA (ok.blk h1 s H A cl fp) as1 es1 h13))
            (fun s H A cl fp => pgT (ok.blk h1 s H A cl fp) tg1 _ h9) (fun s H A cl fp => peTs (ok.blk h1 s H A cl fp) t1 _ h10) (fun s H A cl fp => peE (ok.blk h1 s H A cl fp) el _ h11) (folded_ok h5 _) (folded_ok h6)
          rw [hb.2] at r
          simp only [rdE]
          exact r
        · cases h13
      · cases h12
    · cases h
  | .lm i m as, e, h => by
    simp only [chk] at h
    split at h
    · rename_i x px f ap es cp
      simp only [Bool.and_eq_true] at h
      obtain ⟨⟨⟨h1, h2⟩, h3⟩, h4⟩ := h
      have ha := peA ok as es h4
      simp only [rdE]
      cases es with
      | nil => cases m <;> simp at h3
      | cons e es => cases m <;> exact pe_lmX (vis_ok ok h1) (fun _ => rfl) ha h2 (by simpa using h3)
    · cases h
  | .fl i c k, e, h => by
    simp only [chk] at h
    simp only [rdE]
    exact (fld_ok ok h).1
  | .lkE i c k a, e, h => by
    simp only [chk] at h
    simp only [rdE]
    exact peE ok a e h
  | .mthF j i c k c2 m, e, h => by
    simp only [chk] at h
    split at h
    · simp only [Bool.and_eq_true, beq_iff_eq] at h
      obtain ⟨⟨⟨h1, h2⟩, rfl⟩, h4⟩ := h
      obtain ⟨a, b, hbs⟩ := fld_ok ok h1
      simp only [rdE]
      exact pe_mthX ok a (hbs _) h4 .nil (by decide) (by simpa using h2)
    · cases h
  | .fl2 i c k c2 k2, e, h => by
    simp only [chk] at h
    split at h
    · simp only [Bool.and_eq_true, decide_eq_true_eq] at h
      obtain ⟨⟨h1, h2⟩, h3⟩ := h
      obtain ⟨a, b, hbs⟩ := fld_ok ok h1
      simp only [rdE]; unfold fN; rw [h2]; simp only [Option.getD_some]
      exact pe_fld a (hbs _)
    · cases h
  | .selC j a, e, h => by
    simp only [chk] at h
    split at h
    · simp only [Bool.and_eq_true, decide_eq_true_eq, Bool.not_eq_true'] at h
      obtain ⟨⟨⟨h1, h2⟩, h3⟩, h4⟩ := h
      simp only [rdE]
      exact pe_selC ok h1 h2 h3 (peE ok a _ h4)
    · cases h
  | .chain3 p q r a b c d, e, h => by
    simp only [chk] at h
    split at h
    · simp only [Bool.and_eq_true, decide_eq_true_eq, Bool.not_eq_true'] at h
      obtain ⟨⟨⟨⟨⟨⟨⟨⟨⟨⟨rfl, rfl⟩, rfl⟩, hs⟩, h1⟩, h2⟩, h3⟩, h4⟩, h5⟩, h6⟩, h7⟩ := h
      obtain ⟨p', hp⟩ := Option.isSome_iff_exists.mp h1
      obtain ⟨q', hq⟩ := Option.isSome_iff_exists.mp h2
      obtain ⟨r', hr⟩ := Option.isSome_iff_exists.mp h3
      simp only [rdE, hp, hq, hr]
      exact pe_chain3 (cmpP_or hp) (cmpP_or hq) (cmpP_or hr) (peE ok a _ h4) (peE ok b _ h5) (peE ok c _ h6) (peE ok d _ h7) (nomark' hs)
    · cases h
  | .toldF j as, e, h => by
    simp only [chk] at h
    split at h
    · simp only [Bool.and_eq_true, beq_iff_eq] at h
      obtain ⟨⟨⟨⟨h1, h2⟩, h3⟩, h4⟩, ⟨⟨h5, h6⟩, h7⟩⟩ := h
      subst h1
      simp only [rdE]
      exact pe_toldX ok h2 (Bool.and_eq_true_iff.mpr h3) h4 h5 h6 fun A outer s H E f c' ok' => peA ok' as _ h7
    · cases h
  | .told a, e, h => by
    simp only [chk] at h
    split at h
    · simp only [Bool.and_eq_true, beq_iff_eq] at h
      obtain ⟨⟨⟨⟨h1, h2⟩, h3⟩, h4⟩, h5⟩ := h
      subst h1
      simp only [rdE]
      exact pe_told ok h2 (Bool.and_eq_true_iff.mpr h3) h4 fun A outer s H E f c' ok' => peE ok' a _ h5
    · cases h
  | .mth j i c m as, e, h => by
    simp only [chk] at h
    split at h
    · simp only [Bool.and_eq_true, beq_iff_eq, decide_eq_true_eq] at h
      obtain ⟨⟨⟨⟨⟨h1, h2⟩, rfl⟩, h4⟩, h5⟩, h6⟩ := h
      simp only [rdE]
      exact pe_mthX ok (vis_ok ok h1) rfl h4 (peA ok as _ h6) h5 (by simpa using h2)
    · cases h
  | .mthE j c m a as, e, h => by
    simp only [chk] at h
    split at h
    · rename_i o f ap es cp
      simp only [Bool.and_eq_true, beq_iff_eq, decide_eq_true_eq] at h
      obtain ⟨⟨⟨⟨⟨⟨h1, h2⟩, rfl⟩, h4⟩, h5⟩, h6⟩, h7⟩ := h
      have hbs : attributeBase o f X.env (eval o X.env) = eval o X.env := by
        unfold isCallN at h1
        split at h1
        · rfl
        · cases h1
      have ho := peE ok a o h6
      simp only [rdE]
      exact pe_mthX ok ho hbs h4 (peA ok as _ h7) h5 (by simpa using h2)
    · cases h
  | .mk j c as, e, h => by
    simp only [chk] at h
    split at h
    · simp only [Bool.and_eq_true] at h
      simp only [rdE]
      exact pe_mkX ok h.1 (peA ok as _ h.2)
    · cases h
  | .lcG dp own g tg t el, e, h => by
    simp only [chk] at h
    split at h
    · rename_i elt target iter ifs scope pos
      simp only [Bool.and_eq_true, Bool.not_eq_true'] at h
      obtain ⟨⟨⟨⟨⟨⟨h1, h2⟩, h3⟩, h4⟩, h5⟩, h6⟩, h7⟩ := h
      have hb := blk_own h1
      have hN : X.N = C.N := ok.N
      have r := pe_lc (X := X) (pos := pos) (elt := elt) (wi := rdG X.K g) (g := gOf X.K tg) (tt := rdTs X.K fs t) (te := rdE X.K fs el) (own := ownOf C.N own) ok.calm (by rw [hN]; exact ok.nd) (g_pi ok h7) (by rw [hN, ok.sc]; exact hb.1)
        (fun s H A cl fp => pgT (ok.blk h1 s H A cl fp) tg _ h4) (fun s H A cl fp => peTs (ok.blk h1 s H A cl fp) t _ h5) (fun s H A cl fp => peE (ok.blk h1 s H A cl fp) el _ h6) (folded_ok h3 _)
      rw [hb.2] at r
      simp only [rdE]
      exact r
    · cases h
  | .lmF i c k m as, e, h => by
    simp only [chk] at h
    split at h
    · rename_i o f ap es cp
      simp only [Bool.and_eq_true] at h
      obtain ⟨⟨⟨h1, h2⟩, h3⟩, h4⟩ := h
      have ha := peA ok as es h4
      obtain ⟨a, b, hbs⟩ := fld_ok ok h1
      simp only [rdE]
      cases es with
      | nil => cases m <;> simp at h3
      | cons e es => cases m <;> exact pe_lmX a hbs ha h2 (by simpa using h3)
    · cases h
  | .mv i, e, h => by
    simp only [chk] at h
    split at h
    · simp only [rdE]; exact vis_ok ok h
    · cases h
  | .ix2 i j k, e, h => by
    simp only [chk] at h
    split at h
    · simp only [Bool.and_eq_true] at h
      simp only [rdE]
      exact pe_ix2 (vis_ok ok h.1.1) (vis_ok ok h.1.2) (vis_ok ok h.2)
    · cases h
  | .dnew, e, h => by
    simp only [chk] at h
    split at h
    · simp only [rdE]
      exact pe_dnewT
    · cases h
  | .dsel ks as k, e, h => by
    simp only [chk] at h
    split at h
    · rename_i keys vals p1 b p2
      simp only [Bool.and_eq_true, Bool.not_eq_true', decide_eq_true_eq] at h
      obtain ⟨⟨⟨⟨⟨⟨⟨h1, h2⟩, h3⟩, h4⟩, hnf⟩, hl⟩, h5⟩, h6⟩ := h
      simp only [rdE]
      obtain ⟨q1, q2, q3⟩ := keys_ok h2
      have hne : keys ≠ [] := by
        intro z
        subst z
        cases ks with
        | nil => cases h3
        | cons _ _ => simp [keysAre] at h2
      exact pe_dget (by have := ok.units; omega) (pe_disp (ppD (peDs ok as vals hnf h5) h2 hl) q1 (by rw [q2, hl]) hne (by rw [q2]; exact h4)) (peE ok k b h6) (PlainIx_of h1)
    · cases h
  | .ix2e i k1 k2, e, h => by
    simp only [chk] at h
    split at h
    · simp only [Bool.and_eq_true, Bool.not_eq_true'] at h
      obtain ⟨⟨⟨⟨h1, h2⟩, h3⟩, h4⟩, h5⟩ := h
      simp only [rdE]
      exact pe_ix ix_seq (pe_ix ix_seq (vis_ok ok h1) (peE ok k1 _ h4) (PlainIx_of h2)) (kx_pe ok h5) (PlainIx_of h3)
    · cases h
  | .lstD as, e, h => by
    simp only [chk] at h
    split at h
    · simp only [rdE]
      exact pe_lst (peA ok as _ h).pa
    · cases h
theorem peDs {X : Cx} {C : Cfg} (ok : XOk X C fs) : ∀ (as : Ars) (es : List Expr), noFl as = true → chkA C as es = true → DPE X es (rdDs X.K fs as)
  | .nil, es, _, h => by
    simp only [chkA] at h
    cases es with
    | nil => simp only [rdDs]; exact .nil
    | cons _ _ => cases h
  | .nm i r, es, hn, h => by
    simp only [noFl] at hn
    simp only [chkA] at h
    split at h
    · simp only [Bool.and_eq_true] at h
      simp only [rdDs]
      exact .cons (vis_ok ok h.1) (peDs ok r _ hn h.2)
    · cases h
  | .ex a r, es, hn, h => by
    simp only [noFl] at hn
    simp only [chkA] at h
    split at h
    · simp only [Bool.and_eq_true] at h
      simp only [rdDs]
      exact .cons (peE ok a _ h.1.2) (peDs ok r _ hn h.2)
    · cases h
  | .fl i c k r, es, hn, h => by simp [noFl] at hn
theorem peA {X : Cx} {C : Cfg} (ok : XOk X C fs) : ∀ (as : Ars) (es : List Expr), chkA C as es = true → APE X es (rdA X.K fs as)
  | .nil, es, h => by
    simp only [chkA] at h
    cases es with
    | nil => simp only [rdA]; exact .nil
    | cons _ _ => cases h
  | .nm i r, es, h => by
    simp only [chkA] at h
    split at h
    · simp only [Bool.and_eq_true] at h
      simp only [rdA]
      exact .cons (vis_ok ok h.1) rfl (peA ok r _ h.2)
    · cases h
  | .ex a r, es, h => by
    simp only [chkA] at h
    split at h
    · simp only [Bool.and_eq_true] at h
      simp only [rdA]
      exact .cons (peE ok a _ h.1.2) h.1.1 (peA ok r _ h.2)
    · cases h
  | .fl i c k r, es, h => by
    simp only [chkA] at h
    split at h
    · simp only [Bool.and_eq_true] at h
      obtain ⟨a, b, _⟩ := fld_ok ok h.1
      simp only [rdA]
      exact .cons a b (peA ok r _ h.2)
    · cases h
theorem peI {X : Cx} {C : Cfg} (ok : XOk X C fs) : ∀ (o : OIe) (e : Option Expr), chkI C o e = true → PO X e (rdI X.K fs o)
  | .no, e, h => by
    simp only [chkI] at h
    cases e with
    | none => simp only [rdI]; exact po_none
    | some _ => cases h
  | .so a, e, h => by
    simp only [chkI] at h
    split at h
    · simp only [rdI]; exact po_some (peE ok a _ h)
    · cases h
theorem peL {X : Cx} {C : Cfg} (ok : XOk X C fs) (o : BoolOp) (pos : Pos) : ∀ (ir : Ies) (es : List Expr), chkL C ir es = true → PE X (.BoolOp o es pos) (rdL X.K fs o ir)
  | .one b, es, h => by
    simp only [chkL] at h
    split at h
    · simp only [rdL]; exact pe_one (peE ok b _ h)
    · cases h
  | .cons b r, es, h => by
    simp only [chkL] at h
    split at h
    · simp only [Bool.and_eq_true] at h
      cases o with
      | And => simp only [rdL]; exact pe_andT (peE ok b _ h.1) (peL ok .And pos r _ h.2)
      | Or => simp only [rdL]; exact pe_orT (peE ok b _ h.1) (peL ok .Or pos r _ h.2)
    · cases h
theorem peT {X : Cx} {C : Cfg} (ok : XOk X C fs) : ∀ (ir : Te) (e : Expr), chkT C ir e = true → PT X e (rdT X.K fs ir)
  | .b (.op o as), e, h => by
    simp only [chkT] at h
    split at h
    · simp only [isLk, Bool.not_false, Bool.true_and, chk, Bool.and_eq_true] at h
      obtain ⟨h0, h⟩ := h
      split at h
      · rename_i es he
        simp only [rdT, rdE]
        exact op_pt ok h0 he (peA ok as es h)
      · cases h
    · cases h
  | .b (.chain p q a b c), e, h => by
    simp only [chkT] at h
    split at h
    · simp only [isLk, Bool.not_false, Bool.true_and, chk] at h
      split at h
      · rename_i heq
        cases heq
        simp only [Bool.and_eq_true, decide_eq_true_eq, Bool.not_eq_true'] at h
        obtain ⟨⟨⟨⟨⟨⟨⟨rfl, rfl⟩, hs⟩, h1⟩, h2⟩, h3⟩, h4⟩, h5⟩ := h
        obtain ⟨p', hp⟩ := Option.isSome_iff_exists.mp h1
        obtain ⟨q', hq⟩ := Option.isSome_iff_exists.mp h2
        simp only [rdT, rdE, hp, hq]
        exact pt_chain (cmpP_or hp) (cmpP_or hq) (peE ok a _ h3) (peE ok b _ h4) (peE ok c _ h5) (nomark' hs)
      · cases h
    · cases h
  | .b (.c _), e, h => by simp only [chkT] at h; split at h <;> simp [chk] at h
  | .b (.v _), e, h => by simp only [chkT] at h; split at h <;> simp [chk] at h
  | .b (.g _), e, h => by simp only [chkT] at h; split at h <;> simp [chk] at h
  | .b (.slN _ _ _), e, h => by simp only [chkT] at h; split at h <;> simp [chk] at h
  | .b (.slE _ _ _), e, h => by simp only [chkT] at h; split at h <;> simp [chk] at h
  | .b (.ife _ _ _), e, h => by simp only [chkT] at h; split at h <;> simp [chk] at h
  | .b (.bv _ _), e, h => by simp only [chkT] at h; split at h <;> simp [chk] at h
  | .b (.notv _), e, h => by simp only [chkT] at h; split at h <;> simp [chk] at h
  | .b (.lc _ _ _ _ _ _ _), e, h => by simp only [chkT] at h; split at h <;> simp [chk] at h
  | .b (.lc2 _ _ _ _ _ _ _ _ _ _ _ _), e, h => by simp only [chkT] at h; split at h <;> simp [chk] at h
  | .b (.lm _ _ _), e, h => by simp only [chkT] at h; split at h <;> simp [chk] at h
  | .b (.fl _ _ _), e, h => by simp only [chkT] at h; split at h <;> simp [chk, Cfg.fld] at h
  | .b (.lkE _ _ _ _), e, h => by simp only [chkT] at h; split at h <;> simp [isLk] at h
  | .b (.chain3 _ _ _ _ _ _ _), e, h => by simp only [chkT] at h; split at h <;> simp [isLk] at h
  | .b (.mth _ _ _ _ _), e, h => by simp only [chkT] at h; split at h <;> simp [chk] at h
  | .b (.mthE _ _ _ _ _), e, h => by simp only [chkT] at h; split at h <;> simp [chk] at h
  | .b (.mthF _ _ _ _ _ _), e, h => by simp only [chkT] at h; split at h <;> simp [chk] at h
  | .b (.fl2 _ _ _ _ _), e, h => by simp only [chkT] at h; split at h <;> simp [chk] at h
  | .b (.selC _ _), e, h => by simp only [chkT] at h; split at h <;> simp [chk] at h
  | .b (.told _), e, h => by simp only [chkT] at h; split at h <;> simp [chk] at h
  | .b (.toldF _ _), e, h => by simp only [chkT] at h; split at h <;> simp [chk] at h
  | .b (.mk _ _ _), e, h => by simp only [chkT] at h; split at h <;> simp [chk] at h
  | .b (.lcG _ _ _ _ _ _), e, h => by simp only [chkT] at h; split at h <;> simp [chk] at h
  | .b (.lmF _ _ _ _ _), e, h => by simp only [chkT] at h; split at h <;> simp [chk] at h
  | .b (.mv _), e, h => by simp only [chkT] at h; split at h <;> simp [chk] at h
  | .b (.ix2 _ _ _), e, h => by simp only [chkT] at h; split at h <;> simp [chk] at h
  | .b .dnew, e, h => by simp only [chkT] at h; split at h <;> simp [chk] at h
  | .b (.dsel _ _ _), e, h => by simp only [chkT] at h; split at h <;> simp [chk] at h
  | .b (.ix2e _ _ _), e, h => by simp only [chkT] at h; split at h <;> simp [chk] at h
  | .b (.lstD _), e, h => by simp only [chkT] at h; split at h <;> simp [chk] at h
  | .v a, e, h => by
    simp only [chkT, Bool.and_eq_true] at h
    simp only [rdT]
    exact pt_truth (peE ok a _ h.2) (isTrue_plainT h.1)
  | .bo o ts, e, h => by
    simp only [chkT] at h
    split at h
    · simp only [Bool.and_eq_true, decide_eq_true_eq] at h
      obtain ⟨rfl, h⟩ := h
      simp only [rdT]
      exact (peTL ok o _ ts _ h).pt
    · cases h
  | .not a, e, h => by
    simp only [chkT] at h
    split at h
    · simp only [rdT]
      exact pt_not (peT ok a _ h)
    · cases h
theorem peTL {X : Cx} {C : Cfg} (ok : XOk X C fs) (o : BoolOp) (pos : Pos) : ∀ (ir : Tes) (es : List Expr), chkTL C ir es = true → PW X (.BoolOp o es pos) (rdTL X.K fs o ir)
  | .one b, es, h => by
    simp only [chkTL] at h
    split at h
    · simp only [rdTL]
      cases o with
      | And => exact pw_and1 (peT ok b _ h)
      | Or => exact pw_or1 (peT ok b _ h)
    · cases h
  | .cons b r, es, h => by
    simp only [chkTL] at h
    split at h
    · simp only [Bool.and_eq_true] at h
      cases o with
      | And => simp only [rdTL]; exact pw_and (peT ok b _ h.1) (peTL ok .And pos r _ h.2)
      | Or => simp only [rdTL]; exact pw_or (peT ok b _ h.1) (peTL ok .Or pos r _ h.2)
    · cases h
theorem peTs {X : Cx} {C : Cfg} (ok : XOk X C fs) : ∀ (t : Ts) (es : List Expr), chkTs C t es = true → PTs X es (rdTs X.K fs t)
  | .no, es, h => by
    simp only [chkTs] at h
    cases es with
    | nil => simp only [rdTs]; exact pts_nil
    | cons _ _ => cases h
  | .so t, es, h => by
    simp only [chkTs] at h
    split at h
    · simp only [rdTs]; exact pts_one (peT ok t _ h)
    · cases h
end
end
end MP
namespace MP
open PySem L2
variable [LamT]
mutual
def rdS (K : PySem.W.Frag) (fs : EnV) : Is → TS
  | .set i e => tAsg (rdE K fs e) (gName i)
  | .tg t e => tAsg (rdE K fs e) (gOf K t)
  | .par i j a b => tPar i j (tCons (rdE K fs a) (tCons (rdE K fs b) tNil))
  | .par3 i j l a b d => tPar3 i j l (tCons (rdE K fs a) (tCons (rdE K fs b) (tCons (rdE K fs d) tNil)))
  | .setF2 i c k k2 e => tAsg (rdE K fs e) (gTup K 2 (gCons (gFld K (tVar i) (fN c k)) (gCons (gFld K (tVar i) (fN c k2)) gNil)))
  | .aug i o e => tAug i (rdE K fs e) (ipI o.f)
  | .setIx i k e => tAsg (rdE K fs e) (gSub (tVar i) (rdE K fs k) rSetL)
  | .setIx2 i j k e => tAsg (rdE K fs e) (gSub2 K i j k)
  | .dput i as e => sDPut (tVar i) (tN (rdg K fs (.bin .Add)) (rdA K fs as)) (rdE K fs e)
  | .set2e i k1 k2 e => tAsg (rdE K fs e) (gSub (tOp (rIx K) (tVar i) (rdE K fs k1)) (tKx k2) rSetL)
  | .aug2 i k1 k2 o e => tAugS (tOp (rIx K) (tVar i) (rdE K fs k1)) (tKx k2) (rdE K fs e) (rIxL K) (ipI o.f) rSetL
  | .slSet i lo hi e => tAsg (rdE K fs e) (gSlc (tVar i) (tPart (rdE K fs lo)) (tPart (rdE K fs hi)))
  | .augIx i k o e => tAugS (tVar i) (rdE K fs k) (rdE K fs e) (rIxL K) (ipI o.f) rSetL
  | .setF i c k _ e => sFld K (tVar i) (rdE K fs e) (fN c k)
  | .augF i c k o e => sFldAug K (tVar i) (rdE K fs e) (rOpI o.f) (fN c k)
  | .setIxF i c k x e => tAsg (rdE K fs e) (gSub (tFld K (tVar i) (fN c k)) (rdE K fs x) rSetL)
  | .lkS _ _ _ s => rdS K fs s
  | .lkV _ s => rdS K fs s
  | .fzS _ _ _ s => rdS K fs s
  | .stk => fun _ _ _ => False
  | .forG g tg b => tFor (rdG K g) (gOf K tg) (rdSs K fs b)
  | .ex e => tDrop (rdE K fs e)
  | .ret e => tRet (rdE K fs e)
  | .retM i => tRet (tVar i)
  | .retN => tRetN
  | .ite t a b => tIfS (rdT K fs t) (rdSs K fs a) (rdSs K fs b)
  | .for_ k as tg b => tFor (tI (rIt K k) (rdA K fs as)) (gOf K tg) (rdSs K fs b)
  | .while_ t b => tWhile (rdT K fs t) (rdSs K fs b)
  | .pass => tNext
  | .brk => tBreak
  | .cnt => tCont
def rdSs (K : PySem.W.Frag) (fs : EnV) : Iss → TS
  | .nil => tNext
  | .cons s r => tSeq (rdS K fs s) (rdSs K fs r)
end
mutual
def wfS (cl : List Nat) (np : Nat) : Is → Bool
  | .set i e => decide (np ≤ i) && wfE cl e
  | .tg t e => (t.slots.all fun i => decide (np ≤ i)) && wfE cl e
  | .par i j a b => decide (np ≤ i) && decide (np ≤ j) && wfE cl a && wfE cl b
  | .par3 i j l a b d => decide (np ≤ i) && decide (np ≤ j) && decide (np ≤ l) && wfE cl a && wfE cl b && wfE cl d
  | .setF2 _ c k k2 e => fOk cl c k && fOk cl c k2 && wfE cl e
  | .aug i _ e => decide (np ≤ i) && wfE cl e
  | .setIx _ k e => wfE cl k && wfE cl e
  | .augIx _ k _ e => wfE cl k && wfE cl e
  | .setIx2 _ _ _ e => wfE cl e
  | .dput _ as e => wfA cl as && wfE cl e
  | .set2e _ k1 _ e => wfE cl k1 && wfE cl e
  | .aug2 _ k1 _ _ e => wfE cl k1 && wfE cl e
  | .slSet _ lo hi e => wfE cl lo && wfE cl hi && wfE cl e
  | .setF _ c k _ e => fOk cl c k && wfE cl e
  | .augF _ c k _ e => fOk cl c k && wfE cl e
  | .setIxF _ c k x e => fOk cl c k && wfE cl x && wfE cl e
  | .lkS _ _ _ s => wfS cl np s
  | .lkV _ s => wfS cl np s
  | .fzS _ _ _ s => wfS cl np s
  | .stk => true
  | .forG g tg b => (tg.slots.all fun i => decide (np ≤ i)) && wfG cl g && wfSs cl np b
  | .ex e => wfE cl e
  | .ret e => wfE cl e
  | .retM _ => true
  | .retN => true
  | .ite t a b => wfT cl t && wfSs cl np a && wfSs cl np b
  | .for_ _ as tg b => (tg.slots.all fun i => decide (np ≤ i)) && wfA cl as && wfSs cl np b
  | .while_ t b => wfT cl t && wfSs cl np b
  | .pass => true
  | .brk => true
  | .cnt => true
def wfSs (cl : List Nat) (np : Nat) : Iss → Bool
  | .nil => true
  | .cons s r => wfS cl np s && wfSs cl np r
end
section
variable {K : PySem.W.Frag} {fs : EnV} {np : Nat}
theorem slots_ok {is : List Nat} (h : (is.all fun i => decide (np ≤ i)) = true) : ∀ i ∈ is, np ≤ i := fun i hi => by
  have := List.all_eq_true.mp h i hi
  simpa using this
mutual
theorem simS (hc : CstOk K fs) {cl : List Nat} (hk : CsK K cl) : ∀ ir : Is, wfS cl np ir = true → SimS K np (rdS K fs ir) (evS fs.toEn ir)
  | .set i e, h => by
    simp only [wfS, Bool.and_eq_true, decide_eq_true_eq] at h
    simp only [rdS, evS]
    exact ss_set (simE hc hk e h.2) h.1
  | .tg t e, h => by
    simp only [wfS, Bool.and_eq_true] at h
    simp only [rdS, evS]
    exact ss_tg (simE hc hk e h.2) (slots_ok h.1)
  | .par i j a b, h => by
    simp only [wfS, Bool.and_eq_true, decide_eq_true_eq] at h
    simp only [rdS, evS]
    exact ss_par (simE hc hk a h.1.2) (simE hc hk b h.2) h.1.1.1 h.1.1.2
  | .par3 i j l a b d, h => by
    simp only [wfS, Bool.and_eq_true, decide_eq_true_eq] at h
    obtain ⟨⟨⟨⟨⟨h1, h2⟩, h3⟩, h4⟩, h5⟩, h6⟩ := h
    simp only [rdS, evS]
    exact ss_par3 (simE hc hk a h4) (simE hc hk b h5) (simE hc hk d h6) h1 h2 h3
  | .setF2 i c k k2 e, h => by
    simp only [wfS, Bool.and_eq_true] at h
    obtain ⟨a, b⟩ := fOk_ok hk h.1.1
    obtain ⟨_, b2⟩ := fOk_ok hk h.1.2
    simp only [rdS, evS]
    exact ss_setF2 a b b2 (simE hc hk e h.2)
  | .aug i o e, h => by
    simp only [wfS, Bool.and_eq_true, decide_eq_true_eq] at h
    simp only [rdS, evS]
    exact ss_aug (simE hc hk e h.2) h.1
  | .setIx i k e, h => by
    simp only [wfS, Bool.and_eq_true] at h
    simp only [rdS, evS]
    exact ss_setIx (simE hc hk e h.2) (simE hc hk k h.1)
  | .setIx2 i j k e, h => by
    simp only [wfS] at h
    simp only [rdS, evS]
    exact ss_setIx2 (simE hc hk e h)
  | .dput i as e, h => by
    simp only [wfS, Bool.and_eq_true] at h
    simp only [rdS, evS]
    exact ss_dput (od_bl od_add) (simE hc hk e h.2) (simA hc hk as h.1)
  | .set2e i k1 k2 e, h => by
    simp only [wfS, Bool.and_eq_true] at h
    simp only [rdS, evS]
    exact ss_set2e (simE hc hk k1 h.1) (simE hc hk e h.2)
  | .aug2 i k1 k2 o e, h => by
    simp only [wfS, Bool.and_eq_true] at h
    simp only [rdS, evS]
    exact ss_aug2 (simE hc hk k1 h.1) (simE hc hk e h.2)
  | .slSet i lo hi e, h => by
    simp only [wfS, Bool.and_eq_true] at h
    simp only [rdS, evS]
    exact ss_slc (simE hc hk e h.2) (simE hc hk lo h.1.1) (simE hc hk hi h.1.2)
  | .augIx i k o e, h => by
    simp only [wfS, Bool.and_eq_true] at h
    simp only [rdS, evS]
    exact ss_augIx (simE hc hk k h.1) (simE hc hk e h.2)
  | .setF i c k frz e, h => by
    simp only [wfS, Bool.and_eq_true] at h
    obtain ⟨a, b⟩ := fOk_ok hk h.1
    simp only [rdS, evS]
    exact ss_setF a b (simE hc hk e h.2)
  | .augF i c k o e, h => by
    simp only [wfS, Bool.and_eq_true] at h
    obtain ⟨a, b⟩ := fOk_ok hk h.1
    simp only [rdS, evS]
    exact ss_augF a b (simE hc hk e h.2)
  | .setIxF i c k x e, h => by
    simp only [wfS, Bool.and_eq_true] at h
    obtain ⟨a, b⟩ := fOk_ok hk h.1.1
    simp only [rdS, evS]
    exact ss_setIxF a b (simE hc hk e h.2) (simE hc hk x h.1.2)
  | .lkS i c k s, h => by
    simp only [wfS] at h
    simp only [rdS, evS]
    exact ss_lock (simS hc hk s h)
  | .lkV i s, h => by
    simp only [wfS] at h
    simp only [rdS, evS]
    exact ss_lockS (simS hc hk s h)
  | .fzS i c k s, h => by
    simp only [wfS] at h
    simp only [rdS, evS]
    exact ss_frz (simS hc hk s h)
  | .stk, h => by
    simp only [rdS, evS]
    intro σ ρ F G H hE ok x ρ' e
    cases e
  | .forG g tg b, h => by
    simp only [wfS, Bool.and_eq_true] at h
    simp only [rdS, evS]
    exact ss_forG (simG hk g h.1.2) (simSs hc hk b h.2) (slots_ok h.1.1)
  | .ex e, h => by
    simp only [wfS] at h
    simp only [rdS, evS]
    exact ss_expr (simE hc hk e h)
  | .ret e, h => by
    simp only [wfS] at h
    simp only [rdS, evS]
    exact ss_ret (simE hc hk e h)
  | .retM i, _ => by simp only [rdS, evS]; exact ss_retM
  | .retN, _ => by simp only [rdS, evS]; exact ss_retN
  | .ite t a b, h => by
    simp only [wfS, Bool.and_eq_true] at h
    simp only [rdS, evS]
    exact ss_if (simT hc hk t h.1.1) (simSs hc hk a h.1.2) (simSs hc hk b h.2)
  | .for_ k as tg b, h => by
    simp only [wfS, Bool.and_eq_true] at h
    simp only [rdS, evS]
    exact ss_for (sit (id_it k) (simA hc hk as h.1.2)) (simSs hc hk b h.2) (slots_ok h.1.1)
  | .while_ t b, h => by
    simp only [wfS, Bool.and_eq_true] at h
    simp only [rdS, evS]
    exact ss_while (simT hc hk t h.1) (simSs hc hk b h.2)
  | .pass, _ => by simp only [rdS, evS]; exact ss_nil
  | .brk, _ => by simp only [rdS, evS]; exact ss_brk
  | .cnt, _ => by simp only [rdS, evS]; exact ss_cnt
theorem simSs (hc : CstOk K fs) {cl : List Nat} (hk : CsK K cl) : ∀ ir : Iss, wfSs cl np ir = true → SimS K np (rdSs K fs ir) (evSs fs.toEn ir)
  | .nil, _ => by simp only [rdSs, evSs]; exact ss_nil
  | .cons s r, h => by
    simp only [wfSs, Bool.and_eq_true] at h
    simp only [rdSs, evSs]
    exact ss_seq (simS hc hk s h.1) (simSs hc hk r h.2)
end
end
section
variable {fs : EnV}
theorem sw_no {e : Expr} (h : isComp e = false) (t : Option Expr) (l : Nat) (env : Env) : swapsWith e t l env = pure false := by
  cases e <;> first | rfl | cases h
theorem sw_attr {v o : Expr} {f : Str} {p : Pos} {l : Nat} {env : Env} : swapsWith v (some (.Attribute o f p)) l env = pure false := by
  cases v <;> rfl
theorem sw_subs {v o b : Expr} {p : Pos} {l : Nat} {env : Env} : swapsWithSole [.Subscript o b p] v l env = pure false := by
  cases v <;> rfl
theorem sws_tup {es : List Expr} {k : Nat} {p : Pos} (v : Expr) (l : Nat) (env : Env) : swapsWithSole [.Tuple es k p] v l env = pure false := by
  cases v <;> rfl
theorem in_add {X : Cx} : InOp X .Add (rOpI fun i j => i + j) := by
  intro pins s σ H x y u v Q I r1 r2 h
  exact ip_add pins s σ H x y u v Q I r1 r2 h
theorem in_sub {X : Cx} : InOp X .Sub (rOpI fun i j => i - j) := by
  intro pins s σ H x y u v Q I r1 r2 h
  exact ip_sub pins s σ H x y u v Q I r1 r2 h
theorem fN_eq {c k : Nat} {f : Str} (h : (clsFlds c)[k]? = some f) : fN c k = f := by simp only [fN, h, Option.getD_some]
theorem sws_no {e t : Expr} (h : isComp e = false) (l : Nat) (env : Env) : swapsWithSole [t] e l env = pure false := sw_no h _ _ _
theorem not_comp {e : Expr} (h : (listC e || !isComp e) = true) : isComp e = false ∨ ∃ a b c d, e = .ListComp a b c d := by
  cases e <;> first | exact .inl rfl | exact .inr ⟨_, _, _, _, rfl⟩ | cases h
theorem sw_lc {C : Cfg} {elt : Expr} {gs : List Comprehension} {scope : Scope} {pos px : Pos} {x : Str} {l : Nat} {env : Env} (hsc : env.scope = C.sc) (hk : C.sc.kind = .function) :
    swapsWith (.ListComp elt gs scope pos) (some (.Name x px)) l env = pure (swB C x px (.ListComp elt gs scope pos)) := by
  have hb : env.blockKind = .function := by unfold Env.blockKind; rw [hsc, hk]; rfl
  have hl : env.kindOf x = C.sc.names.lookup x := by rw [← hsc]; rfl
  unfold swapsWith swB
  simp only [hb, hl]
  show (pure _ : Sem Bool) = pure _
  congr 1
  cases C.sc.names.lookup x with
  | none => rfl
  | some k => cases k <;> rfl
theorem chk_lc {C : Cfg} {ir : Ie} {elt : Expr} {gs : List Comprehension} {scope : Scope} {pos : Pos} (hlc : isLc ir = true) (h : chk C ir (.ListComp elt gs scope pos) = true) :
    (∃ dp own k as tg t e, ir = .lc dp own k as tg t e) ∨ ∃ dp own own1 k as tg t k1 as1 tg1 t1 e, ir = .lc2 dp own own1 k as tg t k1 as1 tg1 t1 e := by
  cases ir with
  | lc => exact .inl ⟨_, _, _, _, _, _, _, rfl⟩
  | lc2 => exact .inr ⟨_, _, _, _, _, _, _, _, _, _, _, _, rfl⟩
  | _ => cases hlc
theorem ps_setC {X : Cx} {C : Cfg} (ok : XOk X C fs) {i : Nat} {x : Str} {px spos : Pos} {e : Expr} {ir : Ie} (hl : C.loc i x = true) (hc : (listC e || !isComp e) = true) (hlc : (!listC e || isLc ir) = true) (h : chk C ir e = true) : PS X (.Assign [.Name x px] e spos) (tAsg (rdE X.K fs ir) (gName i)) := by
  have hN : X.N = C.N := ok.N
  have nd : X.N.Nodup := by rw [hN]; exact ok.nd
  obtain ⟨l1, l2, l3⟩ := loc_ok ok hl
  rcases not_comp hc with hc | ⟨elt, gs, scope, pos, rfl⟩
  · exact ps_set nd l1 l2 (peE ok ir e h) (sw_no hc _ _ _) l3
  · have sw := sw_lc (C := C) (elt := elt) (gs := gs) (scope := scope) (pos := pos) (px := px) (x := x) (l := spos.line) (env := X.env) ok.sc ok.kind
    cases hsw : swB C x px (.ListComp elt gs scope pos) with
    | false =>
      rw [hsw] at sw
      exact ps_set nd l1 l2 (peE ok ir _ h) sw l3
    | true =>
      rw [hsw] at sw
      have hxl : X.env.scope.names.lookup x = some .local := by
        rw [ok.sc]
        simp only [swB, Bool.and_eq_true, decide_eq_true_eq] at hsw
        exact hsw.1.1
      rcases chk_lc (by simpa [listC] using hlc) h with ⟨dp, own, k, as, tg, t, el, rfl⟩ | ⟨dp, own, own1, k, as, tg, t, k1, as1, tg1, t1, el, rfl⟩
      · simp only [chk] at h
        split at h
        · rename_i elt' target iter ifs scope' pos' heq
          cases heq
          simp only [Bool.and_eq_true, Bool.not_eq_true'] at h
          obtain ⟨⟨⟨⟨⟨⟨h1, h2⟩, h3⟩, h4⟩, h5⟩, h6⟩, h7⟩ := h
          split at h7
          · rename_i es he
            have hb := blk_own h1
            have r := ps_setLc (X := X) (spos := spos) (py := px) (elt := elt) (wi := tI (rIt X.K k) (rdA X.K fs as)) (g := gOf X.K tg) (tt := rdTs X.K fs t) (te := rdE X.K fs el) (own := ownOf C.N own) ok.calm nd l1 hxl sw (it_pi ok he (peA ok as es h7)) (by rw [hN, ok.sc]; exact hb.1)
              (fun s H A cl fp => pgT (ok.blk h1 s H A cl fp) tg _ h4) (fun s H A cl fp => peTs (ok.blk h1 s H A cl fp) t _ h5) (fun s H A cl fp => peE (ok.blk h1 s H A cl fp) el _ h6) (folded_ok h3 _)
            rw [hb.2] at r
            simp only [rdE]
            exact r
          · cases h7
        · cases h
      · simp only [chk] at h
        split at h
        · rename_i elt' target iter ifs target1 iter1 ifs1 scope' pos' heq
          cases heq
          simp only [Bool.and_eq_true, Bool.not_eq_true'] at h
          obtain ⟨⟨⟨⟨⟨⟨⟨⟨⟨⟨⟨⟨h1, h2⟩, h3⟩, h4⟩, h5⟩, h6⟩, h7⟩, h8⟩, h9⟩, h10⟩, h11⟩, h12⟩, h13⟩ := h
          split at h12
          · rename_i es he
            split at h13
            · rename_i es1 he1
              have hb := blk_own h1
              have r := ps_setLc2 (X := X) (spos := spos) (py := px) (elt := elt) (wi := tI (rIt X.K k) (rdA X.K fs as)) (g := gOf X.K tg) (tt := rdTs X.K fs t) (wi1 := tI (rIt X.K k1) (rdA X.K fs as1)) (g1 := gOf X.K tg1) (tt1 := rdTs X.K fs t1) (te := rdE X.K fs el) (own := ownOf C.N own) (vs1 := own1) ok.calm nd l1 hxl sw (it_pi ok he (peA ok as es h12)) (by rw [hN, ok.sc]; exact hb.1) (by rw [hb.2]; exact allIn_ok h4)
                (fun s H A cl fp => pgT (ok.blk h1 s H A cl fp) tg _ h7) (fun s H A cl fp => peTs (ok.blk h1 s H A cl fp) t _ h8)
                (fun s H A cl fp => it_pi (ok.blk h1 s H A cl fp) he1 (peA (ok.blk h1 s H A cl fp) as1 es1 h13))
                (fun s H A cl fp => pgT (ok.blk h1 s H A cl fp) tg1 _ h9) (fun s H A cl fp => peTs (ok.blk h1 s H A cl fp) t1 _ h10) (fun s H A cl fp => peE (ok.blk h1 s H A cl fp) el _ h11) (folded_ok h5 _) (folded_ok h6)
              rw [hb.2] at r
              simp only [rdE]
              exact r
            · cases h13
          · cases h12
        · cases h
theorem fm_len {α β : Type} {f : α → Option β} : ∀ {xs : List α}, (∃ x ∈ xs, f x = none) → (xs.filterMap f).length < xs.length
  | [], h => by
    obtain ⟨x, hx, _⟩ := h
    cases hx
  | y :: xs, h => by
    cases hy : f y with
    | none =>
      rw [List.filterMap_cons_none hy, List.length_cons]
      exact Nat.lt_succ_of_le (List.length_filterMap_le ..)
    | some b =>
      rw [List.filterMap_cons_some hy, List.length_cons, List.length_cons]
      refine Nat.succ_lt_succ (fm_len ?_)
      obtain ⟨x, hx, hn⟩ := h
      rcases List.mem_cons.mp hx with rfl | hx
      · rw [hy] at hn; cases hn
      · exact ⟨x, hx, hn⟩
theorem stores_no {C : Cfg} {es : List Expr} {k : Nat} {p : Pos} {v : Expr} {env : Env} (hsc : env.scope = C.sc) (h : (match v with
      | .Tuple vs _ _ => decide (4 ≤ es.length) || vs.all (foldedForSure 8) || es.any (notLoc C)
      | _ => true) = true) : swappedStores [.Tuple es k p] v env = pure none := by
  cases v with
  | Tuple vs k2 p2 =>
    simp only [Bool.or_eq_true, decide_eq_true_eq] at h
    unfold swappedStores
    rcases h with (h | h) | h
    · have h2 : (es.length == 2) = false := by rw [beq_eq_false_iff_ne]; omega
      have h3 : (es.length == 3) = false := by rw [beq_eq_false_iff_ne]; omega
      simp [h2, h3]
    · simp only [h, if_true]
      split
      · rfl
      · split
        · rfl
        · split
          · rfl
          · rfl
    · have key : ∀ l : Nat, ((es.filterMap fun
          | .Name id pos => if env.kindOf id == some .local && pos.line == l then some id else none
          | _ => none).length != es.length) = true := by
        intro l
        rw [bne_iff_ne]
        refine Nat.ne_of_lt (fm_len ?_)
        obtain ⟨e, he, hn⟩ := List.any_eq_true.mp h
        refine ⟨e, he, ?_⟩
        cases e with
        | Name x px =>
          simp only [notLoc, Bool.not_eq_true', decide_eq_false_iff_not] at hn
          have hl : env.kindOf x = C.sc.names.lookup x := by rw [← hsc]; rfl
          have : (env.kindOf x == some .local) = false := by
            rw [hl, beq_eq_false_iff_ne]
            exact hn
          simp [this]
        | _ => rfl
      dsimp only
      split
      · rfl
      · split
        · rfl
        · exact if_pos (Bool.or_eq_true_iff.mpr (.inl (key _)))
  | _ => rfl
theorem stores_par {C : Cfg} {x y : Str} {px py pt p2 : Pos} {k k2 : Nat} {v w : Expr} {env : Env} (hsc : env.scope = C.sc) (hk : C.sc.kind = .function) (hx : C.sc.names.lookup x = some .local) (hy : C.sc.names.lookup y = some .local) (hl : (px.line == py.line) = true)
    (hxy : (x == y) = false) (hv : plain v = true) (hw : plain w = true) (hf : ([v, w].all (foldedForSure 8)) = false) (hcn : ([v, w].all (constantsAlone 8)) = false) :
    swappedStores [.Tuple [.Name x px, .Name y py] k pt] (.Tuple [v, w] k2 p2) env = pure (some [x, y]) := by
  have hb : env.blockKind = .function := by unfold Env.blockKind; rw [hsc, hk]; rfl
  have hlx : env.kindOf x = some .local := by show env.scope.names.lookup x = _; rw [hsc]; exact hx
  have hly : env.kindOf y = some .local := by show env.scope.names.lookup y = _; rw [hsc]; exact hy
  have hl' : (py.line == px.line) = true := by rw [beq_iff_eq] at hl ⊢; exact hl.symm
  have hlp : py.line = px.line := by simpa using hl'
  have hxy' : x ≠ y := by simpa using hxy
  have hdup : [x, y].eraseDups = [x, y] := by
    simp [List.eraseDups_cons, Ne.symm hxy']
  unfold swappedStores
  simp only [List.all_cons, List.all_nil, Bool.and_true] at hf hcn
  have hf' : (foldedForSure 8 v = true → foldedForSure 8 w = false) := fun q => by rw [q] at hf; simpa using hf
  have hc' : (constantsAlone 8 v = true → constantsAlone 8 w = false) := fun q => by rw [q] at hcn; simpa using hcn
  simp [hb, hlx, hly, hlp, Expr.pos, hf, hcn, hdup]
  rintro (h | h)
  · clear hf hcn hf' hc'
    cases v <;> first | (cases h; done) | (cases hv; done)
  · clear hf hcn hf' hc'
    cases w <;> first | (cases h; done) | (cases hw; done)
theorem stores_par3 {C : Cfg} {x y z : Str} {px py pz pt p2 : Pos} {k k2 : Nat} {u v w : Expr} {env : Env} (hsc : env.scope = C.sc) (hk : C.sc.kind = .function) (hx : C.sc.names.lookup x = some .local) (hy : C.sc.names.lookup y = some .local) (hz : C.sc.names.lookup z = some .local)
    (hl : (px.line == py.line) = true) (hl2 : (py.line == pz.line) = true) (hxy : (x == y) = false) (hxz : (x == z) = false) (hyz : (y == z) = false) (hu : plain u = true) (hv : plain v = true) (hw : plain w = true)
    (hf : ([u, v, w].all (foldedForSure 8)) = false) (hcn : ([u, v, w].all (constantsAlone 8)) = false) :
    swappedStores [.Tuple [.Name x px, .Name y py, .Name z pz] k pt] (.Tuple [u, v, w] k2 p2) env = pure (some [x, y, z]) := by
  have hb : env.blockKind = .function := by unfold Env.blockKind; rw [hsc, hk]; rfl
  have hlx : env.kindOf x = some .local := by show env.scope.names.lookup x = _; rw [hsc]; exact hx
  have hly : env.kindOf y = some .local := by show env.scope.names.lookup y = _; rw [hsc]; exact hy
  have hlz : env.kindOf z = some .local := by show env.scope.names.lookup z = _; rw [hsc]; exact hz
  have hlp : py.line = px.line := by rw [beq_iff_eq] at hl; exact hl.symm
  have hlq : pz.line = px.line := by rw [beq_iff_eq] at hl2; rw [← hl2, hlp]
  have hxy' : x ≠ y := by simpa using hxy
  have hxz' : x ≠ z := by simpa using hxz
  have hyz' : y ≠ z := by simpa using hyz
  have hdup : [x, y, z].eraseDups = [x, y, z] := by
    simp [List.eraseDups_cons, Ne.symm hxy', Ne.symm hxz', Ne.symm hyz']
  unfold swappedStores
  simp only [List.all_cons, List.all_nil, Bool.and_true] at hf hcn
  simp [hb, hlx, hly, hlz, hlp, hlq, Expr.pos, hf, hcn, hdup]
  rintro (h | h | h)
  · clear hf hcn
    cases u <;> first | (cases h; done) | (cases hu; done)
  · clear hf hcn
    cases v <;> first | (cases h; done) | (cases hv; done)
  · clear hf hcn
    cases w <;> first | (cases h; done) | (cases hw; done)
mutual
theorem psS {X : Cx} {C : Cfg} (ok : XOk X C fs) {np : Nat} : ∀ (ir : Is) (s : Stmt), chkS C np ir s = true → PS X s (rdS X.K fs ir)
  | .set i e, s, h => by
    simp only [chkS] at h
    split at h
    · simp only [Bool.and_eq_true, decide_eq_true_eq] at h
      simp only [rdS]
      exact ps_setC ok h.1.1.1.2 h.1.1.2 h.1.2 h.2
    · cases h
  | .tg t e, s, h => by
    simp only [chkS] at h
    split at h
    · simp only [Bool.and_eq_true, Bool.not_eq_true'] at h
      obtain ⟨⟨⟨h1, h2⟩, h4⟩, h5⟩ := h
      simp only [rdS]
      exact ps_asg (peE ok e _ h5) (pgT ok t _ h2) (sws_tup _ _ _) (stores_no ok.sc h4) rfl
    · cases h
  | .par i j a b, s, h => by
    simp only [chkS] at h
    split at h
    · simp only [Bool.and_eq_true, decide_eq_true_eq, Bool.not_eq_true'] at h
      obtain ⟨⟨⟨⟨⟨⟨⟨⟨⟨⟨⟨⟨⟨⟨h1, h2⟩, h3⟩, h4⟩, h5⟩, h6⟩, h7⟩, h8⟩, h9⟩, h10⟩, h11⟩, h12⟩, h13⟩, h14⟩, h15⟩ := h
      simp only [rdS]
      have hN : X.N = C.N := ok.N
      exact ps_par ok.calm (by rw [hN]; exact ok.nd) (by rw [hN]; exact h4) (by rw [hN]; exact h5) h3 (by rw [ok.sc]; exact h6) (by rw [ok.sc]; exact h7) (pa_cons (peE ok a _ h14) (pa_cons (peE ok b _ h15) pa_nil (star_plain h11)) (star_plain h10)) (stores_par ok.sc ok.kind h6 h7 h8 h9 h10 h11 h12 h13) rfl
    · cases h
  | .par3 i j l a b d, s, h => by
    simp only [chkS] at h
    split at h
    · simp only [Bool.and_eq_true, decide_eq_true_eq, Bool.not_eq_true'] at h
      obtain ⟨⟨⟨⟨⟨⟨⟨⟨⟨⟨⟨⟨⟨⟨⟨⟨⟨⟨⟨⟨⟨⟨⟨⟨h1, h2⟩, h3⟩, h4⟩, h5⟩, h6⟩, h7⟩, h8⟩, h9⟩, h10⟩, h11⟩, h12⟩, h13⟩, h14⟩, h15⟩, h16⟩, h17⟩, h18⟩, h19⟩, h20⟩, h21⟩, h22⟩, h23⟩, h24⟩, h25⟩ := h
      simp only [rdS]
      have hN : X.N = C.N := ok.N
      exact ps_par3 ok.calm (by rw [hN]; exact ok.nd) (by rw [hN]; exact h7) (by rw [hN]; exact h8) (by rw [hN]; exact h9) h4 h5 h6 (by rw [ok.sc]; exact h10) (by rw [ok.sc]; exact h11) (by rw [ok.sc]; exact h12)
        (pa_cons (peE ok a _ h23) (pa_cons (peE ok b _ h24) (pa_cons (peE ok d _ h25) pa_nil (star_plain h20)) (star_plain h19)) (star_plain h18)) (stores_par3 ok.sc ok.kind h10 h11 h12 h13 h14 h15 h16 h17 h18 h19 h20 h21 h22) rfl
    · cases h
  | .setF2 i c k k2 e, s, h => by
    simp only [chkS] at h
    split at h
    · simp only [Bool.and_eq_true, decide_eq_true_eq, Bool.not_eq_true'] at h
      obtain ⟨⟨⟨⟨⟨⟨⟨h1, h2⟩, h3⟩, h4⟩, h5⟩, h6⟩, h7⟩, h8⟩ := h
      simp only [rdS, fN_eq h3, fN_eq h4]
      exact ps_asg (peE ok e _ h8) (pg_tup ok.calm (pgs_cons (pg_fld (vis_ok ok h1)) (pgs_cons (pg_fld (vis_ok ok h2)) pgs_nil))) (sws_no h6 _ _) (stores_no ok.sc h7) rfl
    · cases h
  | .aug i o e, s, h => by
    simp only [chkS] at h
    split at h
    · simp only [Bool.and_eq_true, decide_eq_true_eq] at h
      obtain ⟨⟨⟨h1, h2⟩, h3⟩, h4⟩ := h
      obtain ⟨l1, l2, l3⟩ := loc_ok ok h2
      have hN : X.N = C.N := ok.N
      simp only [rdS]
      cases o with
      | add =>
        simp only [decide_eq_true_eq] at h3
        subst h3
        exact ps_aug (by rw [hN]; exact ok.nd) l1 l2 (peE ok e _ h4) ip_add l3
      | sub =>
        simp only [decide_eq_true_eq] at h3
        subst h3
        exact ps_aug (by rw [hN]; exact ok.nd) l1 l2 (peE ok e _ h4) ip_sub l3
    · cases h
  | .setIx i k e, s, h => by
    simp only [chkS] at h
    split at h
    · simp only [Bool.and_eq_true, Bool.not_eq_true'] at h
      obtain ⟨⟨⟨⟨h1, h2⟩, h3⟩, h4⟩, h5⟩ := h
      simp only [rdS]
      refine ps_asg (peE ok e _ h5) (pg_sub (vis_ok ok h1) (peE ok k _ h4) set_list (fun v => ?_)) (sws_no h3 _ _) ?_ rfl
      · rename_i x p b p2 v' p3
        cases b <;> first | rfl | cases h2
      · rfl
    · cases h
  | .setIx2 i j k e, s, h => by
    simp only [chkS] at h
    split at h
    · simp only [Bool.and_eq_true, Bool.not_eq_true'] at h
      obtain ⟨⟨⟨⟨h1, h2⟩, h3⟩, h4⟩, h5⟩ := h
      simp only [rdS]
      exact ps_asg (peE ok e _ h5) (pg_sub2 (vis_ok ok h1) (vis_ok ok h2) (vis_ok ok h3)) (sws_no h4 _ _) rfl rfl
    · cases h
  | .dput i as e, s, h => by
    simp only [chkS] at h
    split at h
    · rename_i x p1 a b p2 p3 v p4
      simp only [Bool.and_eq_true, Bool.not_eq_true'] at h
      obtain ⟨⟨⟨h1, h2⟩, h3⟩, h4⟩ := h
      simp only [rdS]
      exact ps_dput (by have := ok.units; omega) (vis_ok ok h1) (op_pe ok (o := .bin .Add) rfl rfl (peA ok as [a, b] h3)) (peE ok e _ h4) (sw_no h2 _ _ _)
    · cases h
  | .set2e i k1 k2 e, s, h => by
    simp only [chkS] at h
    split at h
    · simp only [Bool.and_eq_true, Bool.not_eq_true'] at h
      obtain ⟨⟨⟨⟨⟨⟨h1, h2⟩, h3⟩, h4⟩, h5⟩, h6⟩, h7⟩ := h
      simp only [rdS]
      refine ps_asg (peE ok e _ h7) (pg_sub (pe_ix ix_seq (vis_ok ok h1) (peE ok k1 _ h5) (PlainIx_of h2)) (kx_pe ok h6) set_list (fun v => ?_)) (sws_no h4 _ _) ?_ rfl
      · rename_i x p1 a p2 b p3 v' p4
        cases b <;> first | rfl | cases h3
      · rfl
    · cases h
  | .aug2 i k1 k2 o e, s, h => by
    simp only [chkS] at h
    split at h
    · rename_i x p1 a p2 b p3 o' v p4
      simp only [Bool.and_eq_true, Bool.not_eq_true'] at h
      obtain ⟨⟨⟨⟨⟨⟨h1, h2⟩, h3⟩, h4⟩, h5⟩, h6⟩, h7⟩ := h
      simp only [rdS]
      have ha : ∀ ov iv new, augStore b ov iv new = (do holding [new, ov, iv] (setItem ov iv new); release [new, ov, iv] []; pure .next) := by
        intro ov iv new
        cases b <;> first | rfl | cases h3
      have ho := pe_ix ix_seq (vis_ok (p := p1) ok h1) (peE ok k1 _ h5) (PlainIx_of h2) (pos := p2)
      cases o with
      | add =>
        simp only [decide_eq_true_eq] at h4
        subst h4
        exact ps_augS ho (kx_pe ok h6) get_list (peE ok e _ h7) ip_add set_list ha
      | sub =>
        simp only [decide_eq_true_eq] at h4
        subst h4
        exact ps_augS ho (kx_pe ok h6) get_list (peE ok e _ h7) ip_sub set_list ha
    · cases h
  | .slSet i lo hi e, s, h => by
    simp only [chkS] at h
    split at h
    · simp only [Bool.and_eq_true, Bool.not_eq_true'] at h
      obtain ⟨⟨⟨⟨h1, h2⟩, h3⟩, h4⟩, h5⟩ := h
      simp only [rdS]
      exact ps_asg (peE ok e _ h5) (pg_slc (vis_ok ok h1) (po_some (peE ok lo _ h3)) (po_some (peE ok hi _ h4))) (sws_no h2 _ _) rfl rfl
    · cases h
  | .augIx i k o e, s, h => by
    simp only [chkS] at h
    split at h
    · rename_i x p b p2 o' v p3
      simp only [Bool.and_eq_true, Bool.not_eq_true'] at h
      obtain ⟨⟨⟨⟨h1, h2⟩, h3⟩, h4⟩, h5⟩ := h
      simp only [rdS]
      have ha : ∀ ov iv new, augStore b ov iv new = (do holding [new, ov, iv] (setItem ov iv new); release [new, ov, iv] []; pure .next) := by
        intro ov iv new
        cases b <;> first | rfl | cases h2
      cases o with
      | add =>
        simp only [decide_eq_true_eq] at h3
        subst h3
        exact ps_augS (vis_ok ok h1) (peE ok k _ h4) get_list (peE ok e _ h5) ip_add set_list ha
      | sub =>
        simp only [decide_eq_true_eq] at h3
        subst h3
        exact ps_augS (vis_ok ok h1) (peE ok k _ h4) get_list (peE ok e _ h5) ip_sub set_list ha
    · cases h
  | .setF i c k frz e, s, h => by
    simp only [chkS] at h
    split at h
    · simp only [Bool.and_eq_true, decide_eq_true_eq] at h
      obtain ⟨⟨⟨h1, h2⟩, h3⟩, h4⟩ := h
      simp only [rdS, fN_eq h2]
      exact ps_fld (vis_ok ok h1) (peE ok e _ h4) sw_attr
    · cases h
  | .augF i c k o e, s, h => by
    simp only [chkS] at h
    split at h
    · simp only [Bool.and_eq_true, decide_eq_true_eq] at h
      obtain ⟨⟨⟨⟨h1, h2⟩, h3⟩, h4⟩, h5⟩ := h
      simp only [rdS, fN_eq h2]
      cases o with
      | add =>
        simp only [decide_eq_true_eq] at h4
        subst h4
        exact ps_fldaug (vis_ok ok h1) (peE ok e _ h5) in_add
      | sub =>
        simp only [decide_eq_true_eq] at h4
        subst h4
        exact ps_fldaug (vis_ok ok h1) (peE ok e _ h5) in_sub
    · cases h
  | .setIxF i c k x e, s, h => by
    simp only [chkS] at h
    split at h
    · rename_i o b p v p3
      simp only [Bool.and_eq_true, Bool.not_eq_true'] at h
      obtain ⟨⟨⟨h1, h2⟩, h3⟩, h4⟩ := h
      obtain ⟨a, _, _⟩ := fld_ok ok h1
      simp only [rdS]
      refine ps_asg (peE ok e _ h4) (pg_sub a (peE ok x _ h3) set_list (fun v => ?_)) sw_subs ?_ rfl
      · cases b <;> first | rfl | cases h2
      · rfl
    · cases h
  | .lkS i c k a, s, h => by
    simp only [chkS] at h
    simp only [rdS]
    exact psS ok a s h
  | .lkV i a, s, h => by
    simp only [chkS] at h
    simp only [rdS]
    exact psS ok a s h
  | .fzS i c k a, s, h => by
    simp only [chkS] at h
    simp only [rdS]
    exact psS ok a s h
  | .stk, s, h => by
    simp only [rdS]
    exact ⟨fun _ _ _ _ _ _ q => False.elim q⟩
  | .forG g tg b, s, h => by
    simp only [chkS] at h
    split at h
    · simp only [Bool.and_eq_true, Bool.not_eq_true'] at h
      obtain ⟨⟨⟨⟨h1, h2⟩, h3⟩, h4⟩, h5⟩ := h
      simp only [rdS]
      exact ps_for (by rw [ok.xe]; exact PassesOwn.never) ok.calm (g_pi ok h5) (pgT ok tg _ h2) (psSs ok b _ h4) (folded_ok h3 _)
    · cases h
  | .ex e, s, h => by
    simp only [chkS] at h
    split at h
    · simp only [Bool.and_eq_true, Bool.not_eq_true'] at h
      simp only [rdS]
      exact ps_expr (peE ok e _ h.2) (sw_no h.1 _ _ _)
    · cases h
  | .ret e, s, h => by
    simp only [chkS] at h
    split at h
    · simp only [rdS]; exact ps_ret (peE ok e _ h)
    · cases h
  | .retM i, s, h => by
    simp only [chkS] at h
    split at h
    · simp only [Bool.and_eq_true] at h
      simp only [rdS]; exact ps_ret (vis_ok ok h.2)
    · cases h
  | .retN, s, h => by
    simp only [chkS] at h
    split at h
    · simp only [rdS]; exact ps_retN
    · cases h
  | .ite t a b, s, h => by
    simp only [chkS] at h
    split at h
    · simp only [Bool.and_eq_true] at h
      simp only [rdS]
      exact ps_if (peT ok t _ h.1.1) (psSs ok a _ h.1.2) (psSs ok b _ h.2)
    · cases h
  | .for_ k as tg b, s, h => by
    simp only [chkS] at h
    split at h
    · simp only [Bool.and_eq_true, Bool.not_eq_true'] at h
      obtain ⟨⟨⟨⟨h1, h2⟩, h3⟩, h4⟩, h5⟩ := h
      split at h5
      · rename_i es he
        simp only [rdS]
        exact ps_for (by rw [ok.xe]; exact PassesOwn.never) ok.calm (it_pi ok he (peA ok as es h5)) (pgT ok tg _ h2) (psSs ok b _ h4) (folded_ok h3 _)
      · cases h5
    · cases h
  | .while_ t b, s, h => by
    simp only [chkS] at h
    split at h
    · simp only [Bool.and_eq_true] at h
      simp only [rdS]
      exact ps_while (by rw [ok.xe]; exact PassesOwn.never) (peT ok t _ h.1) (psSs ok b _ h.2)
    · cases h
  | .pass, s, h => by
    simp only [chkS] at h
    split at h
    · simp only [rdS]; exact ps_pass
    · cases h
  | .brk, s, h => by
    simp only [chkS] at h
    split at h
    · simp only [rdS]; exact ps_break
    · cases h
  | .cnt, s, h => by
    simp only [chkS] at h
    split at h
    · simp only [rdS]; exact ps_continue
    · cases h
theorem psSs {X : Cx} {C : Cfg} (ok : XOk X C fs) {np : Nat} : ∀ (ir : Iss) (ss : List Stmt), chkSs C np ir ss = true → PSs X ss (rdSs X.K fs ir)
  | .nil, ss, h => by
    simp only [chkSs] at h
    cases ss with
    | nil => simp only [rdSs]; exact pss_nil
    | cons _ _ => cases h
  | .cons s r, ss, h => by
    simp only [chkSs] at h
    split at h
    · simp only [Bool.and_eq_true] at h
      simp only [rdSs]
      exact pss_cons (psS ok s _ h.1) (psSs ok r _ h.2)
    · cases h
end
end
end MP
namespace MP
open PySem L2
variable [LamT]
noncomputable def enOf (φs : List Φ) (cs : List PyData) (ds : List (List (Str × Int)) := []) (xs : List ΦX := []) (rt : RT := []) : En := ⟨fun j => (φs[j]?).getD fun _ => none, fun j => (cs[j]?).getD .none, fun j => (ds[j]?).getD [], fun j => (xs[j]?).getD fun _ => none, rt⟩
def CsOk (K : PySem.W.Frag) (mg : Str → Option Value) : List (Str × PyData) → Prop
  | [] => True
  | (x, d) :: r => (∃ v, Dt K (fun _ => none) d v ∧ ∃ u, mg x = some u ∧ RelV v u) ∧ CsOk K mg r
def DsOk (K : PySem.W.Frag) (w : World) (mg : Str → Option Value) : List (Str × List (Str × Int)) → Prop
  | [] => True
  | (x, t) :: r => (∃ p, mg x = some (.ref p) ∧ ∀ z i, t.lookup z = some i → KDct K w p z (.int i)) ∧ DsOk K w mg r
def csv (cs : List (Str × PyData)) : List PyData := cs.map (·.2)
def csx (cs : List (Str × PyData)) : List Str := cs.map (·.1)
def dsv (ds : List (Str × List (Str × Int))) : List (List (Str × Int)) := ds.map (·.2)
def dsx (ds : List (Str × List (Str × Int))) : List Str := ds.map (·.1)
theorem cs_ok {K : PySem.W.Frag} {mg : Str → Option Value} : ∀ {cs : List (Str × PyData)}, CsOk K mg cs → ∃ vs : Nat → V, (∀ j, Dt K (fun _ => none) (((csv cs)[j]?).getD .none) (vs j)) ∧ ∀ (j : Nat) x, (csx cs)[j]? = some x → ∃ u, mg x = some u ∧ RelV (vs j) u
  | [], _ => ⟨fun _ => .non, fun j => by simp only [csv, List.map_nil, List.getElem?_nil, Option.getD]; exact dtNone, fun j x h => by simp [csx] at h⟩
  | (x, d) :: r, h => by
    obtain ⟨vs, a, b⟩ := cs_ok h.2
    obtain ⟨v, h1, h2⟩ := h.1
    refine ⟨fun j => match j with
      | 0 => v
      | j + 1 => vs j, fun j => ?_, fun j y hy => ?_⟩
    · cases j with
      | zero => exact h1
      | succ j => exact a j
    · cases j with
      | zero =>
        simp only [csx, List.map_cons, List.getElem?_cons_zero, Option.some.injEq] at hy
        subst hy
        exact h2
      | succ j => exact b j y hy
theorem ds_ok {K : PySem.W.Frag} {w : World} {mg : Str → Option Value} : ∀ {ds : List (Str × List (Str × Int))}, DsOk K w mg ds → ∀ (j : Nat) x, (dsx ds)[j]? = some x → ∃ p, mg x = some (.ref p) ∧ ∀ z i, (((dsv ds)[j]?).getD []).lookup z = some i → KDct K w p z (.int i)
  | [], _, j, x, h => by simp [dsx] at h
  | (x, t) :: r, h, j, y, hy => by
    cases j with
    | zero =>
      simp only [dsx, List.map_cons, List.getElem?_cons_zero, Option.some.injEq] at hy
      subst hy
      exact h.1
    | succ j => exact ds_ok h.2 j y hy
section
variable {P : Program} {w : World} {K : PySem.W.Frag} {mg : Str → Option Value} {base : Heap}
def Tab (P : Program) (w : World) (K : PySem.W.Frag) (mg : Str → Option Value) (base : Heap) (k : Nat) (fns : List FT) (φs : List Φ) : Prop :=
  fns.length = φs.length ∧ ∀ (j : Nat) ft φ, fns[j]? = some ft → φs[j]? = some φ → ∃ f fd, FnAt K mg ft f ∧ Binds K fd ft.ps [] ∧ (∀ p ∈ ft.kws, KB K fd ft.ps p.1 p.2) ∧ FnOk P w K mg base CX0 k f fd ft.ps (spOf K φ)
theorem tab_nil : Tab P w K mg base 0 [] [] := ⟨rfl, fun j ft φ h => by simp at h⟩
theorem def_ok {k : Nat} {x : Str} {st : Stmt} {f : Addr} {fd : FuncData} {N ps free : List Str} {fns : List FT} {φs : List Φ} {cs : List (Str × PyData)} {ds : List (Str × List (Str × Int))} {cl : List Nat} {qx : Str} {body : Iss}
    (F : FunD K x qx (defArgs st) (defBody st) (defScope st) [] [] f fd) (S : FnScope N ps (defScope st)) (T : Tab P w K mg base k fns φs) (hcs : CsOk K mg cs) (hfree : ∀ y ∈ free, mg y = none) (hk : CsK K cl) (hds : DsOk K w mg ds)
    (hchk : chkSs ⟨N, defScope st, fun _ => true, free, csx cs, fns, cl, dsx ds, []⟩ ps.length body (defBody st) = true) (hwf : wfSs cl ps.length body = true) (hng : free.contains ("str()" : Str) = false := by decide +kernel) (hnl : free.contains ("lambda()" : Str) = false := by decide +kernel) (hnx : free.contains ("lamX()" : Str) = false := by decide +kernel) :
    FnOk P w K mg base CX0 (k + 2) f fd ps (spOf K (fnΦ ps.length (N.length - ps.length) (evSs (enOf φs (csv cs) (dsv ds)) body))) := by
  have hpl : ps.length ≤ N.length := by have := congrArg List.length S.pre; rw [List.length_take] at this; omega
  have hN : N.length = ps.length + (N.length - ps.length) := by omega
  obtain ⟨vs0, c1, c2⟩ := cs_ok hcs
  have hs := simSs (fs := ⟨enOf φs (csv cs) (dsv ds), vs0⟩) (np := ps.length) c1 hk body hwf
  refine F.ok S (fun vs H Q E h => (fn_sim hN hs h).1) fun cdv A outer s H vs Q E hr h => ⟨_, PSs.nox (psSs (fs := ⟨enOf φs (csv cs) (dsv ds), vs0⟩) ?_ body _ hchk), (fn_sim hN hs h).2⟩
  exact {
    N := rfl
    nd := S.nd
    sc := rfl
    kind := S.kind
    calm := rfl
    fn := fun _ _ => rfl
    xe := rfl
    units := by have := hr.un; show (A.deeper _).units + 66 < cLine; omega
    free := fun y hy => hfree y (by simpa using hy)
    cst := c2
    fns := fun j ft hj => by
      have hj2 : j < φs.length := by
        rw [← T.1]
        exact (List.getElem?_eq_some_iff.mp hj).1
      obtain ⟨f', fd', a1, a3, a4, a5⟩ := T.2 j ft (φs[j]) hj (List.getElem?_eq_getElem hj2)
      have e0 : (enOf φs (csv cs) (dsv ds)).f j = φs[j] := by
        show (φs[j]?).getD _ = _
        rw [List.getElem?_eq_getElem hj2]; rfl
      show FnIn _ ft ((enOf φs (csv cs) (dsv ds)).f j)
      rw [e0]
      exact ⟨f', fd', k, hr, a1, a3, a4, a5⟩
    cls := hk
    dst := ds_ok hds
    gd := fun h => by rw [show (free.contains ("str()" : Str) = true) = (false = true) from congrArg (· = true) hng] at h; cases h
    lam := fun h => by
      have z := (Bool.and_eq_true_iff.mp h).1
      rw [show (free.contains ("lambda()" : Str) = true) = (false = true) from congrArg (· = true) hnl] at z; cases z
    lamX := fun h => by
      have z := (Bool.and_eq_true_iff.mp h).1
      rw [show (free.contains ("lamX()" : Str) = true) = (false = true) from congrArg (· = true) hnx] at z; cases z }
theorem tab_cons {k : Nat} {fns : List FT} {φs : List Φ} {ft : FT} {φ : Φ} {f : Addr} {fd : FuncData} (T : Tab P w K mg base k fns φs) (hm : FnAt K mg ft f) (hb : Binds K fd ft.ps [])
    (hkb : ∀ p ∈ ft.kws, KB K fd ft.ps p.1 p.2) (hF : FnOk P w K mg base CX0 (k + 2) f fd ft.ps (spOf K φ)) : Tab P w K mg base (k + 2) (fns ++ [ft]) (φs ++ [φ]) := by
  refine ⟨by simp [T.1], fun j ft' φ' h1 h2 => ?_⟩
  by_cases hj : j < fns.length
  · rw [List.getElem?_append_left hj] at h1
    rw [List.getElem?_append_left (by rw [← T.1]; exact hj)] at h2
    obtain ⟨f', fd', a1, a3, a4, a5⟩ := T.2 j ft' φ' h1 h2
    exact ⟨f', fd', a1, a3, a4, a5.mono (by omega)⟩
  · have e1 : j = fns.length := by
      have := (List.getElem?_eq_some_iff.mp h1).1
      rw [List.length_append, List.length_singleton] at this
      omega
    subst e1
    rw [List.getElem?_append_right (Nat.le_refl _), Nat.sub_self] at h1
    rw [T.1, List.getElem?_append_right (Nat.le_refl _), Nat.sub_self] at h2
    simp only [List.getElem?_cons_zero, Option.some.injEq] at h1 h2
    subst h1; subst h2
    exact ⟨f, fd, hm, hb, hkb, hF⟩
theorem at_def {x : Str} {ps : List Str} {kws : List (List Str × List Nat)} {f : Addr} (hm : mg x = some (.ref f)) (hk : PySem.W.keepIn K (.ref f) = true) : FnAt K mg ⟨x, ps, kws, none⟩ f :=
  ⟨fun _ => ⟨hm, hk⟩, fun c h => (by cases h)⟩
def startG (H : Hp) : Hp := fun a => match H a with
  | some (.tbl _) => none
  | o => o
theorem startG_of {H : Hp} {a : Addr} {o : HO} (h : H a = some o) (n : ∀ ps, o ≠ .tbl ps) : startG H a = some o := by
  unfold startG
  rw [h]
  cases o <;> first | rfl | exact absurd rfl (n _)
theorem startG_le {H : Hp} {a : Addr} {o : HO} (h : startG H a = some o) : H a = some o := by
  unfold startG at h
  split at h
  · cases h
  · exact h
theorem startG_tb {H : Hp} {a : Addr} {ps : Array Value} (h : H a = some (.tbl ps)) : startG H a = none := by
  unfold startG
  rw [h]
theorem start_ok {H : Hp} (hT : ∀ p ∈ LamT.T, H p.1 = some (.tbl #[])) : Ok (startG H) H fun _ => 0 :=
  ⟨fun _ _ z => startG_le z, fun _ => Nat.zero_le _, fun _ z => absurd rfl z, fun _ z => absurd rfl z, fun _ _ z => startG_of z (fun _ q => by cases q), fun _ _ z => ⟨rfl, startG_tb z⟩, fun p hp => ⟨#[], hT p hp, True.intro, fun pos cv hc => by
    have z : codeAmong pos [] = some cv := hc
    simp [codeAmong] at z⟩, fun _ _ z => startG_of z (fun _ q => by cases q)⟩
theorem law_spT {φ : Φ} {n : Nat} (h : ∀ ns : List Int, ns.length ≤ n → ∃ ys, φ [.sc ns] = some (.fz (.bool true), ys)) (H : Hp) (a : Addr) (ns : List Int) (hl : ns.length ≤ n) (hT : ∀ p ∈ LamT.T, H p.1 = some (.tbl #[])) (hS : SqL K H a (ns.map V.int)) :
    spOf K φ [.ref a] H (fun v _ => v = .bl true) fun _ _ _ => False := by
  obtain ⟨ys, e⟩ := h ns hl
  have hS' : SqL K (startG H) a (ns.map V.int) := by
    rcases hS with q | q
    · refine .inl ?_
      rcases q with q | ⟨o, q⟩
      · exact .inl (startG_of q fun _ z => by cases z)
      · exact .inr ⟨o, startG_of q fun _ z => by cases z⟩
    · exact .inr q
  refine ⟨[.sc ns], fun _ => 0, startG H, .fz (.bool true), ys, ?_, start_ok hT, e, fun v Fx F' G' H' o _ _ _ => ?_⟩
  · simp only [OwnAll, Own]
    exact ⟨.ref a, [], fun _ => 0, fun _ => 0, rfl, ⟨⟨a, rfl, hS'⟩, fun _ => rfl⟩, ⟨rfl, fun _ => rfl⟩, fun _ => rfl⟩
  · simp only [Own, Dt] at o
    exact o.1
end
end MP
namespace MP
open PySem L2
end MP
namespace MP
open PySem PySem.Spec PyProof.Rows L2
variable [LamT]
def lamQ (qx : Str) (sc : Scope) : Str := (envOfC qx sc 0 0 .none).qual ++ "<lambda>"
section
variable {P : Program} {w : World} {K : PySem.W.Frag} {mg : Str → Option Value} {base : Heap}
theorem code_is {x qual : Str} {params : Arguments} {body : List Stmt} {scope : Scope} {f : Addr} {fd : FuncData} {p : Str × Option Str} (F : FunD K x qual params body scope [] [] f fd) (hp : He.fAd K p = f) : fd.code = .ref (He.codeOf K p) := by
  obtain ⟨oc, od, dV, kV, doc, pm, an, cdv, ct, osl, rfl, lk, hcd, _, _⟩ := F.ex
  obtain ⟨c, rfl⟩ := He.codeIn_ref hcd
  rw [He.codeOf_eq (c := c) (by rw [hp]; exact lk) rfl] <;> rfl
end
end MP
namespace MPH
open PySem PySem.Spec PyProof.Rows L2 HotX L2H
def spI (C : Addr) (fs : List Str) : Sp := fun vs H Q _ => ∃ (a : Addr) (ws : List V), vs = .ref a :: ws ∧ ws.length = fs.length ∧ H a = some (exo a C none) ∧
  ∀ (dx : Addr) (H' : Hp), H dx = none → dx ≠ a → (∀ b, b ≠ a → b ≠ dx → H' b = H b) → H' a = some (exo a C (some dx)) → H' dx = some (exd dx (fs.zip ws).reverse) → Q .non H'
inductive StoL : List Stmt → List Str → Prop
  | nil : StoL [] []
  | cons {p1 p2 p3 p4 : Pos} {f : Str} {ss : List Stmt} {fl : List Str} (h : StoL ss fl) : StoL (.Assign [.Attribute (.Name "self" p1) f p2] (.Name f p3) p4 :: ss) (f :: fl)
def stoC : List Stmt → Option (List Str)
  | [] => some []
  | s :: ss => match s with
    | .Assign [.Attribute (.Name x _) f _] (.Name g _) _ => if x == ("self" : Str) && f == g then (stoC ss).map (f :: ·) else none
    | _ => none
theorem stoC_ok : ∀ {ss : List Stmt} {fl : List Str}, stoC ss = some fl → StoL ss fl
  | [], fl, h => by
    simp only [stoC, Option.some.injEq] at h
    subst h
    exact .nil
  | s :: ss, fl, h => by
    unfold stoC at h
    split at h
    · split at h
      · rename_i q
        rw [Bool.and_eq_true, beq_iff_eq, beq_iff_eq] at q
        obtain ⟨rfl, rfl⟩ := q
        rw [Option.map_eq_some_iff] at h
        obtain ⟨r, h, rfl⟩ := h
        exact .cons (stoC_ok h)
      · cases h
    · cases h
def initC : List Stmt → Option (Str × List Str)
  | .Expr (.Call (.Attribute (.Name b _) m ap) [.Name x _, .Constant (.str z) _ _] [] cp) _ :: s :: ss => if m == ("__init__" : Str) && x == ("self" : Str) && (ap.endLine == cp.line) then (stoC (s :: ss)).map (b, ·) else none
  | _ => none
theorem initC_ok {ss : List Stmt} {b : Str} {fl : List Str} (h : initC ss = some (b, fl)) : ∃ p1 p2 p3 p4 p5 p6 j z r, (p2.endLine == p5.line) = true ∧ fl ≠ [] ∧ StoL r fl ∧ ss = .Expr (.Call (.Attribute (.Name b p1) "__init__" p2) [.Name "self" p3, .Constant (.str z) j p4] [] p5) p6 :: r := by
  unfold initC at h
  split at h
  · split at h
    · rename_i q
      rw [Bool.and_eq_true, Bool.and_eq_true, beq_iff_eq, beq_iff_eq] at q
      obtain ⟨⟨rfl, rfl⟩, ql⟩ := q
      rw [Option.map_eq_some_iff] at h
      obtain ⟨fl', h, e⟩ := h
      cases e
      have k := stoC_ok h
      exact ⟨_, _, _, _, _, _, _, _, _, ql, fun z => (by subst z; cases k), k, rfl⟩
    · cases h
  · cases h
section
variable {X : Cx} {C a : Addr}
structure Nm (X : Cx) (i : Nat) (x : Str) : Prop where
  at_ : X.N[i]? = some x
  vis : Vis X.env.scope x
  d1 : (x == ("__debug__" : Str)) = false
  d2 : (x == ("__classdict__" : Str)) = false
theorem Nm.pe {i : Nat} {x : Str} {p : Pos} (h : Nm X i x) : PE X (.Name x p) (tVar i) := pe_var h.at_ h.vis h.d1 h.d2
theorem sto_pss (T : OexC X.K C) (n0 : Nm X 0 "self") : ∀ {ss : List Stmt} {fl : List Str} (j : Nat), StoL ss fl → (∀ i f, fl[i]? = some f → Nm X (j + i) f ∧ PySem.W.findIn X.K (.ref C) f = some none) →
    PSs X ss (fun D σ H => σ[0]? = some (some (.ref a)) ∧ ∃ (dx : Addr) (fs : List (Str × V)) (ws : List V), dx ≠ a ∧ H a = some (exo a C (some dx)) ∧ H dx = some (exd dx fs) ∧ fs.length + fl.length ≤ 900 ∧ ws.length = fl.length ∧ (∀ i w, ws[i]? = some w → σ[j + i]? = some (some w)) ∧
      ∀ H', (∀ b, b ≠ dx → H' b = H b) → H' dx = some (exd dx ((fl.zip ws).reverse ++ fs)) → D.nx σ H')
  | _, _, j, .nil, _ => ⟨fun pins s σ H D I ⟨_, dx, fs, ws, _, ha, hd, _, hl, _, k⟩ => (pss_nil (X := X)).run pins s σ H D I (by
      have e : ws = [] := List.eq_nil_of_length_eq_zero hl
      subst e
      exact k H (fun _ _ => rfl) hd)⟩
  | _, _, j, .cons (f := f) (ss := ss) (fl := fl) (p1 := p1) (p2 := p2) (p3 := p3) (p4 := p4) l, hn => ⟨fun pins s σ H D I ⟨h0, dx, fs, ws, ne, ha, hd, h9, hl, hw, k⟩ => by
      obtain ⟨nf, no⟩ := hn 0 f rfl
      cases ws with
      | nil => simp at hl
      | cons w ws =>
      have t := pss_cons (ps_ost (X := X) (f := f) (p' := p2) (pos := p4) (n0.pe (p := p1)) (nf.pe (p := p3))) (sto_pss T n0 (j + 1) l fun i g hg => by
        have := hn (i + 1) g (by simpa using hg)
        rw [show j + 1 + i = j + (i + 1) by omega]
        exact this)
      refine t.run pins s σ H D I ?_
      have ew : σ[j]? = some (some w) := by simpa using hw 0 w rfl
      refine ⟨w, ew, .ref a, h0, a, C, rfl, T, no, .inr ⟨dx, fs, ha, hd, by simp at h9; omega, h0, dx, (f, w) :: fs, ws, ne, ?_, upd_same, by simp at h9 ⊢; omega, by simpa using hl, fun i u hu => ?_, fun H' hb hd' => ?_⟩⟩
      · rw [upd_ne ne.symm]; exact ha
      · rw [show j + 1 + i = j + (i + 1) by omega]
        exact hw (i + 1) u (by simpa using hu)
      · refine k H' (fun b h => by rw [hb b h, upd_ne h]) ?_
        rw [hd']
        simp⟩
theorem m_eq {env : Env} {o : Expr} {m : Str} {apos pos : Pos} {es : List Expr} (hb : attributeBase o m env (eval o env) = eval o env) (hf : methodCallForm (es.length + ([] : List Keyword).length) (backTo pos (starEach es env)) (backToKw pos (keywordEach [] env)) = true) (hl : (apos.endLine == pos.line) = true) :
    eval (.Call (.Attribute o m apos) es [] pos) env = (do
      let ov ← eval o env
      standAt apos.atName
      let (f, first) ← holding [ov] (getMethod ov m (plainOf o env))
      callWith pos f first (backTo pos (starEach es env)) (backToKw pos (keywordEach [] env))) := by
  rw [arm_eval_Call, hb]
  congr 1
  funext ov
  congr 1
  funext _
  exact mcall_line hf hl
theorem init_pss {B : Addr} {b : Str} {mc : Value} (T : OexC X.K C) (n0 : Nm X 0 "self") (hg : Gl X b) (hm : X.mg b = some (.ref B)) (rd : PySem.W.readsIn X.K B mc = true) (ga : PySem.W.specialIn X.K (.ref B) "__getattribute__" = some (some (.builtin "type.__getattribute__")))
    (at_ : PySem.W.findCls X.K (.ref B) mc "__init__" = some (.val (.builtin "ValueError.__init__"))) (hdb : (b == ("__debug__" : Str)) = false) {ss : List Stmt} {fl : List Str} (hi : initC ss = some (b, fl)) (hn : ∀ i f, fl[i]? = some f → Nm X (1 + i) f ∧ PySem.W.findIn X.K (.ref C) f = some none) (h9 : fl.length ≤ 100) :
    PSs X ss (fun D σ H => σ[0]? = some (some (.ref a)) ∧ H a = some (exo a C none) ∧ ∃ ws : List V, ws.length = fl.length ∧ (∀ i w, ws[i]? = some w → σ[1 + i]? = some (some w)) ∧
      ∀ (dx : Addr) H', H dx = none → dx ≠ a → (∀ b, b ≠ a → b ≠ dx → H' b = H b) → H' a = some (exo a C (some dx)) → H' dx = some (exd dx (fl.zip ws).reverse) → D.nx σ H') := by
  obtain ⟨p1, p2, p3, p4, p5, p6, j, z, r, ql, ne, l, rfl⟩ := initC_ok hi
  refine ⟨fun pins s σ H D I ⟨h0, ha, ws, hl, hw, k⟩ => ?_⟩
  cases l with
  | nil => exact absurd rfl ne
  | @cons q1 q2 q3 q4 f ss fl l =>
    cases ws with
    | nil => simp at hl
    | cons w ws =>
      obtain ⟨nf, no⟩ := hn 0 f rfl
      have t := pss_cons (ps_expr (pos := p6) (pe_cinit (p1 := p1) (p2 := p2) (pos := p5) hg hm rd ga at_ (pa_cons (n0.pe (p := p3)) (pa_cons (pe_str (x := z) (j := j) (pos := p4)) pa_nil)) hdb (m_eq rfl rfl ql)))
        (pss_cons (ps_ost (X := X) (f := f) (p' := q2) (pos := q4) (n0.pe (p := q1)) (nf.pe (p := q3))) (sto_pss (a := a) T n0 2 l fun i g hg => by
          have := hn (i + 1) g (by simpa using hg)
          rw [show 2 + i = 1 + (i + 1) by omega]
          exact this))
      refine t.run pins s σ H D I ?_
      have ew : σ[1]? = some (some w) := by simpa using hw 0 w rfl
      refine ⟨.ref a, h0, a, C, [.str z], rfl, by simp, T, ha, w, ew, .ref a, h0, a, C, rfl, T, no, .inl ⟨ha, fun dx hx ne' => ⟨h0, dx, [(f, w)], ws, ne', upd_same, ?_, by simp at h9 ⊢; omega, by simpa using hl, fun i u hu => ?_, fun H' hb hd' => ?_⟩⟩⟩
      · rw [upd_ne ne', upd_same]
      · rw [show 2 + i = 1 + (i + 1) by omega]
        exact hw (i + 1) u (by simpa using hu)
      · refine k dx H' hx ne' (fun b h1 h2 => ?_) ?_ ?_
        · rw [hb b h2, upd_ne h1, upd_ne h2]
        · rw [hb a ne'.symm, upd_same]
        · rw [hd']
          simp
end
end MPH
namespace MPH
open PySem PySem.Spec PyProof.Rows L2 HotX L2H
def oexB (K : PySem.W.Frag) (C : Addr) : Bool := (match K.lookup C with
  | some ⟨.type "type", _, .cls cd, sl⟩ => (match cd.mro, sl.toList with
    | .ref C' :: bm, [_, _, _, _, some (.builtin n), _] => C' == C && n == "ValueError.__new__" && !cd.hasDel && cd.hasDict && PySem.HandSPX.refsVE bm
    | _, _ => false)
  | _ => false) && (He.eqO (PySem.W.findIn K (.ref C) "__setattr__") (some (some (.builtin "object.__setattr__"))) && (decide (PySem.W.subIn K (.ref C) (.type "BaseException") = some true) && (decide (PySem.W.typeIn K (.ref C) = some (.type "type")) && PySem.W.keepIn K (.ref C))))
theorem oexB_ok {K : PySem.W.Frag} {C : Addr} (h : oexB K C = true) : OexC K C := by
  unfold oexB at h
  rw [Bool.and_eq_true, Bool.and_eq_true, Bool.and_eq_true, Bool.and_eq_true, decide_eq_true_eq, decide_eq_true_eq] at h
  obtain ⟨q, h1, h2, h3, h4⟩ := h
  refine ⟨?_, He.eqO_ok h1, h2, h3, h4⟩
  split at q
  · rename_i dd cd sl ho
    split at q
    · rename_i C' bm k0 k1 k2 k3 n k5 hm hs
      simp only [Bool.and_eq_true, beq_iff_eq, Bool.not_eq_true'] at q
      obtain ⟨⟨⟨⟨rfl, rfl⟩, hdel⟩, hd⟩, hr⟩ := q
      obtain ⟨nm, bs, mro, ns, qn, hd', sn, sub, ab, col, del⟩ := cd
      dsimp only at hm hdel hd
      subst hm hdel hd
      have hsl : sl = #[k0, k1, k2, k3, some (.builtin "ValueError.__new__"), k5] := by
        obtain ⟨l⟩ := sl
        simp only at hs
        rw [hs]
      subst hsl
      exact ⟨nm, qn, ns, bs, bm, sn, sub, ab, col, dd, k0, k1, k2, k3, k5, ho, hr⟩
    · cases q
  · cases q
def ecB (K : PySem.W.Frag) (D : Addr) : Bool := (PySem.W.clsIn K D).isSome && (He.eqO (PySem.W.findIn K (.ref D) "__getattribute__") (some (some (.builtin "BaseException.__getattribute__"))) && (He.eqO (PySem.W.findIn K (.ref D) "__getattr__") (some none) &&
  (decide (PySem.W.subIn K (.ref D) (.type "BaseException") = some true) && (He.eqO (PySem.W.findIn K (.ref D) "__class__") (some (some (.builtin "object.__class__"))) && (He.eqO (PySem.W.specialIn K (.builtin "object.__class__") "__get__") (some (some (.builtin "getset_descriptor.__get__"))) &&
  (decide (PySem.W.takesIn K (.builtin "object.__class__") = some true) && (decide (PySem.W.mroIn K D (.type "object") = some true) && PySem.W.hasDictIn K D)))))))
theorem ecB_ok {K : PySem.W.Frag} {D : Addr} (h : ecB K D = true) : EC K D := by
  unfold ecB at h
  simp only [Bool.and_eq_true, decide_eq_true_eq] at h
  obtain ⟨h1, h2, h3, h4, h5, h6, h7, h8, h9⟩ := h
  exact ⟨h1, He.eqO_ok h2, He.eqO_ok h3, h4, He.eqO_ok h5, He.eqO_ok h6, h7, h8, h9⟩
def fcB : Option PySem.W.CFound → Bool
  | some (.val (.builtin n)) => n == "ValueError.__init__"
  | _ => false
theorem fcB_ok {o : Option PySem.W.CFound} (h : fcB o = true) : o = some (.val (.builtin "ValueError.__init__")) := by
  unfold fcB at h
  split at h
  · rw [beq_iff_eq] at h
    rw [h]
  · cases h
def iniB (K : PySem.W.Frag) (c b : Str) (fl : List Str) : Bool := oexB K (He.ga K c) && (PySem.W.readsIn K (He.ga K b) (.type "type") && (He.eqO (PySem.W.specialIn K (.ref (He.ga K b)) "__getattribute__") (some (some (.builtin "type.__getattribute__"))) && (fcB (PySem.W.findCls K (.ref (He.ga K b)) (.type "type") "__init__") &&
  (fl.all (fun f => He.eqO (PySem.W.findIn K (.ref (He.ga K c)) f) (some none)) && (He.eqO (PySem.W.findIn K (.ref (He.ga K c)) "__init__") (some (some (.ref (He.ma K (He.ga K c) "__init__")))) && decide (PySem.W.typeIn K (.ref (He.ma K (He.ga K c) "__init__")) = some (.type "function")))))))
structure IniOk (K : PySem.W.Frag) (c b : Str) (fl : List Str) : Prop where
  oex : OexC K (He.ga K c)
  rd : PySem.W.readsIn K (He.ga K b) (.type "type") = true
  ga : PySem.W.specialIn K (.ref (He.ga K b)) "__getattribute__" = some (some (.builtin "type.__getattribute__"))
  fc : PySem.W.findCls K (.ref (He.ga K b)) (.type "type") "__init__" = some (.val (.builtin "ValueError.__init__"))
  no : ∀ f ∈ fl, PySem.W.findIn K (.ref (He.ga K c)) f = some none
  ini : PySem.W.findIn K (.ref (He.ga K c)) "__init__" = some (some (.ref (He.ma K (He.ga K c) "__init__")))
  ty : PySem.W.typeIn K (.ref (He.ma K (He.ga K c) "__init__")) = some (.type "function")
theorem iniB_ok {K : PySem.W.Frag} {c b : Str} {fl : List Str} (h : iniB K c b fl = true) : IniOk K c b fl := by
  unfold iniB at h
  simp only [Bool.and_eq_true, decide_eq_true_eq, List.all_eq_true] at h
  obtain ⟨h1, h2, h3, h4, h5, h6, h7⟩ := h
  exact ⟨oexB_ok h1, h2, He.eqO_ok h3, fcB_ok h4, fun f hf => He.eqO_ok (h5 f hf), He.eqO_ok h6, h7⟩
def iniS (b : Str) (fl : List Str) (sc : Scope) : Bool := decide (sc.names.lookup b = some .globalImplicit) && !(b == ("__debug__" : Str)) && (((("self" : Str) :: fl)).all fun x => decide (sc.names.lookup x = some .local) && !(x == ("__debug__" : Str)) && !(x == ("__classdict__" : Str))) && decide (fl.length ≤ 100)
theorem ini_ok {P : Program} {w : World} {K : PySem.W.Frag} {mg : Str → Option Value} {base : Heap} {k : Nat} {c b x qual : Str} {st : Stmt} {f : Addr} {fd : FuncData} {fl : List Str} (F : FunD K x qual (defArgs st) (defBody st) (defScope st) [] [] f fd) (S : FnScope (("self" : Str) :: fl) (("self" : Str) :: fl) (defScope st)) (I : IniOk K c b fl)
    (hm : mg b = some (.ref (He.ga K b))) (hi : initC (defBody st) = some (b, fl)) (hs : iniS b fl (defScope st) = true) : FnOk P w K mg base CX0 (k + 1) f fd (("self" : Str) :: fl) (spI (He.ga K c) fl) := by
  unfold iniS at hs
  simp only [Bool.and_eq_true, decide_eq_true_eq, Bool.not_eq_true', List.all_eq_true] at hs
  obtain ⟨⟨⟨g1, g2⟩, hn⟩, h9⟩ := hs
  refine F.ok S (fun vs H Q E ⟨a, ws, e, l, _⟩ => by rw [e]; simp [l]) fun cdv A outer s H vs Q E hr ⟨a, ws, e, l, ha, k⟩ => ?_
  subst e
  let X : Cx := cxOf CX0 P w K mg base (("self" : Str) :: fl) qual (defScope st) f cdv A outer s H E
  have nm : ∀ i y, ((("self" : Str) :: fl))[i]? = some y → Nm X.nox i y := fun i y h => by
    obtain ⟨⟨a1, a2⟩, a3⟩ := hn y (List.mem_of_getElem? h)
    exact ⟨h, .inl a1, a2, a3⟩
  have key := init_pss (X := X.nox) (a := a) I.oex (nm 0 _ rfl) (show Gl X.nox b from g1) hm I.rd I.ga I.fc g2 hi (fun i g hg => ⟨nm (1 + i) g (by rw [show 1 + i = i + 1 by omega]; simpa using hg), I.no g (List.mem_of_getElem? hg)⟩) h9
  refine ⟨_, key.nox, ?_, ha, ws, l, fun i u hu => ?_, fun dx H' h1 h2 h3 h4 h5 => k dx H' h1 h2 h3 h4 h5⟩
  · simp [L2.start]
  · have hi : i < ws.length := (List.getElem?_eq_some_iff.mp hu).1
    unfold L2.start
    rw [show 1 + i = i + 1 by omega, List.map_cons, List.cons_append, List.getElem?_cons_succ, List.getElem?_append_left (by rw [List.length_map]; exact hi), List.getElem?_map, hu]
    rfl
structure XrE where
  c : Str
  bs : List Bool
  b1 : Bool
  b2 : Bool
  b3 : Bool
  z : Str
  fl : List Str
def ckB (K : PySem.W.Frag) (D : Addr) (n : Str) (b : Bool) : Bool := if n == ("ValueError" : Str) then decide (PySem.W.kitOne K (.ref D) (.type "ValueError") = some b) else decide (PySem.W.kitOne K (.ref D) (.ref (He.ga K n)) = some b)
def pairB {α β : Type} (p : α → β → Bool) : List α → List β → Bool
  | [], [] => true
  | a :: l, b :: m => p a b && pairB p l m
  | _, _ => false
theorem pairB_ok {α β : Type} {p : α → β → Bool} {F : α → β → Prop} : ∀ {l : List α} {m : List β}, pairB p l m = true → (∀ a ∈ l, ∀ b, p a b = true → F a b) → Paired F l m
  | [], [], _, _ => .nil
  | [], _ :: _, h, _ => by cases h
  | _ :: _, [], h, _ => by cases h
  | a :: l, b :: m, h, k => by
    simp only [pairB, Bool.and_eq_true] at h
    exact .cons (k a List.mem_cons_self b h.1) (pairB_ok h.2 fun x hx => k x (List.mem_cons_of_mem _ hx))
def xrB (K : PySem.W.Frag) (cs : List Str) (T : RefT) (e : XrE) : Bool := decide (PySem.W.exmOne K (.ref (He.ga K e.c)) (.ref (He.ga K "RigError")) = some true) && (ecB K (He.ga K e.c) && (pairB (ckB K (He.ga K e.c)) cs e.bs &&
  (ckB K (He.ga K e.c) T.c1 e.b1 && (ckB K (He.ga K e.c) T.c2 e.b2 && (decide (PySem.W.kitAny K (.ref (He.ga K e.c)) ((T.c3.map (He.ga K)).map .ref) = some e.b3) && e.fl.all (fun f => He.eqO (PySem.W.findIn K (.ref (He.ga K e.c)) f) (some none)))))))
def xrP (zs : List Str) (T : RefT) (e : XrE) : Bool := decide (zs.length = e.bs.length) && decide (e.bs.length ≤ 100) && decide (((pick zs e.bs).map (·.length)).sum + (pick zs e.bs).length * (" " : Str).length ≤ 16777216) && e.z == Txt.join " " (pick zs e.bs) &&
  decide (e.fl = if e.b1 then T.f1 else if e.b2 then T.f2 else if e.b3 then T.f3 else T.f4) && decide (e.fl.length ≤ 100)
theorem ck_ok {K : PySem.W.Frag} {mg : Str → Option Value} {D : Addr} {n : Str} {b : Bool} (hv : mg "ValueError" = none) (hm : n ≠ "ValueError" → mg n = some (.ref (He.ga K n))) (h : ckB K D n b = true) : CKm K mg D n b := by
  unfold ckB at h
  split at h
  · rename_i q
    rw [beq_iff_eq] at q
    subst q
    exact .inr ⟨rfl, hv, of_decide_eq_true h⟩
  · rename_i q
    exact .inl ⟨_, hm (fun z => q (by rw [z]; rfl)), of_decide_eq_true h⟩
theorem xr_ok {K : PySem.W.Frag} {mg : Str → Option Value} {cs zs : List Str} {T : RefT} {e : XrE} (h : xrB K cs T e = true) (hp : xrP zs T e = true) (hv : mg "ValueError" = none) (hm : ∀ n ∈ cs ++ T.c1 :: T.c2 :: T.c3, n ≠ "ValueError" → mg n = some (.ref (He.ga K n))) (hT : ∀ n ∈ T.c3, n ≠ "ValueError") :
    PySem.W.exmOne K (.ref (He.ga K e.c)) (.ref (He.ga K "RigError")) = some true ∧ EC K (He.ga K e.c) ∧ KOf K mg cs zs (He.ga K e.c) e.z ∧ ROf K mg T (He.ga K e.c) e.fl ∧ e.fl.length ≤ 100 := by
  unfold xrB at h
  unfold xrP at hp
  simp only [Bool.and_eq_true, decide_eq_true_eq, List.all_eq_true, beq_iff_eq] at h hp
  obtain ⟨h1, h2, h3, h4, h5, h6, h7⟩ := h
  obtain ⟨⟨⟨⟨⟨p1, p2⟩, p3⟩, p4⟩, p5⟩, p6⟩ := hp
  refine ⟨h1, ecB_ok h2, ⟨e.bs, pairB_ok h3 fun n hn b q => ck_ok hv (hm n (by simp [hn])) q, p1, p2, p3, p4⟩, ⟨⟨e.b1, e.b2, e.b3, ck_ok hv (hm _ (by simp)) h4, ck_ok hv (hm _ (by simp)) h5, ⟨T.c3.map (He.ga K), ?_, h6⟩, p5⟩, fun f hf => He.eqO_ok (h7 f hf)⟩, p6⟩
  have all : ∀ l : List Str, (∀ n ∈ l, mg n = some (.ref (He.ga K n))) → Paired (fun c C => mg c = some (.ref C)) l (l.map (He.ga K)) := fun l => by
    induction l with
    | nil => intro _; exact .nil
    | cons a l ih => intro k; exact .cons (k a List.mem_cons_self) (ih fun n hn => k n (List.mem_cons_of_mem _ hn))
  exact all T.c3 fun n hn => hm n (by simp [hn]) (hT n hn)
end MPH
namespace MPH
open PySem PySem.Spec PyProof.Rows L2 He
abbrev asY (g : Addr → Option Obj) (n : Nat) : List Addr := asD g n ++ [cStatics]
def obsY (n : Nat) (fa : List Fa) (fn : List DefD) (ts : List Tab) (tf : List Defn) (ex : PySem.W.Frag → Bool) (g : Addr → Option Obj) : AlX := (obsT fa fn ts (frT g (asY g n)), ex (frT g (asY g n)) && tabsB g tf (frT g (asY g n)))
theorem saysY_of {n : Nat} {fa : List Fa} {fn : List DefD} {ts : List Tab} {tf : List Defn} {ex : PySem.W.Frag → Bool} {w : World} {h : Heap} (e : obsY n fa fn ts tf ex h.get? = valX fn ts w) : SaysX fa fn ts tf ex w h (frT h.get? (asY h.get? n)) := by
  have e1 : obsT fa fn ts (frT h.get? (asY h.get? n)) = valT fn ts w := congrArg (fun z : AlX => z.1) e
  have e2 : (ex (frT h.get? (asY h.get? n)) && tabsB h.get? tf (frT h.get? (asY h.get? n))) = true := congrArg (fun z : AlX => z.2) e
  generalize asY h.get? n = as at *
  obtain ⟨h1, h2⟩ := Bool.and_eq_true_iff.mp e2
  have key : ∀ p ∈ tf, PySem.W.codeHdIn (frT h.get? as) (cT (frT h.get? as) p).1 (cT (frT h.get? as) p).2 = true ∧ ∃ o, h.get? (cT (frT h.get? as) p).2 = some o ∧ emptyTab o = true := fun p hp => by
    obtain ⟨h3, h4⟩ := Bool.and_eq_true_iff.mp (List.all_eq_true.mp h2 p hp)
    refine ⟨h3, ?_⟩
    split at h4
    · rename_i o q
      exact ⟨o, q, h4⟩
    · cases h4
  exact ⟨e1, h1, fun p hp => (key p hp).1, fun p hp => by
    obtain ⟨_, o, q, z⟩ := key p hp
    exact frT_none q z, fun p hp => by
    obtain ⟨_, o, q, z⟩ := key p hp
    rw [q, emptyTab_eq z]⟩
def hookY (n : Nat) (fa : List Fa) (fn : List DefD) (ts : List Tab) (tf : List Defn) (ex : PySem.W.Frag → Bool) : PySem.W.Hook where
  α := AlX
  obs := fun s => obsY n fa fn ts tf ex s.heap.get?
  val := fun w => valX fn ts w
  says := fun w h => ∃ K : PySem.W.Frag, K.In h ∧ SaysX fa fn ts tf ex w h K
  of := fun _ _ e => ⟨_, frT_in, saysY_of e⟩
  keeps := fun _ _ _ ⟨K, hK, c⟩ k => ⟨K, PySem.W.Frag.In.keeps hK k, ⟨c.t, c.more, c.hd, c.out, fun p hp => k _ _ (c.empty p hp)⟩⟩
theorem obsY_eq {n : Nat} {fa : List Fa} {fn : List DefD} {ts : List Tab} {tf : List Defn} {ex : PySem.W.Frag → Bool} {g : Addr → Option Obj} {s : Shared} (h : ∀ a, g a = s.heap.get? a) : obsY n fa fn ts tf ex g = (hookY n fa fn ts tf ex).obs s := by
  have e : g = s.heap.get? := funext h
  rw [e] <;> rfl
end MPH
namespace MP
open PySem PySem.Spec PyProof.Rows L2
variable [LamT]
mutual
inductive Xs where
  | p (s : Is)
  | rse (c : Str) (fs : List Str) (as : Ars)
  | ite (t : Te) (a b : Xss)
inductive Xss where
  | nil
  | cons (s : Xs) (r : Xss)
end
inductive OutX where
  | o (o : Out)
  | ex (e : Exn)
abbrev MSX := Sl → Option (OutX × Sl)
@[simp] def xLift (f : MS) : MSX := fun ρ => (f ρ).bind fun p => some (.o p.1, p.2)
@[simp] noncomputable def xRse (c : Str) (fs : List Str) (as : MA) : MSX := fun ρ => (as ρ).bind fun p => (takeA p.1 p.2).bind fun q => (fzAll q.1).bind fun ds => if ds.length = fs.length ∧ fs.length ≤ 100 then some (.ex ⟨c, (fs.zip ds).reverse⟩, q.2) else none
@[simp] def xNil : MSX := fun ρ => some (.o .nx, ρ)
@[simp] def xSeq (f g : MSX) : MSX := fun ρ => (f ρ).bind fun p => match p.1 with
  | .o .nx => g p.2
  | o => some (o, p.2)
@[simp] def xIf (t : MT) (f g : MSX) : MSX := fun ρ => (t ρ).bind fun p => if p.1 then f p.2 else g p.2
mutual
@[simp] noncomputable def evX (fs : Φs) : Xs → MSX
  | .p s => xLift (evS fs s)
  | .rse c ns as => xRse c ns (evA fs as)
  | .ite t a b => xIf (evT fs t) (evXs fs a) (evXs fs b)
@[simp] noncomputable def evXs (fs : Φs) : Xss → MSX
  | .nil => xNil
  | .cons s r => xSeq (evX fs s) (evXs fs r)
end
def PostSX (K : PySem.W.Frag) (np : Nat) (σ : L2.St) (G H : Hp) (F : FP) (D : Ends) (W : WX) : OutX → Sl → Prop
  | .o o, ρ' => PostS K np σ G H F D o ρ'
  | .ex e, ρ' => ∀ cls d σ' F' (G' : Hp) H', Keep np σ σ' → XAt K G' e cls d → OwnE K G' H' ρ' σ' F' → Ok G' H' F' → Fr G H F G' H' F' → W cls d σ' H'
def SimSX (K : PySem.W.Frag) (np : Nat) (t : WX → TS) (f : MSX) : Prop :=
  ∀ (σ : L2.St) (ρ : Sl) (F : FP) (G : Hp) (H : Hp), OwnE K G H ρ σ F → Ok G H F → ∀ o ρ', f ρ = some (o, ρ') → ∀ (D : Ends) (W : WX), PostSX K np σ G H F D W o ρ' → t W D σ H
theorem FlR.app {K : PySem.W.Frag} {G : Hp} : ∀ {a b : List (Str × PyData)} {x y : List (Str × V)}, FlR K G a x → FlR K G b y → FlR K G (a ++ b) (x ++ y)
  | [], b, x, y, h, k => by
    simp only [FlR] at h
    subst h
    exact k
  | (f, d) :: a, b, x, y, ⟨v, t, e, h1, h2⟩, k => ⟨v, t ++ y, by rw [e]; rfl, h1, h2.app k⟩
theorem FlR.zipR {K : PySem.W.Frag} {G : Hp} : ∀ {fs : List Str} {ds : List PyData} {vs : List V}, DtAll K G ds vs → FlR K G (fs.zip ds).reverse (fs.zip vs).reverse
  | [], _, _, _ => rfl
  | _ :: _, [], vs, h => by
    simp only [DtAll] at h
    subst h
    exact rfl
  | f :: fs, d :: ds, vs, h => by
    simp only [DtAll] at h
    obtain ⟨v, r, rfl, h1, h2⟩ := h
    simp only [List.zip_cons_cons, List.reverse_cons]
    exact (FlR.zipR h2).app ⟨v, [], rfl, h1, rfl⟩
section
variable {K : PySem.W.Frag} {np : Nat}
theorem PostSX.later {σ σ1 : L2.St} {G G1 : Hp} {H H1 : Hp} {F F1 : FP} {D : Ends} {W : WX} {o : OutX} {ρ : Sl} (p : PostSX K np σ G H F D W o ρ) (kp : Keep np σ σ1) (fr : Fr G H F G1 H1 F1) : PostSX K np σ1 G1 H1 F1 D W o ρ := by
  cases o with
  | o o => exact PostS.later p kp fr rfl (fun _ => rfl) (fun _ => rfl) fun _ => rfl
  | ex e => intro cls d σ' F' G' H' k x E ok f; exact p cls d σ' F' G' H' (kp.trans k) x E ok (fr.trans f)
theorem sx_lift {t : TS} {f : MS} (h : SimS K np t f) : SimSX K np (fun _ => t) (xLift f) := by
  intro σ ρ F G H hE ok o ρ' e D W p
  obtain ⟨⟨o1, ρ1⟩, e1, e⟩ := bind_some e
  simp only [Option.some.injEq, Prod.mk.injEq] at e
  obtain ⟨rfl, rfl⟩ := e
  exact h σ ρ F G H hE ok o1 _ e1 D p
theorem sx_nil : SimSX K np (fun _ => tNext) xNil := by
  intro σ ρ F G H hE ok o ρ' e D W p
  simp only [xNil, Option.some.injEq, Prod.mk.injEq] at e
  obtain ⟨rfl, rfl⟩ := e
  exact p σ F G H .refl hE ok (Fr.refl ok)
theorem sx_seq {t u : WX → TS} {f g : MSX} (h1 : SimSX K np t f) (h2 : SimSX K np u g) : SimSX K np (fun W => tSeq (t W) (u W)) (xSeq f g) := by
  intro σ ρ F G H hE ok o ρ' e D W p
  obtain ⟨⟨o1, ρ1⟩, e1, ea⟩ := bind_some e
  clear e
  refine h1 σ ρ F G H hE ok o1 ρ1 e1 _ W ?_
  cases o1 with
  | o o1 =>
    cases o1 with
    | nx =>
      intro σ1 F1 G1 H1 kp E1 ok1 fr1
      exact h2 σ1 ρ1 F1 G1 H1 E1 ok1 o ρ' ea D W (p.later kp fr1)
    | bk => simp only [Option.some.injEq, Prod.mk.injEq] at ea; obtain ⟨rfl, rfl⟩ := ea; exact p
    | ct => simp only [Option.some.injEq, Prod.mk.injEq] at ea; obtain ⟨rfl, rfl⟩ := ea; exact p
    | rt x => simp only [Option.some.injEq, Prod.mk.injEq] at ea; obtain ⟨rfl, rfl⟩ := ea; exact p
  | ex x => simp only [Option.some.injEq, Prod.mk.injEq] at ea; obtain ⟨rfl, rfl⟩ := ea; exact p
theorem sx_if {c : TT} {t u : WX → TS} {m : MT} {f g : MSX} (h : SimT K c m) (h1 : SimSX K np t f) (h2 : SimSX K np u g) : SimSX K np (fun W => tIfS c (t W) (u W)) (xIf m f g) := by
  intro σ ρ F G H hE ok o ρ' e D W p
  obtain ⟨⟨b, ρ1⟩, e1, ea⟩ := bind_some e
  refine h σ ρ F G H hE ok b ρ1 e1 _ fun F1 G1 H1 E1 ok1 fr1 => ?_
  cases b with
  | true =>
    simp only [if_true] at ea ⊢
    exact h1 σ ρ1 F1 G1 H1 E1 ok1 o ρ' ea D W (p.later .refl fr1)
  | false =>
    simp only [Bool.false_eq_true, if_false] at ea ⊢
    exact h2 σ ρ1 F1 G1 H1 E1 ok1 o ρ' ea D W (p.later .refl fr1)
def tRse (K : PySem.W.Frag) (c : Str) (fs : List Str) (ta : TA) : WX → TS := fun W _ σ H => tMkO (He.ga K c) (MPH.spI (He.ga K c) fs) [] ta σ H fun cls d H' => W cls d σ H'
theorem sx_rse {c : Str} {fs : List Str} {ta : TA} {as : MA} (ha : SimA K ta as) : SimSX K np (tRse K c fs ta) (xRse c fs as) := by
  intro σ ρ F G H hE ok o ρ' e D W p
  obtain ⟨⟨us, ρ1⟩, e1, e⟩ := bind_some e
  obtain ⟨⟨xs, ρ2⟩, e2, e⟩ := bind_some e
  obtain ⟨ds, e3, e⟩ := bind_some e
  split at e
  · rename_i hl
    simp only [Option.some.injEq, Prod.mk.injEq] at e
    obtain ⟨rfl, rfl⟩ := e
    refine ha σ ρ F G H hE ok us ρ1 e1 _ fun vs Fa F1 G1 H1 o1 E1 ok1 fr1 => ?_
    obtain ⟨Fx, F2, a1, a2, a3, _⟩ := take_ok o1 E1 e2
    obtain ⟨_, hd, hz⟩ := fzAll_ok a1 e3
    have lv : vs.length = fs.length := by rw [← hd.len]; exact hl.1
    refine ⟨by omega, fun a ha0 => ⟨a, vs ++ [], rfl, by simpa using lv, upd_same, fun dx H' h1 h2 h3 h4 h5 => ⟨rfl, dx, _, h4, h5, by rwa [upd_ne h2] at h1, ?_⟩⟩⟩
    rw [upd_ne h2] at h1
    have eH : upd (del H' a) dx (.xd (fs.zip (vs ++ [])).reverse) = upd H1 dx (.xd (fs.zip vs).reverse) := by
      rw [List.append_nil]
      funext b
      by_cases q : b = dx
      · rw [q, upd_same, upd_same]
      · rw [upd_ne q, upd_ne q]
        by_cases q2 : b = a
        · rw [q2, del_same, ha0]
        · rw [del_ne q2, h3 b q2 q, upd_ne q2]
    rw [eH]
    have ok2 : Ok G1 H1 F2 := ok1.sub fun a => by have := a3 a; omega
    obtain ⟨ok3, fr3, st⟩ := ok_new (o := .xd (fs.zip vs).reverse) ok2 h1
    exact p (.ref (He.ga K c)) (some dx) σ F2 _ _ .refl ⟨rfl, _, show MPH.DAt (some dx) _ _ from upd_same, FlR.mono fr3.g (FlR.zipR hd)⟩ (OwnE.mono fr3.g _ _ _ a2 st) ok3
      ((fr1.sub fun a => by have := a3 a; show F2 a ≤ _; omega).trans fr3)
  · cases e
end
mutual
def rdX (K : PySem.W.Frag) (fs : EnV) : Xs → WX → TS
  | .p s, _ => rdS K fs s
  | .rse c ns as, W => tRse K c ns (rdA K fs as) W
  | .ite t a b, W => tIfS (rdT K fs t) (rdXs K fs a W) (rdXs K fs b W)
def rdXs (K : PySem.W.Frag) (fs : EnV) : Xss → WX → TS
  | .nil, _ => tNext
  | .cons s r, W => tSeq (rdX K fs s W) (rdXs K fs r W)
end
mutual
def wfX (cl : List Nat) (np : Nat) : Xs → Bool
  | .p s => wfS cl np s
  | .rse _ _ as => wfA cl as
  | .ite t a b => wfT cl t && wfXs cl np a && wfXs cl np b
def wfXs (cl : List Nat) (np : Nat) : Xss → Bool
  | .nil => true
  | .cons s r => wfX cl np s && wfXs cl np r
end
mutual
def chkX (C : Cfg) (exs : List (Str × List Str)) (np : Nat) : Xs → Stmt → Bool
  | .p s, st => chkS C np s st
  | .rse c fs as, st => match st with
    | .Raise (some (.Call (.Name x _) (e :: es) [] _)) none _ => x == c && C.glob x && exs.contains (c, fs) && chkA C as (e :: es)
    | _ => false
  | .ite t a b, st => match st with
    | .If c x y _ => chkT C t c && chkXs C exs np a x && chkXs C exs np b y
    | _ => false
def chkXs (C : Cfg) (exs : List (Str × List Str)) (np : Nat) : Xss → List Stmt → Bool
  | .nil, ss => ss.isEmpty
  | .cons s r, ss => match ss with
    | st :: q => chkX C exs np s st && chkXs C exs np r q
    | [] => false
end
end MP
namespace MP
open PySem PySem.Spec PyProof.Rows L2
variable [LamT]
section
variable {K : PySem.W.Frag} {np : Nat} {fs : EnV}
mutual
theorem simX (hc : CstOk K fs) {cl : List Nat} (hk : CsK K cl) : ∀ ir : Xs, wfX cl np ir = true → SimSX K np (rdX K fs ir) (evX fs.toEn ir)
  | .p s, h => by
    simp only [wfX] at h
    have e : rdX K fs (.p s) = fun _ => rdS K fs s := by funext W; simp only [rdX]
    rw [e]
    simp only [evX]
    exact sx_lift (simS hc hk s h)
  | .rse c ns as, h => by
    simp only [wfX] at h
    have e : rdX K fs (.rse c ns as) = tRse K c ns (rdA K fs as) := by funext W; simp only [rdX]
    rw [e]
    simp only [evX]
    exact sx_rse (simA hc hk as h)
  | .ite t a b, h => by
    simp only [wfX, Bool.and_eq_true] at h
    have e : rdX K fs (.ite t a b) = fun W => tIfS (rdT K fs t) (rdXs K fs a W) (rdXs K fs b W) := by funext W; simp only [rdX]
    rw [e]
    simp only [evX]
    exact sx_if (simT hc hk t h.1.1) (simXs hc hk a h.1.2) (simXs hc hk b h.2)
theorem simXs (hc : CstOk K fs) {cl : List Nat} (hk : CsK K cl) : ∀ ir : Xss, wfXs cl np ir = true → SimSX K np (rdXs K fs ir) (evXs fs.toEn ir)
  | .nil, _ => by
    have e : rdXs K fs .nil = fun _ => tNext := by funext W; simp only [rdXs]
    rw [e]
    simp only [evXs]
    exact sx_nil
  | .cons s r, h => by
    simp only [wfXs, Bool.and_eq_true] at h
    have e : rdXs K fs (.cons s r) = fun W => tSeq (rdX K fs s W) (rdXs K fs r W) := by funext W; simp only [rdXs]
    rw [e]
    simp only [evXs]
    exact sx_seq (simX hc hk s h.1) (simXs hc hk r h.2)
end
end
structure RseOk (X : Cx) (c : Str) (fl : List Str) : Prop where
  ex : ∃ (k : Nat) (fd : FuncData), Room (k + 1) X.A ∧ OexC X.K (He.ga X.K c) ∧ PySem.W.findIn X.K (.ref (He.ga X.K c)) "__init__" = some (some (.ref (He.ma X.K (He.ga X.K c) "__init__"))) ∧ PySem.W.typeIn X.K (.ref (He.ma X.K (He.ga X.K c) "__init__")) = some (.type "function") ∧
    FnOk X.prog X.w X.K X.mg X.base L2.CX0 k (He.ma X.K (He.ga X.K c) "__init__") fd (("self" : Str) :: fl) (MPH.spI (He.ga X.K c) fl) ∧ Binds X.K fd (("self" : Str) :: fl) [] ∧ X.mg c = some (.ref (He.ga X.K c))
section
variable {X : Cx} {C : Cfg} {fs : EnV} {W : WX} {exs : List (Str × List Str)} {np : Nat}
theorem PS.nox {s : Stmt} {t : TS} (h : PS X.nox s t) : PS X s t := ⟨fun pins st σ H D I hw => wpAny_mono (h.run pins st σ H D (I.wish _) hw) (fun _ _ q => q.unwish) fun _ _ z => False.elim z⟩
theorem ps_rse (ok : XOk X.nox C fs) (tk : L2N.Takes X W) {c : Str} {fl : List Str} (hr : RseOk X c fl) {e : Expr} {es : List Expr} {p1 p2 p3 : Pos} {ta : TA} (hg : C.glob c = true) (ha : APE X.nox (e :: es) ta) : PS X (.Raise (some (.Call (.Name c p1) (e :: es) [] p2)) none p3) (tRse X.K c fl ta W) := by
  obtain ⟨k, fd, r, T, iC, tI, F, hb, hm⟩ := hr.ex
  obtain ⟨g, hd, _⟩ := ok.gl hg
  exact L2N.ps_raise ok.calm tk (MPH.pmk_mk T iC tI F r hb (fun _ _ _ _ _ _ _ z => z.elim) g hm (PA.nox ha.pa) hd ha.he ha.hpl)
mutual
theorem psX (ok : XOk X.nox C fs) (tk : L2N.Takes X W) (hx : ∀ c fl, exs.contains (c, fl) = true → RseOk X c fl) : ∀ (ir : Xs) (s : Stmt), chkX C exs np ir s = true → PS X s (rdX X.K fs ir W)
  | .p s, st, h => by
    simp only [chkX] at h
    simp only [rdX]
    exact PS.nox (psS ok s st h)
  | .rse c fl as, st, h => by
    simp only [chkX] at h
    split at h
    · simp only [Bool.and_eq_true, beq_iff_eq] at h
      obtain ⟨⟨⟨rfl, h1⟩, h2⟩, h3⟩ := h
      simp only [rdX]
      exact ps_rse ok tk (hx _ _ h2) h1 (peA ok as _ h3)
    · cases h
  | .ite t a b, st, h => by
    simp only [chkX] at h
    split at h
    · simp only [Bool.and_eq_true] at h
      simp only [rdX]
      exact ps_if (PT.nox (peT ok t _ h.1.1)) (psXs ok tk hx a _ h.1.2) (psXs ok tk hx b _ h.2)
    · cases h
theorem psXs (ok : XOk X.nox C fs) (tk : L2N.Takes X W) (hx : ∀ c fl, exs.contains (c, fl) = true → RseOk X c fl) : ∀ (ir : Xss) (ss : List Stmt), chkXs C exs np ir ss = true → PSs X ss (rdXs X.K fs ir W)
  | .nil, ss, h => by
    simp only [chkXs, List.isEmpty_iff] at h
    subst h
    simp only [rdXs]
    exact pss_nil
  | .cons s r, ss, h => by
    simp only [chkXs] at h
    split at h
    · simp only [Bool.and_eq_true] at h
      simp only [rdXs]
      exact pss_cons (psX ok tk hx s _ h.1) (psXs ok tk hx r _ h.2)
    · cases h
end
end
end MP
namespace MP
open PySem PySem.Spec PyProof.Rows L2
variable [LamT]
def fnΦX (np nl : Nat) (body : MSX) : ΦX := fun xs => if xs.length = np then (body (xs.map some ++ List.replicate nl none)).bind fun p => match p.1 with
    | .o (.rt x) => (outs np p.2).bind fun ys => some (.ok x, ys)
    | .o .nx => (outs np p.2).bind fun ys => some (.ok (.fz .none), ys)
    | .ex e => (outs np p.2).bind fun ys => some (.ex e, ys)
    | _ => none
  else none
theorem fn_simX {K : PySem.W.Frag} {np nl : Nat} {body : MSX} {t : WX → TS} {N : List Str} {vs : List V} {H : Hp} {Q : VK} {E : XK} (hN : N.length = np + nl) (hb : SimSX K np t body) (h : spOfX K (fnΦX np nl body) vs H Q E) :
    vs.length = np ∧ t (fun cls d _ H => E cls d H) { nx := fun _ H' => Q .non H', rt := Q } (L2.start N vs) H := by
  obtain ⟨xs, F, G, r, ys, ho, ok, e, k⟩ := h
  have hl := ho.len
  unfold fnΦX at e
  split at e
  case isFalse => cases e
  rename_i hx
  obtain ⟨⟨o, ρ'⟩, e1, e⟩ := bind_some e
  have hv : vs.length = np := by omega
  refine ⟨hv, ?_⟩
  have hst : L2.start N vs = vs.map some ++ List.replicate nl none := by
    unfold L2.start
    rw [hN, hv, Nat.add_sub_cancel_left]
  have kpv : ∀ σ', Keep np (L2.start N vs) σ' → ∀ j, j < np → σ'[j]? = (vs.map some)[j]? := fun σ' kp j hj => by
    rw [kp j hj, hst, List.getElem?_append_left (by rw [List.length_map]; omega)]
  rw [hst]
  refine hb _ _ F G H (own_start nl ho) ok o ρ' e1 _ _ ?_
  rw [← hst]
  cases o with
  | ex x =>
    intro cls d σ' F' G' H' kp xa E' ok' fr'
    obtain ⟨zs, e2, e⟩ := bind_some e
    simp only [Option.some.injEq, Prod.mk.injEq] at e
    obtain ⟨rfl, rfl⟩ := e
    obtain ⟨F2, l2, q2⟩ := outs_ok E' e2 hv (kpv σ' kp)
    exact k cls d F2 G' H' xa q2 (ok'.sub l2) (fr'.sub l2)
  | o o =>
    cases o with
    | nx =>
      intro σ' F' G' H' kp E' ok' fr'
      obtain ⟨zs, e2, e⟩ := bind_some e
      simp only [Option.some.injEq, Prod.mk.injEq] at e
      obtain ⟨rfl, rfl⟩ := e
      obtain ⟨F2, l2, q2⟩ := outs_ok E' e2 hv (kpv σ' kp)
      exact k .non (fun _ => 0) F2 G' H' (Own.ofD dtNone) q2 (ok'.sub fun a => by show 0 + F2 a ≤ _; have := l2 a; omega) (fr'.sub fun a => by show 0 + F2 a ≤ _; have := l2 a; omega)
    | rt y =>
      intro v σ' Fx F' G' H' kp o' E' ok' fr'
      obtain ⟨zs, e2, e⟩ := bind_some e
      simp only [Option.some.injEq, Prod.mk.injEq] at e
      obtain ⟨rfl, rfl⟩ := e
      obtain ⟨F2, l2, q2⟩ := outs_ok E' e2 hv (kpv σ' kp)
      exact k v Fx F2 G' H' o' q2 (ok'.sub fun a => by have := l2 a; omega) (fr'.sub fun a => by have := l2 a; omega)
    | bk => cases e
    | ct => cases e
section
variable {P : Program} {w : World} {K : PySem.W.Frag} {mg : Str → Option Value} {base : Heap}
def TabX (P : Program) (w : World) (K : PySem.W.Frag) (mg : Str → Option Value) (base : Heap) (k : Nat) (fns : List FT) (φs : List ΦX) : Prop :=
  fns.length = φs.length ∧ ∀ (j : Nat) ft φ, fns[j]? = some ft → φs[j]? = some φ → ∃ f fd, FnAt K mg ft f ∧ Binds K fd ft.ps [] ∧ FnOk P w K mg base (L2N.CX P w) k f fd ft.ps (spOfX K φ)
theorem tabX_nil {k : Nat} : TabX P w K mg base k [] [] := ⟨rfl, fun j ft φ h => by simp at h⟩
theorem tabX_cons {k k' : Nat} {fns : List FT} {φs : List ΦX} {ft : FT} {φ : ΦX} {f : Addr} {fd : FuncData} (T : TabX P w K mg base k fns φs) (hk : k ≤ k') (hm : FnAt K mg ft f) (hb : Binds K fd ft.ps []) (hF : FnOk P w K mg base (L2N.CX P w) k' f fd ft.ps (spOfX K φ)) : TabX P w K mg base k' (fns ++ [ft]) (φs ++ [φ]) := by
  refine ⟨by simp [T.1], fun j ft' φ' h1 h2 => ?_⟩
  by_cases hj : j < fns.length
  · rw [List.getElem?_append_left hj] at h1
    rw [List.getElem?_append_left (by rw [← T.1]; exact hj)] at h2
    obtain ⟨f', fd', a1, a3, a5⟩ := T.2 j ft' φ' h1 h2
    exact ⟨f', fd', a1, a3, a5.mono hk⟩
  · have e1 : j = fns.length := by
      have := (List.getElem?_eq_some_iff.mp h1).1
      rw [List.length_append, List.length_singleton] at this
      omega
    subst e1
    rw [List.getElem?_append_right (Nat.le_refl _), Nat.sub_self] at h1
    rw [T.1, List.getElem?_append_right (Nat.le_refl _), Nat.sub_self] at h2
    simp only [List.getElem?_cons_zero, Option.some.injEq] at h1 h2
    subst h1; subst h2
    exact ⟨f, fd, hm, hb, hF⟩
def TabE (P : Program) (w : World) (K : PySem.W.Frag) (mg : Str → Option Value) (base : Heap) (exs : List (Str × List Str)) : Prop := ∀ c fl, exs.contains (c, fl) = true → ∃ (b : Str) (fd : FuncData), MPH.IniOk K c b fl ∧
  FnOk P w K mg base L2.CX0 1 (He.ma K (He.ga K c) "__init__") fd (("self" : Str) :: fl) (MPH.spI (He.ga K c) fl) ∧ Binds K fd (("self" : Str) :: fl) [] ∧ mg c = some (.ref (He.ga K c))
theorem tabE_nil : TabE P w K mg base [] := fun c fl h => by simp at h
theorem tabE_cons {exs : List (Str × List Str)} {c b : Str} {fl : List Str} {fd : FuncData} (T : TabE P w K mg base exs) (I : MPH.IniOk K c b fl) (F : FnOk P w K mg base L2.CX0 1 (He.ma K (He.ga K c) "__init__") fd (("self" : Str) :: fl) (MPH.spI (He.ga K c) fl)) (hb : Binds K fd (("self" : Str) :: fl) [])
    (hm : mg c = some (.ref (He.ga K c))) : TabE P w K mg base ((c, fl) :: exs) := fun c' fl' h => by
  rw [List.contains_iff_mem, List.mem_cons] at h
  rcases h with h | h
  · cases h
    exact ⟨b, fd, I, F, hb, hm⟩
  · exact T c' fl' (by rw [List.contains_iff_mem]; exact h)
theorem def_okR {k : Nat} {x : Str} {st : Stmt} {f : Addr} {fd : FuncData} {N ps free : List Str} {fns : List FT} {φs : List Φ} {cs : List (Str × PyData)} {ds : List (Str × List (Str × Int))} {cl : List Nat} {qx : Str} {exs : List (Str × List Str)} {body : Xss}
    (F : FunD K x qx (defArgs st) (defBody st) (defScope st) [] [] f fd) (S : FnScope N ps (defScope st)) (T : Tab P w K mg base k fns φs) (TE : TabE P w K mg base exs) (hk1 : 1 ≤ k) (hcs : CsOk K mg cs) (hfree : ∀ y ∈ free, mg y = none) (hk : CsK K cl) (hds : DsOk K w mg ds)
    (hchk : chkXs ⟨N, defScope st, fun _ => true, free, csx cs, fns, cl, dsx ds, []⟩ exs ps.length body (defBody st) = true) (hwf : wfXs cl ps.length body = true) (hng : free.contains ("str()" : Str) = false := by decide +kernel) (hnl : free.contains ("lambda()" : Str) = false := by decide +kernel) (hnx : free.contains ("lamX()" : Str) = false := by decide +kernel) :
    FnOk P w K mg base (L2N.CX P w) (k + 2) f fd ps (spOfX K (fnΦX ps.length (N.length - ps.length) (evXs (enOf φs (csv cs) (dsv ds)) body))) := by
  have hpl : ps.length ≤ N.length := by have := congrArg List.length S.pre; rw [List.length_take] at this; omega
  have hN : N.length = ps.length + (N.length - ps.length) := by omega
  obtain ⟨vs0, c1, c2⟩ := cs_ok hcs
  have hs := simXs (fs := ⟨enOf φs (csv cs) (dsv ds), vs0⟩) (np := ps.length) c1 hk body hwf
  refine F.ok S (fun vs H Q E h => (fn_simX hN hs h).1) fun cdv A outer s H vs Q E hr h => ⟨_, psXs (fs := ⟨enOf φs (csv cs) (dsv ds), vs0⟩) ?_ (L2N.takes_of (E := E) rfl rfl rfl rfl) (fun c fl hc => ?_) body _ hchk, (fn_simX hN hs h).2⟩
  · exact {
      N := rfl
      nd := S.nd
      sc := rfl
      kind := S.kind
      calm := rfl
      fn := fun _ _ => rfl
      xe := rfl
      units := by have := hr.un; show (A.deeper _).units + 66 < cLine; omega
      free := fun y hy => hfree y (by simpa using hy)
      cst := c2
      fns := fun j ft hj => by
        have hj2 : j < φs.length := by
          rw [← T.1]
          exact (List.getElem?_eq_some_iff.mp hj).1
        obtain ⟨f', fd', a1, a3, a4, a5⟩ := T.2 j ft (φs[j]) hj (List.getElem?_eq_getElem hj2)
        have e0 : (enOf φs (csv cs) (dsv ds)).f j = φs[j] := by
          show (φs[j]?).getD _ = _
          rw [List.getElem?_eq_getElem hj2]; rfl
        show FnIn _ ft ((enOf φs (csv cs) (dsv ds)).f j)
        rw [e0]
        exact ⟨f', fd', k, hr, a1, a3, a4, a5⟩
      cls := hk
      dst := ds_ok hds
      gd := fun h => by rw [show (free.contains ("str()" : Str) = true) = (false = true) from congrArg (· = true) hng] at h; cases h
      lam := fun h => by
        have z := (Bool.and_eq_true_iff.mp h).1
        rw [show (free.contains ("lambda()" : Str) = true) = (false = true) from congrArg (· = true) hnl] at z; cases z
      lamX := fun h => by
        have z := (Bool.and_eq_true_iff.mp h).1
        rw [show (free.contains ("lamX()" : Str) = true) = (false = true) from congrArg (· = true) hnx] at z; cases z }
  · obtain ⟨b, fdI, I, FI, hb, hm⟩ := TE c fl hc
    exact ⟨⟨1, fdI, hr.mono (by omega), I.oex, I.ini, I.ty, FI, hb, hm⟩⟩
def RefOk (K : PySem.W.Frag) (mg : Str → Option Value) (cs zs : List Str) (T : MPH.RefT) (rt : RT) : Prop := ∀ (c z : Str) (fl : List Str), rt.lookup c = some (z, fl) →
  PySem.W.exmOne K (.ref (He.ga K c)) (.ref (He.ga K "RigError")) = some true ∧ MPH.EC K (He.ga K c) ∧ MPH.KOf K mg cs zs (He.ga K c) z ∧ MPH.ROf K mg T (He.ga K c) fl ∧ fl.length ≤ 100
def rtOf (es : List MPH.XrE) : RT := es.map fun e => (e.c, e.z, e.fl)
theorem refOk_of {cs zs : List Str} {T : MPH.RefT} {es : List MPH.XrE} (h : (es.all fun e => MPH.xrB K cs T e) = true) (hp : (es.all fun e => MPH.xrP zs T e) = true) (hv : mg "ValueError" = none) (hm : ∀ n ∈ cs ++ T.c1 :: T.c2 :: T.c3, n ≠ "ValueError" → mg n = some (.ref (He.ga K n))) (hT : ∀ n ∈ T.c3, n ≠ "ValueError") :
    RefOk K mg cs zs T (rtOf es) := by
  intro c z fl e
  have hmem : ∃ x ∈ es, (x.c, x.z, x.fl) = (c, z, fl) := by
    clear h hp
    induction es with
    | nil => simp [rtOf] at e
    | cons a es ih =>
      simp only [rtOf, List.map_cons, List.lookup] at e
      split at e
      · rename_i q
        simp only [Option.some.injEq, Prod.mk.injEq] at e
        exact ⟨a, List.mem_cons_self, by rw [(eq_of_beq q), e.1, e.2]⟩
      · obtain ⟨x, hx, q⟩ := ih e
        exact ⟨x, List.mem_cons_of_mem _ hx, q⟩
  obtain ⟨x, hx, q⟩ := hmem
  cases q
  exact MPH.xr_ok ((List.all_eq_true.mp h) x hx) ((List.all_eq_true.mp hp) x hx) hv hm hT
theorem mapM_len {α β : Type} {f : α → Option β} : ∀ {l : List α} {r : List β}, l.mapM f = some r → r.length = l.length
  | [], r, e => by
    simp only [List.mapM_nil, pure, Option.some.injEq] at e
    subst e
    rfl
  | a :: l, r, e => by
    simp only [List.mapM_cons, Option.bind_eq_bind, Option.bind_eq_some_iff, Option.pure_def, Option.some.injEq] at e
    obtain ⟨b, _, t, e2, rfl⟩ := e
    rw [List.length_cons, List.length_cons, mapM_len e2]
theorem tt_of {cs zs : List Str} {T : MPH.RefT} {rt : RT} (h : RefOk K mg cs zs T rt) {tl : XK → Hp → VK → Prop} {H : Hp} {Q : VK} (t : TTd K rt tl H Q) : MPH.TTx K (He.ga K "RigError") (MPH.spR K mg cs zs T) tl H Q := by
  intro Q' E mono hex
  refine t Q' E mono fun c z fl d fs vs H' e1 hd e2 hq => ?_
  obtain ⟨a1, a2, a3, a4, a5⟩ := h c z fl e1
  exact hex (He.ga K c) d fs H' hd a1 ⟨a2, z, fl, vs, a3, a4, e2, by rw [mapM_len e2]; exact a5, hq⟩
theorem gives_of {X : Cx} {Ng : List Str} {x : Str} {sg : Scope} {g : Addr} {cdg : Value} {bg : List Stmt} {a q : Str} {TT TT' : (XK → Hp → VK → Prop) → Hp → VK → Prop} (h : MPH.GivesN X Ng x sg g cdg bg a q TT) (k : ∀ tl H Q, TT' tl H Q → TT tl H Q) : MPH.GivesN X Ng x sg g cdg bg a q TT' :=
  fun f c' s H Q tl act hc t => h f c' s H Q tl act hc (k _ _ _ t)
theorem def_okLX {k kx : Nat} {x : Str} {st stT : Stmt} {f g : Addr} {fd gd : FuncData} {N NT ps free : List Str} {fns xfns : List FT} {φs : List Φ} {xφs : List ΦX} {rt : RT} {cs : List (Str × PyData)} {ds : List (Str × List (Str × Int))} {cl : List Nat} {qx : Str} {body : Iss} {p : Str × Option Str} {Pt : Addr}
    (F : FunD K x qx (defArgs st) (defBody st) (defScope st) [] [] f fd) (S : FnScope N ps (defScope st)) (T : Tab P w K mg base k fns φs) (TX : TabX P w K mg base kx xfns xφs) (hkx : kx ≤ k) (hcs : CsOk K mg cs) (hfree : ∀ y ∈ free, mg y = none) (hk : CsK K cl) (hds : DsOk K w mg ds)
    (hchk : chkSs ⟨N, defScope st, fun _ => true, free, csx cs, fns, cl, dsx ds, xfns⟩ ps.length body (defBody st) = true) (hwf : wfSs cl ps.length body = true)
    (F1 : FunD K "_law_told" "_law_told" (defArgs stT) (defBody stT) (defScope stT) [] [] g gd) (hm1 : mg "_law_told" = some (.ref g)) (hk1 : PySem.W.keepIn K (.ref g) = true) (hb1 : Binds K gd ["deed"] []) (S1 : FnScope NT ["deed"] (defScope stT)) (hN0 : NT[0]? = some ("deed" : Str)) (hv : Vis (defScope stT) "deed")
    (hG : ∀ (X : Cx) (cdv : Value), X.prog = P → X.w = w → X.K = K → X.mg = mg → X.base = base → Room (k + 3) X.A → MPH.GivesN X NT "_law_told" (defScope stT) g cdv (defBody stT) "deed" (lamQ qx (defScope st)) (TTd K rt))
    (hp : He.fAd K p = f) (TB : LamX.TabB base mg (He.codeOf K p) Pt) (hT : (Pt, lamQ qx (defScope st)) ∈ LamT.T) (hu : ∀ q ∈ LamT.T, q.1 = Pt → q.2 = lamQ qx (defScope st)) (hng : free.contains ("str()" : Str) = false := by decide +kernel) (hnl : free.contains ("lambda()" : Str) = false := by decide +kernel) :
    FnOk P w K mg base CX0 (k + 4) f fd ps (spOf K (fnΦ ps.length (N.length - ps.length) (evSs (enOf φs (csv cs) (dsv ds) xφs rt) body))) := by
  have hpl : ps.length ≤ N.length := by have := congrArg List.length S.pre; rw [List.length_take] at this; omega
  have hN : N.length = ps.length + (N.length - ps.length) := by omega
  obtain ⟨vs0, c1, c2⟩ := cs_ok hcs
  have hs := simSs (fs := ⟨enOf φs (csv cs) (dsv ds) xφs rt, vs0⟩) (np := ps.length) c1 hk body hwf
  have hcode := code_is F hp
  obtain ⟨oc, od, dV, kV, doc, pm, an, cdv, ct, osl, rfl, lk, hcd, _, _⟩ := F.ex
  obtain ⟨oc1, od1, dV1, kV1, doc1, pm1, an1, cdv1, ct1, osl1, rfl, lk1, hcd1, _, _⟩ := F1.ex
  have hcode : cdv = .ref (He.codeOf K p) := hcode
  have hfn : ∀ (j : Nat) ft, fns[j]? = some ft → ∃ f fd, FnAt K mg ft f ∧ Binds K fd ft.ps [] ∧ (∀ p ∈ ft.kws, KB K fd ft.ps p.1 p.2) ∧ FnOk P w K mg base CX0 k f fd ft.ps (spOf K ((enOf φs (csv cs) (dsv ds) xφs rt).f j)) := fun j ft hj => by
    have hj2 : j < φs.length := by
      rw [← T.1]
      exact (List.getElem?_eq_some_iff.mp hj).1
    obtain ⟨f', fd', a1, a3, a4, a5⟩ := T.2 j ft (φs[j]) hj (List.getElem?_eq_getElem hj2)
    have e0 : (enOf φs (csv cs) (dsv ds) xφs rt).f j = φs[j] := by
      show (φs[j]?).getD _ = _
      rw [List.getElem?_eq_getElem hj2]; rfl
    rw [e0]
    exact ⟨f', fd', a1, a3, a4, a5⟩
  have hxf : ∀ (j : Nat) ft, xfns[j]? = some ft → ∃ f fd, FnAt K mg ft f ∧ Binds K fd ft.ps [] ∧ FnOk P w K mg base (L2N.CX P w) k f fd ft.ps (spOfX K ((enOf φs (csv cs) (dsv ds) xφs rt).x j)) := fun j ft hj => by
    have hj2 : j < xφs.length := by
      rw [← TX.1]
      exact (List.getElem?_eq_some_iff.mp hj).1
    obtain ⟨f', fd', a1, a3, a5⟩ := TX.2 j ft (xφs[j]) hj (List.getElem?_eq_getElem hj2)
    have e0 : (enOf φs (csv cs) (dsv ds) xφs rt).x j = xφs[j] := by
      show (xφs[j]?).getD _ = _
      rw [List.getElem?_eq_getElem hj2]; rfl
    rw [e0]
    exact ⟨f', fd', a1, a3, a5.mono hkx⟩
  refine fn_of lk hcd S (fun vs H Q E h => (fn_sim hN hs h).1) fun A outer s H vs Q E hr h => ⟨_, PSs.nox (psSs (fs := ⟨enOf φs (csv cs) (dsv ds) xφs rt, vs0⟩) ?_ body _ hchk), (fn_sim hN hs h).2⟩
  exact {
    N := rfl
    nd := S.nd
    sc := rfl
    kind := S.kind
    calm := rfl
    fn := fun _ _ => rfl
    xe := rfl
    units := by have := hr.un; show (A.deeper _).units + 66 < cLine; omega
    free := fun y hy => hfree y (by simpa using hy)
    cst := c2
    fns := fun j ft hj => by
      obtain ⟨f', fd', a1, a3, a4, a5⟩ := hfn j ft hj
      exact ⟨f', fd', k, hr.mono (by omega), a1, a3, a4, a5⟩
    cls := hk
    dst := ds_ok hds
    gd := fun h => by rw [show (free.contains ("str()" : Str) = true) = (false = true) from congrArg (· = true) hng] at h; cases h
    lam := fun h => by
      have z := (Bool.and_eq_true_iff.mp h).1
      rw [show (free.contains ("lambda()" : Str) = true) = (false = true) from congrArg (· = true) hnl] at z; cases z
    lamX := fun _ => ⟨⟨k, g, He.codeOf K p, Pt, oc1, od1, defArgs stT, defBody stT, defScope stT, dV1, kV1, doc1, pm1, cdv1, ct1, an1, osl1, NT, hr, hm1, hk1, lk1, hcd1, hb1, S1, hN0, hv, hG _ _ rfl rfl rfl rfl rfl hr, TB, hcode, hT, hu, hfn, hxf⟩⟩ }
end
end MP
namespace MP
open PySem PySem.Spec PyProof.Rows L2
def toldP : List Stmt → Bool
  | [.Assign [.Name a _] (.Constant .none _ _) _, .Try [.Assign [.Name b _] (.Tuple [.Constant (.str z) _ _, .Call (.Name d _) [] [] _] _ _) _] [.ExceptHandler (some (.Name r _)) (some e) [.Assign [.Name c _] (.Call (.Name rf _) [.Name e2 _] [] _) _] _] [] [] _, .Return (some (.Name f _)) _] =>
    a == ("found" : Str) && (b == ("found" : Str) && (z == ("told" : Str) && (d == ("deed" : Str) && (r == ("RigError" : Str) && (e == ("e" : Str) && (c == ("found" : Str) && (rf == ("_law_refusal" : Str) && (e2 == ("e" : Str) && f == ("found" : Str)))))))))
  | _ => false
theorem toldP_ok {ss : List Stmt} (h : toldP ss = true) : ∃ p1 j1 p2 p3 p4 j2 p5 p6 p7 j3 p8 p9 p10 p11 p12 p13 p14 p15 p16 p17 p18 p19, ss = [.Assign [.Name "found" p1] (.Constant .none j1 p2) p3, .Try [.Assign [.Name "found" p4] (.Tuple [.Constant (.str "told") j2 p5, .Call (.Name "deed" p6) [] [] p7] j3 p8) p9] [.ExceptHandler (some (.Name "RigError" p10)) (some "e") [.Assign [.Name "found" p11] (.Call (.Name "_law_refusal" p12) [.Name "e" p13] [] p14) p15] p16] [] [] p17, .Return (some (.Name "found" p18)) p19] := by
  unfold toldP at h
  split at h
  · simp only [Bool.and_eq_true, beq_iff_eq] at h
    obtain ⟨rfl, rfl, rfl, rfl, rfl, rfl, rfl, rfl, rfl, rfl⟩ := h
    exact ⟨_, _, _, _, _, _, _, _, _, _, _, _, _, _, _, _, _, _, _, _, _, _, rfl⟩
  · cases h
def toldS (sc : Scope) : Bool := decide (sc.names.lookup ("found" : Str) = some .local) && (decide (sc.names.lookup ("e" : Str) = some .local) && (decide (sc.names.lookup ("RigError" : Str) = some .globalImplicit) && decide (sc.names.lookup ("_law_refusal" : Str) = some .globalImplicit)))
theorem gives_law {P : Program} {w : World} {K : PySem.W.Frag} {mg : Str → Option Value} {base : Heap} {k : Nat} {sk sr st : Stmt} {fk fr g : Addr} {fdk fdr : FuncData} {cs zs : List Str} {T : MPH.RefT} {kscope : Scope} {q : Str} {rt : RT}
    (Fk : FunD K "_law_kind_of" "_law_kind_of" (defArgs sk) (defBody sk) (defScope sk) [] [] fk fdk) (Fr : FunD K "_law_refusal" "_law_refusal" (defArgs sr) (defBody sr) (defScope sr) [] [] fr fdr)
    (Sk : FnScope ["e", "some", "titles", "title", "one"] ["e"] (defScope sk)) (hk : MPH.kindC (defBody sk) = some (cs, zs, kscope)) (hs : MPH.kindS cs (defScope sk) kscope = true) (okb : BlkOk ["e", "some", "titles", "title", "one"] (defScope sk) kscope [("title", 3), ("one", 4)])
    (Sr : FnScope ["e"] ["e"] (defScope sr)) (hT : MPH.refC (defBody sr) = some T) (hrs : MPH.refS T (defScope sr) = true) (m1 : mg "isinstance" = none) (m2 : mg "zip" = none) (mK : mg "_law_kind_of" = some (.ref fk)) (mR : mg "_law_refusal" = some (.ref fr))
    (kpK : PySem.W.keepIn K (.ref fk) = true) (kpR : PySem.W.keepIn K (.ref fr) = true) (bK : Binds K fdk ["e"] []) (bR : Binds K fdr ["e"] []) (mE : mg "RigError" = some (.ref (He.ga K "RigError"))) (ref : RefOk K mg cs zs T rt) (ht : toldP (defBody st) = true) (hts : toldS (defScope st) = true) :
    ∀ (X : Cx) (cdv : Value), X.prog = P → X.w = w → X.K = K → X.mg = mg → X.base = base → Room (k + 3) X.A → MPH.GivesN X ["deed", "found", "e"] "_law_told" (defScope st) g cdv (defBody st) "deed" q (TTd K rt) := by
  rintro X cdv rfl rfl rfl rfl rfl hr
  obtain ⟨p1, j1, p2, p3, p4, j2, p5, p6, p7, j3, p8, p9, p10, p11, p12, p13, p14, p15, p16, p17, p18, p19, eb⟩ := toldP_ok ht
  unfold toldS at hts
  simp only [Bool.and_eq_true, decide_eq_true_eq] at hts
  obtain ⟨t1, t2, t3, t4⟩ := hts
  obtain ⟨oc, od, dV, kV, doc, pm, an, cdk, ct, osl, rfl, lk, hcd, _, _⟩ := Fk.ex
  obtain ⟨oc1, od1, dV1, kV1, doc1, pm1, an1, cdr, ct1, osl1, rfl, lk1, hcd1, _, _⟩ := Fr.ex
  have FK := MPH.kind_ok (P := X.prog) (w := X.w) (base := X.base) lk hcd Sk hk hs okb m1 m2
  have FR := MPH.ref_ok (P := X.prog) (w := X.w) (base := X.base) lk1 hcd1 Sr hT hrs m1 FK mK kpK bK
  rw [eb]
  refine gives_of (MPH.told_gives (RE := He.ga X.K "RigError") (fo := "found") (en := "e") (rn := "_law_refusal") (by decide) rfl rfl t1 t2 (by decide) (by decide) (by decide) (by decide) t3 mE FR t4 mR kpR bR rfl (by decide) (fun D d fs H Q Q' => MPH.spR_mono D d fs H Q Q') fun s => ?_) fun tl H Q t => tt_of ref t
  have r2 := hr.deeper (envOfC "_law_told" (defScope st) s.heap.objs.size g cdv)
  exact ⟨by have := r2.dp; omega, by have := r2.un; omega⟩
end MP
namespace MP
open PySem PySem.Spec PyProof.Rows L2
variable [LamT]
theorem Tab.up {P : Program} {w : World} {K : PySem.W.Frag} {mg : Str → Option Value} {base : Heap} {k k' : Nat} {fns : List FT} {φs : List Φ} (T : Tab P w K mg base k fns φs) (h : k ≤ k') : Tab P w K mg base k' fns φs :=
  ⟨T.1, fun j ft φ a b => by
    obtain ⟨f, fd, a1, a2, a3, a4⟩ := T.2 j ft φ a b
    exact ⟨f, fd, a1, a2, a3, a4.mono h⟩⟩
end MP
namespace MP
open PySem L2
theorem log2_le {n k : Nat} (h : n < 2 ^ (k + 1)) : n.log2 ≤ k := by
  by_cases h0 : n = 0
  · subst h0; simp
  · have := (Nat.log2_lt h0).mpr h
    omega
theorem mulOk_of {a b : Int} (ha : a.natAbs < 2 ^ 6000) (hb : b.natAbs < 2 ^ 6000) : mulOk a b = true := by
  have h1 := log2_le (k := 5999) ha
  have h2 := log2_le (k := 5999) hb
  unfold mulOk
  exact decide_eq_true (by omega)
theorem divOk_of {a b : Int} (h0 : b ≠ 0) (hb : b.natAbs < 2 ^ 6000) : divOk a b = true := by
  have h2 := log2_le (k := 5999) hb
  unfold divOk Builtin.divisionGoesByPylong
  have : (b == 0) = false := by simpa using h0
  simp only [this, bne, Bool.not_false, Bool.true_and]
  have : ¬ b.natAbs.log2 / 30 + 1 > 300 := by omega
  simp [this]
structure Dw (a b : Int) : Prop where
  a0 : 0 ≤ a
  a1 : a < 10 ^ 300
  b0 : 0 ≤ b
  b1 : b < 2147483648
def wDraw : Is := (.while_ (.b (.op (.cmp .Lt) (.nm 3 (.nm 1 .nil)))) (.cons (.setIx 0 (.c (.int 1)) (.op (.bin .Mod) (.ex (.op (.bin .Mult) (.ex (.op .ix (.nm 0 (.ex (.c (.int 1)) .nil))) (.ex (.c (.int 69621)) .nil))) (.ex (.c (.int 2147483647)) .nil))))
  (.cons (.set 2 (.op (.bin .Add) (.ex (.op (.bin .Mult) (.nm 2 (.ex (.c (.int 268435456)) .nil))) (.ex (.op (.bin .FloorDiv) (.ex (.op (.bin .Mod) (.ex (.op (.bin .Mult) (.ex (.op .ix (.nm 0 (.ex (.c (.int 1)) .nil))) (.ex (.op (.bin .Add) (.ex (.op (.bin .FloorDiv) (.ex (.op .ix (.nm 0 (.ex (.c (.int 1)) .nil))) (.ex (.c (.int 128)) .nil))) (.ex (.c (.int 3)) .nil))) .nil))) (.ex (.c (.int 2147483629)) .nil))) (.ex (.c (.int 8)) .nil))) .nil))))
  (.cons (.set 3 (.op (.bin .Mult) (.nm 3 (.ex (.c (.int 268435456)) .nil))))
  .nil))))
def bDraw : Iss := (.cons (.ite (.b (.op (.cmp .Gt) (.ex (.op .ix (.nm 0 (.ex (.c (.int 0)) .nil))) (.ex (.c (.int 0)) .nil)))) (.cons (.set 2 (.op (.bin .Mod) (.ex (.op .ix (.nm 0 (.ex (.c (.int 0)) .nil))) (.nm 1 .nil))))
  (.cons (.setIx 0 (.c (.int 0)) (.op (.bin .FloorDiv) (.ex (.op .ix (.nm 0 (.ex (.c (.int 0)) .nil))) (.nm 1 .nil))))
  (.cons (.retM 2)
  .nil))) .nil)
  (.cons (.set 2 (.c (.int 0)))
  (.cons (.set 3 (.c (.int 1)))
  (.cons wDraw
  (.cons (.ret (.op (.bin .Mod) (.nm 2 (.nm 1 .nil))))
  .nil)))))
theorem fmod_lt {a m : Int} (h : 0 < m) : 0 ≤ a.fmod m ∧ a.fmod m < m := by
  rw [Int.fmod_eq_emod_of_nonneg _ (by omega)]
  exact ⟨Int.emod_nonneg _ (by omega), Int.emod_lt_of_pos _ h⟩
theorem fdiv_le {a m : Int} (h : 0 < m) (ha : 0 ≤ a) : 0 ≤ a.fdiv m ∧ a.fdiv m ≤ a := by
  rw [Int.fdiv_eq_ediv_of_nonneg _ (by omega)]
  exact ⟨Int.ediv_nonneg ha (by omega), Int.ediv_le_self _ ha⟩
theorem sWhile_step {c : MT} {body : MS} {ρ ρ1 ρ2 : Sl} {r : Out × Sl} (h1 : c ρ = some (true, ρ1)) (h2 : body ρ1 = some (.nx, ρ2)) (h3 : sWhile c body ρ2 = some r) : sWhile c body ρ = some r := by
  obtain ⟨n, e⟩ := sWhile_some h3
  refine sWhile_of (n := n + 1) ?_
  simp only [loopN, h1, Option.bind_some, if_true, h2]
  exact e
theorem sWhile_end {c : MT} {body : MS} {ρ ρ1 : Sl} (h1 : c ρ = some (false, ρ1)) : sWhile c body ρ = some (.nx, ρ1) := by
  refine sWhile_of (n := 1) ?_
  simp [loopN, h1]
theorem nat_lt {a : Int} {n : Nat} (h0 : 0 ≤ a) (h : a < n) : a.natAbs < n := by omega
theorem big300 : ((10 : Int) ^ 300 * 268435456) < ((2 ^ 6000 : Nat) : Int) := by decide
theorem wDraw_ok (en : En) {a m : Int} (hm : 0 < m) (hm2 : m ≤ 10 ^ 300) : ∀ (n : Nat) (b f w : Int), 0 ≤ b → b < 2147483648 → 0 ≤ f → f < w → w < m * 268435456 → m ≤ w * 268435456 ^ n →
    ∃ b' f' w', evS en wDraw [some (.ls [.fz (.int a), .fz (.int b)]), some (.fz (.int m)), some (.fz (.int f)), some (.fz (.int w))] = some (.nx, [some (.ls [.fz (.int a), .fz (.int b')]), some (.fz (.int m)), some (.fz (.int f')), some (.fz (.int w'))]) ∧ 0 ≤ b' ∧ b' < 2147483648 ∧ 0 ≤ f' := by
  intro n
  have hB := big300
  induction n with
  | zero =>
    intro b f w h1 h2 h3 h4 h5 h6
    refine ⟨b, f, w, ?_, h1, h2, h3⟩
    unfold wDraw
    rw [evS]
    refine sWhile_end ?_
    have : ¬ w < m := by omega
    simp [this]
  | succ n ih =>
    intro b f w h1 h2 h3 h4 h5 h6
    by_cases hw : w < m
    · have k1 := fmod_lt (a := b * 69621) (m := 2147483647) (by decide)
      generalize hb' : (b * 69621).fmod 2147483647 = b' at k1
      have k2 := fdiv_le (a := b') (m := 128) (by decide) k1.1
      generalize hc' : b'.fdiv 128 = c' at k2
      have k3 := fmod_lt (a := b' * (c' + 3)) (m := 2147483629) (by decide)
      generalize hd' : (b' * (c' + 3)).fmod 2147483629 = d' at k3
      have k4 : 0 ≤ d'.fdiv 8 ∧ d'.fdiv 8 < 268435456 := by
        rw [Int.fdiv_eq_ediv_of_nonneg _ (by decide)]
        omega
      have o1 : mulOk b 69621 = true := mulOk_of (nat_lt h1 (by omega)) (by decide)
      have o2 : mulOk f 268435456 = true := mulOk_of (nat_lt h3 (by omega)) (by decide)
      have o3 : mulOk b' (c' + 3) = true := mulOk_of (nat_lt k1.1 (by omega)) (nat_lt (by omega) (by omega))
      have o4 : mulOk w 268435456 = true := mulOk_of (nat_lt (by omega) (by omega)) (by decide)
      have o5 : divOk b' 128 = true := divOk_of (by decide) (by decide)
      have o6 : divOk d' 8 = true := divOk_of (by decide) (by decide)
      obtain ⟨b2, f2, w2, e, r⟩ := ih b' (f * 268435456 + d'.fdiv 8) (w * 268435456) k1.1 (by omega) (by omega) (by omega) (by omega) (by rw [Int.mul_assoc, ← Int.pow_succ']; exact h6)
      refine ⟨b2, f2, w2, ?_, r⟩
      unfold wDraw at e ⊢
      rw [evS] at e ⊢
      refine sWhile_step (ρ1 := [some (.ls [.fz (.int a), .fz (.int b)]), some (.fz (.int m)), some (.fz (.int f)), some (.fz (.int w))]) ?_ ?_ e
      · simp [hw]
      · simp [atI, ixN, o1, o2, o3, o4, o5, o6, hb', hc', hd']
    · refine ⟨b, f, w, ?_, h1, h2, h3⟩
      unfold wDraw
      rw [evS]
      refine sWhile_end ?_
      simp [hw]
theorem draw_ok (en : En) {a b m : Int} (h : Dw a b) (hm : 0 < m) (hm2 : m ≤ 10 ^ 300) : ∃ r a' b', fnΦ 2 2 (evSs en bDraw) [.ls [.fz (.int a), .fz (.int b)], .fz (.int m)] = some (.fz (.int r), [.ls [.fz (.int a'), .fz (.int b')], .fz (.int m)]) ∧ 0 ≤ r ∧ r < m ∧ Dw a' b' := by
  have hB := big300
  have h1 : m ≠ 0 := by omega
  have km := fun x => fmod_lt (a := x) hm
  by_cases ha : 0 < a
  · have hd : divOk a m = true := divOk_of h1 (nat_lt (by omega) (by omega))
    have k := fdiv_le hm h.a0
    refine ⟨a.fmod m, a.fdiv m, b, ?_, (km a).1, (km a).2, ⟨k.1, by have := h.a1; omega, h.b0, h.b1⟩⟩
    simp [fnΦ, bDraw, atI, ixN, ha, h1, hd]
  · have hn : m ≤ 1 * 268435456 ^ 40 := by
      have : (10 : Int) ^ 300 ≤ 1 * 268435456 ^ 40 := by decide
      omega
    obtain ⟨b', f', w', e, r1, r2, r3⟩ := wDraw_ok en (a := a) hm hm2 40 b 0 1 h.b0 h.b1 (by decide) (by decide) (by omega) hn
    refine ⟨f'.fmod m, a, b', ?_, (km f').1, (km f').2, ⟨h.a0, h.a1, r1, r2⟩⟩
    simp [fnΦ, bDraw, atI, ixN, ha, h1, e]
end MP
namespace MP
open PySem L2
def bDraws : Iss := (.cons (.set 2 (.op (.bin .Mult) (.ex (.c (.int 15485863)) (.nm 1 .nil))))
  (.cons (.ite (.b (.op (.cmp .Lt) (.nm 1 (.ex (.op (.blt .len) (.nm 0 .nil)) .nil)))) (.cons (.set 2 (.op (.bin .Mod) (.ex (.op .ix (.nm 0 (.nm 1 .nil))) (.ex (.op (.bin .Mult) (.ex (.op (.bin .Mult) (.ex (.op (.bin .Mult) (.ex (.op (.bin .Mult) (.ex (.op (.bin .Pow) (.ex (.c (.int 10)) (.ex (.c (.int 60)) .nil))) (.ex (.op (.bin .Pow) (.ex (.c (.int 10)) (.ex (.c (.int 60)) .nil))) .nil))) (.ex (.op (.bin .Pow) (.ex (.c (.int 10)) (.ex (.c (.int 60)) .nil))) .nil))) (.ex (.op (.bin .Pow) (.ex (.c (.int 10)) (.ex (.c (.int 60)) .nil))) .nil))) (.ex (.op (.bin .Pow) (.ex (.c (.int 10)) (.ex (.c (.int 60)) .nil))) .nil))) .nil))))
  .nil) (.cons (.ite (.b (.op (.cmp .Gt) (.ex (.op (.blt .len) (.nm 0 .nil)) (.ex (.c (.int 0)) .nil)))) (.cons (.set 2 (.op (.bin .Add) (.ex (.op (.bin .Mod) (.ex (.op .ix (.nm 0 (.ex (.op (.bin .Mod) (.nm 1 (.ex (.op (.blt .len) (.nm 0 .nil)) .nil))) .nil))) (.ex (.op (.bin .Pow) (.ex (.c (.int 10)) (.ex (.c (.int 15)) .nil))) .nil))) (.ex (.op (.bin .Mult) (.ex (.c (.int 15485863)) (.nm 1 .nil))) .nil))))
  .nil) .nil)
  .nil))
  (.cons (.ret (.op .lst (.ex (.op (.bin .Mult) (.nm 2 (.ex (.op (.blt .int) (.ex (.op (.cmp .GtE) (.nm 2 (.ex (.op (.bin .Pow) (.ex (.c (.int 10)) (.ex (.c (.int 18)) .nil))) .nil))) .nil)) .nil))) (.ex (.op (.bin .Add) (.ex (.c (.int 1)) (.ex (.op (.bin .Mod) (.ex (.op (.bin .Add) (.ex (.op (.bin .Mult) (.nm 2 (.ex (.c (.int 69621)) .nil))) (.ex (.op (.bin .Mult) (.ex (.c (.int 86028121)) (.ex (.op (.bin .Add) (.nm 1 (.ex (.c (.int 1)) .nil))) .nil))) .nil))) (.ex (.c (.int 2147483646)) .nil))) .nil))) .nil))))
  .nil)))
def rDraws : Iss := (.cons (.ret (.op .lst (.ex (.op (.bin .Mult) (.nm 2 (.ex (.op (.blt .int) (.ex (.op (.cmp .GtE) (.nm 2 (.ex (.op (.bin .Pow) (.ex (.c (.int 10)) (.ex (.c (.int 18)) .nil))) .nil))) .nil)) .nil))) (.ex (.op (.bin .Add) (.ex (.c (.int 1)) (.ex (.op (.bin .Mod) (.ex (.op (.bin .Add) (.ex (.op (.bin .Mult) (.nm 2 (.ex (.c (.int 69621)) .nil))) (.ex (.op (.bin .Mult) (.ex (.c (.int 86028121)) (.ex (.op (.bin .Add) (.nm 1 (.ex (.c (.int 1)) .nil))) .nil))) .nil))) (.ex (.c (.int 2147483646)) .nil))) .nil))) .nil))))
  .nil)
theorem lt300 : ((10 : Int) ^ 300) < ((2 ^ 6000 : Nat) : Int) := by decide
theorem rDraws_ok (en : En) {ns : List Int} {k c : Int} (hk : 0 ≤ k) (hk2 : k ≤ 1000) (h0 : 0 ≤ c) (h1 : c < 10 ^ 300) : ∃ a b, evSs en rDraws [some (.sc ns), some (.fz (.int k)), some (.fz (.int c))] = some (.rt (.ls [.fz (.int a), .fz (.int b)]), [some (.sc ns), some (.fz (.int k)), some (.fz (.int c))]) ∧ Dw a b := by
  have hB := lt300
  have o1 : mulOk c 69621 = true := mulOk_of (nat_lt h0 (by omega)) (by decide)
  have o2 : mulOk 86028121 (k + 1) = true := mulOk_of (by decide) (nat_lt (by omega) (by omega))
  have o3 : mulOk c (if (1000000000000000000 : Int) ≤ c then 1 else 0) = true := mulOk_of (nat_lt h0 (by omega)) (by split <;> decide)
  have k1 := fmod_lt (a := c * 69621 + 86028121 * (k + 1)) (m := 2147483646) (by decide)
  refine ⟨c * (if (1000000000000000000 : Int) ≤ c then 1 else 0), 1 + (c * 69621 + 86028121 * (k + 1)).fmod 2147483646, ?_, ⟨by split <;> omega, by split <;> omega, by omega, by omega⟩⟩
  simp [rDraws, o1, o2, o3, small]
theorem draws_ok (en : En) {ns : List Int} {k : Int} (hk : 0 ≤ k) (hk2 : k ≤ 1000) (hn : ns.length ≤ 1000) : ∃ a b, fnΦ 2 1 (evSs en bDraws) [.sc ns, .fz (.int k)] = some (.ls [.fz (.int a), .fz (.int b)], [.sc ns, .fz (.int k)]) ∧ Dw a b := by
  have o1 : mulOk 15485863 k = true := mulOk_of (by decide) (nat_lt (by omega) (by omega))
  have fin : ∀ c : Int, 0 ≤ c → c < 10 ^ 300 → (evSs en (bDraws) [some (.sc ns), some (.fz (.int k)), none] = evSs en rDraws [some (.sc ns), some (.fz (.int k)), some (.fz (.int c))]) → ∃ a b, fnΦ 2 1 (evSs en bDraws) [.sc ns, .fz (.int k)] = some (.ls [.fz (.int a), .fz (.int b)], [.sc ns, .fz (.int k)]) ∧ Dw a b := by
    intro c h0 h1 e
    obtain ⟨a, b, e2, d⟩ := rDraws_ok en (ns := ns) hk hk2 h0 h1
    refine ⟨a, b, ?_, d⟩
    rw [e2] at e
    simp only [fnΦ, List.length_cons, List.length_nil, if_true, List.map_cons, List.map_nil, List.replicate, List.cons_append, List.nil_append, e, Option.bind_some, outs]
  by_cases h1 : k < ns.length
  · obtain ⟨j, rfl⟩ := Int.eq_ofNat_of_zero_le hk
    have hj : j < ns.length := by omega
    have k1 := fmod_lt (a := ns[j]) (m := 10 ^ 300) (by decide)
    refine fin (ns[j].fmod (10 ^ 300)) k1.1 k1.2 ?_
    have q0 : (10 : Nat) < 2 ^ 64 := by decide
    have q1 : mulOk (10 ^ 60) (10 ^ 60) = true := by decide
    have q2 : mulOk (10 ^ 60 * 10 ^ 60) (10 ^ 60) = true := by decide
    have q3 : mulOk (10 ^ 60 * 10 ^ 60 * 10 ^ 60) (10 ^ 60) = true := by decide
    have q4 : mulOk (10 ^ 60 * 10 ^ 60 * 10 ^ 60 * 10 ^ 60) (10 ^ 60) = true := by decide
    have q5 : (10 : Int) ^ 60 * 10 ^ 60 * 10 ^ 60 * 10 ^ 60 * 10 ^ 60 = 10 ^ 300 := by decide
    have q6 : (10 : Int) ^ 300 ≠ 0 := by decide
    show evSs en (.cons _ (.cons _ rDraws)) _ = _
    generalize hr : evSs en rDraws = r
    simp [hr, atI, ixN, o1, hj, -Int.reducePow, -Nat.reducePow, q0, q1, q2, q3, q4, q5, q6]
  · by_cases h2 : 0 < ns.length
    · have k0 := fmod_lt (a := k) (m := ns.length) (by omega)
      obtain ⟨j, hj⟩ := Int.eq_ofNat_of_zero_le k0.1
      have hj2 : j < ns.length := by omega
      have k1 := fmod_lt (a := ns[j]) (m := 10 ^ 15) (by decide)
      refine fin (ns[j].fmod (10 ^ 15) + 15485863 * k) (by omega) (by have : (10 : Int) ^ 15 + 15485863 * 1000 < 10 ^ 300 := by decide
                                                                      omega) ?_
      have q6 : (10 : Int) ^ 15 ≠ 0 := by decide
      have q0 : (10 : Nat) < 2 ^ 64 := by decide
      have q7 : ¬ ns = [] := by rintro rfl; simp at h2
      show evSs en (.cons _ (.cons _ rDraws)) _ = _
      generalize hr : evSs en rDraws = r
      simp [hr, atI, ixN, o1, h1, h2, hj, hj2, q7, -Int.reducePow, -Nat.reducePow, q0, q6]
    · refine fin (15485863 * k) (by omega) (by have : (15485863 : Int) * 1000 < 10 ^ 300 := by decide
                                               omega) ?_
      show evSs en (.cons _ (.cons _ rDraws)) _ = _
      generalize hr : evSs en rDraws = r
      simp [hr, atI, ixN, o1, h1, h2]
@[simp] theorem atI_nat {α : Type} (xs : List α) (j : Nat) : atI xs (j : Int) = xs[j]? := by
  unfold atI ixN
  by_cases h : j < xs.length
  · simp [h]
  · simp [h]
@[simp] theorem atI_0 {α : Type} (xs : List α) : atI xs 0 = xs[0]? := atI_nat xs 0
@[simp] theorem atI_1 {α : Type} (xs : List α) : atI xs 1 = xs[1]? := atI_nat xs 1
@[simp] theorem atI_2 {α : Type} (xs : List α) : atI xs 2 = xs[2]? := atI_nat xs 2
@[simp] theorem eraseAll_fz (ds : List PyData) : eraseAll (ds.map .fz) = some ds := by
  induction ds with
  | nil => rfl
  | cons d ds ih => simp [ih]
def DrawSp (φ : Φ) : Prop := ∀ {a b m : Int}, Dw a b → 0 < m → m ≤ 10 ^ 300 → ∃ r a' b', φ [.ls [.fz (.int a), .fz (.int b)], .fz (.int m)] = some (.fz (.int r), [.ls [.fz (.int a'), .fz (.int b')], .fz (.int m)]) ∧ 0 ≤ r ∧ r < m ∧ Dw a' b'
def DrawsSp (φ : Φ) : Prop := ∀ {ns : List Int} {k : Int}, 0 ≤ k → k ≤ 1000 → ns.length ≤ 1000 → ∃ a b, φ [.sc ns, .fz (.int k)] = some (.ls [.fz (.int a), .fz (.int b)], [.sc ns, .fz (.int k)]) ∧ Dw a b
theorem draw_sp (en : En) : DrawSp (fnΦ 2 2 (evSs en bDraw)) := fun h h1 h2 => draw_ok en h h1 h2
theorem draws_sp (en : En) : DrawsSp (fnΦ 2 1 (evSs en bDraws)) := fun h h1 h2 => draws_ok en h h1 h2
end MP
namespace MP
open PySem L2
def Wp {α : Type} (o : Option α) (Q : α → Prop) : Prop := ∃ r, o = some r ∧ Q r
@[simp] theorem wp_some {α : Type} (a : α) (Q : α → Prop) : Wp (some a) Q ↔ Q a := ⟨fun ⟨r, e, q⟩ => by cases e; exact q, fun q => ⟨a, rfl, q⟩⟩
@[simp] theorem wp_none {α : Type} (Q : α → Prop) : Wp none Q ↔ False := by
  constructor
  · rintro ⟨r, e, _⟩
    cases e
  · intro h
    exact h.elim
theorem forL_all {tg : Tg} {body : MS} (I : Nat → Sl → Prop) : ∀ (ds : List PyData) (i : Nat) (ρ : Sl), I i ρ → (∀ j d ρ, ds[j]? = some d → I (i + j) ρ → ∃ ρ1 ρ2, asg tg d ρ = some ρ1 ∧ body ρ1 = some (.nx, ρ2) ∧ I (i + j + 1) ρ2) →
    ∃ ρ', forL tg body ds ρ = some (.nx, ρ') ∧ I (i + ds.length) ρ'
  | [], i, ρ, h, _ => ⟨ρ, rfl, h⟩
  | d :: ds, i, ρ, h, st => by
    obtain ⟨ρ1, ρ2, e1, e2, h2⟩ := st 0 d ρ rfl h
    obtain ⟨ρ', e3, h3⟩ := forL_all I ds (i + 1) ρ2 h2 fun j d ρ hj hI => by
      have := st (j + 1) d ρ hj (by rw [show i + (j + 1) = i + 1 + j by omega]; exact hI)
      rw [show i + (j + 1) = i + 1 + j by omega] at this
      exact this
    refine ⟨ρ', ?_, by rw [List.length_cons, show i + (ds.length + 1) = i + 1 + ds.length by omega]; exact h3⟩
    simp only [forL, e1, Option.bind_some, e2]
    exact e3
theorem for_ok {en : En} {k : ItK} {as : Ars} {tg : Tg} {body : Iss} {ρ ρ0 : Sl} {ds : List PyData} (h : mIt (itH k) (evA en as) ρ = some (ds, ρ0)) (I : Nat → Sl → Prop) (h0 : I 0 ρ0)
    (st : ∀ (j : Nat) d ρ, ds[j]? = some d → I j ρ → Wp (asg tg d ρ) fun ρ1 => Wp (evSs en body ρ1) fun r => r.1 = .nx ∧ I (j + 1) r.2) : ∃ ρ', evS en (.for_ k as tg body) ρ = some (.nx, ρ') ∧ I ds.length ρ' := by
  obtain ⟨ρ', e, h1⟩ := forL_all (tg := tg) (body := evSs en body) I ds 0 ρ0 h0 fun j d ρ hj hI => by
    rw [Nat.zero_add] at hI ⊢
    obtain ⟨ρ1, a1, ⟨o, ρ2⟩, a2, a3, a4⟩ := st j d ρ hj hI
    obtain rfl : o = .nx := a3
    exact ⟨ρ1, ρ2, a1, a2, a4⟩
  rw [Nat.zero_add] at h1
  refine ⟨ρ', ?_, h1⟩
  rw [evS]
  unfold sFor
  rw [h]
  exact e
theorem lcL_all {dp : Bool} {tg : Tg} {own : List Nat} {t : MT} {e : M} (I : Sl → Prop) (R : PyData → Vl → Prop) : ∀ (ds : List PyData) (ρ : Sl), I ρ →
    (∀ d ∈ ds, ∀ ρ, I ρ → ∃ ρ1 ρ2 x y ρ3, asg tg d ρ = some ρ1 ∧ t ρ1 = some (true, ρ2) ∧ e ρ2 = some (x, ρ3) ∧ keepV dp x = some y ∧ R d y ∧ I (wipeR ρ3 own)) →
    ∃ ys ρ', lcL dp tg own t e ds ρ = some (ys, ρ') ∧ I ρ' ∧ ys.length = ds.length ∧ ∀ (j : Nat) d y, ds[j]? = some d → ys[j]? = some y → R d y
  | [], ρ, h, _ => ⟨[], ρ, rfl, h, rfl, fun j d y hd => by simp at hd⟩
  | d :: ds, ρ, h, st => by
    obtain ⟨ρ1, ρ2, x, y, ρ3, e1, e2, e3, e4, r, h3⟩ := st d (List.mem_cons_self ..) ρ h
    obtain ⟨ys, ρ', e5, h5, l, q⟩ := lcL_all I R ds _ h3 fun d hd => st d (List.mem_cons_of_mem _ hd)
    refine ⟨y :: ys, ρ', ?_, h5, by simp [l], fun j d' y' hd hy => ?_⟩
    · simp only [lcL, e1, Option.bind_some, e2, if_true, e3, e4, e5]
    · cases j with
      | zero =>
        simp only [List.getElem?_cons_zero, Option.some.injEq] at hd hy
        subst hd; subst hy
        exact r
      | succ j => exact q j d' y' hd hy
theorem lc_ok {en : En} {dp : Bool} {own : List Nat} {k : ItK} {as : Ars} {tg : Tg} {t : Ts} {e : Ie} {ρ ρ0 : Sl} {ds : List PyData} (h : mIt (itH k) (evA en as) ρ = some (ds, ρ0)) (I : Sl → Prop) (R : PyData → Vl → Prop) (h0 : I (wipeR ρ0 own)) (hl : ds.length ≤ 1000000)
    (len : ∀ ρ, I ρ → ρ.length = ρ0.length)
    (st : ∀ d ∈ ds, ∀ ρ, I ρ → Wp (asg tg d ρ) fun ρ1 => Wp (evTs en t ρ1) fun b => b.1 = true ∧ Wp (ev en e b.2) fun r => Wp (keepV dp r.1) fun y => R d y ∧ I (wipeR r.2 own)) :
    ∃ ys ρ', ev en (.lc dp own k as tg t e) ρ = some (.ls ys, restR ρ0 own ρ') ∧ I ρ' ∧ ys.length = ds.length ∧ ∀ (j : Nat) d y, ds[j]? = some d → ys[j]? = some y → R d y := by
  obtain ⟨ys, ρ', e1, h1, l, q⟩ := lcL_all (dp := dp) (tg := tg) (own := own) (t := evTs en t) (e := ev en e) I R ds _ h0 fun d hd ρ hI => by
    obtain ⟨ρ1, a1, ⟨b, ρ2⟩, a2, a2', ⟨x, ρ3⟩, a3, y, a4, a5, a6⟩ := st d hd ρ hI
    obtain rfl : b = true := a2'
    exact ⟨ρ1, ρ2, x, y, ρ3, a1, a2, a3, a4, a5, a6⟩
  refine ⟨ys, ρ', ?_, h1, l, q⟩
  rw [ev]
  unfold mLc
  rw [h]
  simp only [Option.bind_some, e1]
  rw [if_pos ⟨len ρ' h1, hl⟩]
theorem lc_map {en : En} {own : List Nat} {k : ItK} {as : Ars} {tg : Tg} {e : Ie} {ρ ρ0 : Sl} {ds : List PyData} (g : PyData → PyData) (h : mIt (itH k) (evA en as) ρ = some (ds, ρ0)) (hl : ds.length ≤ 1000000) (hr : restR ρ0 own (wipeR ρ0 own) = ρ0)
    (st : ∀ d ∈ ds, Wp (asg tg d (wipeR ρ0 own)) fun ρ1 => Wp (ev en e ρ1) fun r => erase r.1 = some (g d) ∧ wipeR r.2 own = wipeR ρ0 own) :
    ev en (.lc false own k as tg .no e) ρ = some (.ls ((ds.map g).map .fz), ρ0) := by
  obtain ⟨ys, ρ', e1, h1, l, q⟩ := lc_ok (en := en) (dp := false) (t := .no) (e := e) (tg := tg) (own := own) h (fun ρ => ρ = wipeR ρ0 own) (fun d y => y = .fz (g d)) rfl hl (fun ρ h => by rw [h, wipeR_len]) fun d hd ρ hρ => by
    subst hρ
    obtain ⟨ρ1, a1, ⟨x, ρ3⟩, a2, a3, a4⟩ := st d hd
    exact ⟨ρ1, a1, (true, ρ1), by rw [evTs], rfl, (x, ρ3), a2, .fz (g d), by unfold keepV; rw [if_neg (by simp), a3]; rfl, rfl, a4⟩
  subst h1
  rw [hr] at e1
  rw [e1]
  have : ys = (ds.map g).map .fz := by
    refine List.ext_getElem? fun j => ?_
    by_cases hj : j < ds.length
    · have := q j ds[j] (ys[j]'(by omega)) (by simp [hj]) (by simp [show j < ys.length by omega])
      rw [List.getElem?_eq_getElem (by omega), this]
      simp [hj]
    · rw [List.getElem?_eq_none (by omega), List.getElem?_eq_none (by simp; omega)]
  rw [this]
@[simp] theorem enOf_f (φs : List Φ) (cs : List PyData) (ds : List (List (Str × Int))) (j : Nat) : (enOf φs cs ds).f j = (φs[j]?).getD fun _ => none := rfl
@[simp] theorem enOf_c (φs : List Φ) (cs : List PyData) (ds : List (List (Str × Int))) (j : Nat) : (enOf φs cs ds).c j = (cs[j]?).getD .none := rfl
@[simp] theorem enOf_s (φs : List Φ) (cs : List PyData) (ds : List (List (Str × Int))) (j : Nat) : (enOf φs cs ds).s j = (ds[j]?).getD [] := rfl
@[simp] theorem shaped_int (i : Int) : SeqAt.shaped (.int i) = true := by
  simp [SeqAt.shaped, PyData.canLay0, PyData.depth]
@[simp] theorem eqv_int (i j : Int) : PyData.eqv (.int i) (.int j) = decide (i = j) := by
  simp only [PyData.eqv]
  by_cases h : i = j <;> simp [h]
@[simp] theorem intsOf_map (ns : List Int) : intsOf (ns.map .int) = some ns := by
  induction ns with
  | nil => rfl
  | cons n ns ih => simp [intsOf, ih]
end MP
namespace MP
open PySem L2
@[simp] theorem eraseAll_comp {α : Type} (f : α → PyData) (xs : List α) : eraseAll (xs.map (Vl.fz ∘ f)) = some (xs.map f) := by
  rw [← List.map_map]
  exact eraseAll_fz _
@[simp] theorem eraseAll_fun {α : Type} (f : α → PyData) (xs : List α) : eraseAll (xs.map fun x => Vl.fz (f x)) = some (xs.map f) := eraseAll_comp f xs
def fi (ns : List Int) : List Vl := ns.map fun n => .fz (.int n)
@[simp] theorem eraseAll_fi (ns : List Int) : eraseAll (fi ns) = some (ns.map .int) := eraseAll_comp _ _
theorem mem_zip {α β γ : Type} {f : α → β → γ} : ∀ {xs : List α} {ys : List β} {z : γ}, z ∈ List.zipWith f xs ys → ∃ a b, a ∈ xs ∧ b ∈ ys ∧ z = f a b
  | [], _, z, h => by simp at h
  | _ :: _, [], z, h => by simp at h
  | x :: xs, y :: ys, z, h => by
    simp only [List.zipWith_cons_cons, List.mem_cons] at h
    rcases h with rfl | h
    · exact ⟨x, y, List.mem_cons_self .., List.mem_cons_self .., rfl⟩
    · obtain ⟨a, b, h1, h2, h3⟩ := mem_zip h
      exact ⟨a, b, List.mem_cons_of_mem _ h1, List.mem_cons_of_mem _ h2, h3⟩
def fl (ps : List (Int × Int)) : List Int := ps.flatMap fun p => [p.1, p.2]
end MP
namespace MP
open PySem L2
theorem rangeD_len (lo c : Int) (n : Nat) : (rangeD lo c n).length = n := by simp [rangeD]
theorem get_rangeD {n j : Nat} {d : PyData} (h : (rangeD 0 1 n)[j]? = some d) : j < n ∧ d = .int j := by
  simp only [rangeD, List.getElem?_map, Option.map_eq_some_iff] at h
  obtain ⟨k, hk, rfl⟩ := h
  have := List.getElem?_eq_some_iff.mp hk
  obtain ⟨h1, h2⟩ := this
  simp only [List.length_range] at h1
  simp only [List.getElem_range] at h2
  subst h2
  exact ⟨h1, by simp⟩
theorem bnd_nat {n : Nat} (h : n ≤ 1000) : bnd (n : Int) = true := by
  unfold bnd
  exact decide_eq_true (by omega)
theorem le300 {n : Int} (h : n ≤ 10000000000) : n ≤ 10 ^ 300 := by
  have : (10000000000 : Int) ≤ 10 ^ 300 := by decide
  omega
end MP
namespace MP
open PySem L2
@[simp] theorem fi_comp (xs : List Int) : List.map (Vl.fz ∘ PyData.int) xs = fi xs := rfl
@[simp] theorem fi_len (xs : List Int) : (fi xs).length = xs.length := by simp [fi]
theorem seq_nx {f g : MS} {ρ ρ1 : Sl} (h : f ρ = some (.nx, ρ1)) : sSeq f g ρ = g ρ1 := by
  unfold sSeq
  rw [h]
  rfl
end MP
namespace MP
open PySem L2
def TD (B : Int) (L : Nat) : Nat → PyData → Prop
  | 0, d => match d with
    | .none => True
    | .bool _ => True
    | .int i => -B ≤ i ∧ i ≤ B
    | .str x => PyData.strOk x = true ∧ x.length ≤ L
    | _ => False
  | D + 1, d => match d with
    | .none => True
    | .bool _ => True
    | .int i => -B ≤ i ∧ i ≤ B
    | .str x => PyData.strOk x = true ∧ x.length ≤ L
    | .list ds => ds.length ≤ L ∧ ∀ e ∈ ds, TD B L D e
    | .tuple ds => ds.length ≤ L ∧ ∀ e ∈ ds, TD B L D e
    | .dict _ => False
theorem TD.lay {B : Int} {L : Nat} : ∀ {D : Nat} {d : PyData}, TD B L D d → d.canLay0 = true ∧ d.depth ≤ D + 1
  | 0, d, t => by
    cases d <;> simp only [TD] at t <;> simp_all [PyData.canLay0, PyData.depth]
  | D + 1, d, t => by
    have all : ∀ ds : List PyData, (∀ e ∈ ds, TD B L D e) → PyData.canLayAll0 ds = true ∧ PyData.depthAll ds ≤ D + 1 := by
      intro ds
      induction ds with
      | nil => intro _; simp [PyData.canLayAll0, PyData.depthAll]
      | cons e es ih =>
        intro h
        obtain ⟨a1, a2⟩ := TD.lay (h e (List.mem_cons_self ..))
        obtain ⟨b1, b2⟩ := ih fun x hx => h x (List.mem_cons_of_mem _ hx)
        simp only [PyData.canLayAll0, PyData.depthAll, a1, b1, Bool.and_self, true_and]
        omega
    cases d with
    | list ds =>
      simp only [TD] at t
      obtain ⟨a, b⟩ := all ds t.2
      simp only [PyData.canLay0, PyData.depth, a, true_and]
      omega
    | tuple ds =>
      simp only [TD] at t
      obtain ⟨a, b⟩ := all ds t.2
      simp only [PyData.canLay0, PyData.depth, a, true_and]
      omega
    | _ => simp only [TD] at t <;> simp_all [PyData.canLay0, PyData.depth]
theorem TD.shaped {B : Int} {L D : Nat} {d : PyData} (h : TD B L D d) (hD : D ≤ 60) : SeqAt.shaped d = true := by
  obtain ⟨a, b⟩ := h.lay
  unfold SeqAt.shaped
  rw [a]
  simp
  omega
end MP
namespace MP
open PySem L2
section
variable {en : En} {th : Nat}
end
end MP
namespace MP
open PySem L2
section
variable {en : En} {th : Nat}
end
end MP
namespace MP
open PySem L2
section
variable {en : En} {th : Nat}
end
end MP
namespace MP
open PySem L2
section
variable {en : En} {th self : Nat}
theorem sh_nil : SeqAt.shaped (.list []) = true := by decide +kernel
end
end MP
namespace MP
open PySem L2
inductive F2 {α β : Type} (R : α → β → Prop) : List α → List β → Prop where
  | nil : F2 R [] []
  | cons {a : α} {b : β} {as : List α} {bs : List β} : R a b → F2 R as bs → F2 R (a :: as) (b :: bs)
theorem set_back {α : Type} (xs : List (Option α)) (i : Nat) (y : Option α) : (xs.set i y).set i ((xs[i]?).getD none) = xs := by
  refine List.ext_getElem? fun j => ?_
  rw [List.set_set]
  by_cases h : i = j
  · subst h
    by_cases hi : i < xs.length
    · rw [List.getElem?_set_self hi]; simp [hi]
    · rw [List.getElem?_eq_none (by simp; omega), List.getElem?_eq_none (by omega)]
  · rw [List.getElem?_set_ne h]
theorem rest_wipe (ρ : Sl) : ∀ own : List Nat, restR ρ own (wipeR ρ own) = ρ
  | [] => rfl
  | i :: is => by
    simp only [wipeR, restR]
    rw [set_back]
    exact rest_wipe ρ is
theorem lcL_fm {tg : Tg} {own : List Nat} {t : MT} {e : M} {ρ0 : Sl} (pr : PyData → Bool) (g : PyData → PyData) : ∀ (ds : List PyData),
    (∀ d ∈ ds, Wp (asg tg d ρ0) fun ρ1 => Wp (t ρ1) fun b => b.1 = pr d ∧ wipeR b.2 own = ρ0 ∧ (pr d = true → Wp (e b.2) fun r => erase r.1 = some (g d) ∧ wipeR r.2 own = ρ0)) →
    lcL false tg own t e ds ρ0 = some (((ds.filter pr).map g).map .fz, ρ0)
  | [], _ => rfl
  | d :: ds, st => by
    have ih := lcL_fm pr g ds fun d hd => st d (List.mem_cons_of_mem _ hd)
    obtain ⟨ρ1, a1, ⟨b, ρ2⟩, a2, a3, a4, a5⟩ := st d (List.mem_cons_self ..)
    simp only [lcL, a1, Option.bind_some, a2]
    simp only at a3 a4
    subst a3
    by_cases hp : pr d = true
    · obtain ⟨⟨x, ρ3⟩, c1, c2, c3⟩ := a5 hp
      simp only at c2 c3 c1
      rw [if_pos hp, c1]
      simp only [Option.bind_some, keepV, Bool.false_eq_true, if_false, c2, Option.map_some, c3, ih, List.filter_cons, hp, if_true, List.map_cons]
    · rw [if_neg hp, a4, ih]
      simp only [List.filter_cons, hp, if_false, Bool.false_eq_true]
theorem lc_fm {en : En} {x : Ie} {own : List Nat} {k : ItK} {as : Ars} {tg : Tg} {t : Ts} {e : Ie} {ρ ρ0 : Sl} {ds : List PyData} (hx : x = .lc false own k as tg t e) (pr : PyData → Bool) (g : PyData → PyData) (h : mIt (itH k) (evA en as) ρ = some (ds, ρ0)) (hl : ds.length ≤ 1000000)
    (st : ∀ d ∈ ds, Wp (asg tg d (wipeR ρ0 own)) fun ρ1 => Wp (evTs en t ρ1) fun b => b.1 = pr d ∧ wipeR b.2 own = wipeR ρ0 own ∧ (pr d = true → Wp (ev en e b.2) fun r => erase r.1 = some (g d) ∧ wipeR r.2 own = wipeR ρ0 own)) :
    ev en x ρ = some (.ls (((ds.filter pr).map g).map .fz), ρ0) := by
  subst hx
  rw [ev]
  unfold mLc
  rw [h]
  simp only [Option.bind_some, lcL_fm pr g ds st]
  rw [if_pos ⟨wipeR_len .., hl⟩, rest_wipe]
theorem lc_mp {en : En} {x : Ie} {own : List Nat} {k : ItK} {as : Ars} {tg : Tg} {e : Ie} {ρ ρ0 : Sl} {ds : List PyData} (hx : x = .lc false own k as tg .no e) (g : PyData → PyData) (h : mIt (itH k) (evA en as) ρ = some (ds, ρ0)) (hl : ds.length ≤ 1000000)
    (st : ∀ d ∈ ds, Wp (asg tg d (wipeR ρ0 own)) fun ρ1 => Wp (ev en e ρ1) fun r => erase r.1 = some (g d) ∧ wipeR r.2 own = wipeR ρ0 own) :
    ev en x ρ = some (.ls ((ds.map g).map .fz), ρ0) := by
  subst hx
  exact lc_map g h hl (rest_wipe ..) st
theorem lcL_inv {dp : Bool} {tg : Tg} {own : List Nat} {t : MT} {e : M} (I : Sl → Prop) (R : PyData → Vl → Prop) : ∀ (ds : List PyData) (ρ : Sl), I ρ →
    (∀ d ∈ ds, ∀ ρ, I ρ → Wp (asg tg d ρ) fun ρ1 => Wp (t ρ1) fun b => if b.1 = true then (Wp (e b.2) fun r => Wp (keepV dp r.1) fun y => R d y ∧ I (wipeR r.2 own)) else I (wipeR b.2 own)) →
    ∃ ys ρ' es, lcL dp tg own t e ds ρ = some (ys, ρ') ∧ I ρ' ∧ List.Sublist es ds ∧ F2 R es ys
  | [], ρ, h, _ => ⟨[], ρ, [], rfl, h, .slnil, .nil⟩
  | d :: ds, ρ, h, st => by
    obtain ⟨ρ1, a1, ⟨b, ρ2⟩, a2, a3⟩ := st d (List.mem_cons_self ..) ρ h
    cases b with
    | true =>
      simp only [if_true] at a3
      obtain ⟨⟨x, ρ3⟩, c1, y, c2, c3, c4⟩ := a3
      obtain ⟨ys, ρ', es, e5, h5, s5, f5⟩ := lcL_inv I R ds _ c4 fun d hd => st d (List.mem_cons_of_mem _ hd)
      refine ⟨y :: ys, ρ', d :: es, ?_, h5, s5.cons_cons d, .cons c3 f5⟩
      simp only [lcL, a1, Option.bind_some, a2, if_true, c1, c2, e5]
    | false =>
      simp only [Bool.false_eq_true, if_false] at a3
      obtain ⟨ys, ρ', es, e5, h5, s5, f5⟩ := lcL_inv I R ds _ a3 fun d hd => st d (List.mem_cons_of_mem _ hd)
      refine ⟨ys, ρ', es, ?_, h5, s5.cons d, f5⟩
      simp only [lcL, a1, Option.bind_some, a2, Bool.false_eq_true, if_false, e5]
theorem lc_inv {en : En} {x : Ie} {dp : Bool} {own : List Nat} {k : ItK} {as : Ars} {tg : Tg} {t : Ts} {e : Ie} {ρ ρ0 : Sl} {ds : List PyData} (hx : x = .lc dp own k as tg t e) (h : mIt (itH k) (evA en as) ρ = some (ds, ρ0)) (hl : ds.length ≤ 1000000) (I : Sl → Prop) (R : PyData → Vl → Prop) (h0 : I (wipeR ρ0 own))
    (len : ∀ ρ, I ρ → ρ.length = ρ0.length)
    (st : ∀ d ∈ ds, ∀ ρ, I ρ → Wp (asg tg d ρ) fun ρ1 => Wp (evTs en t ρ1) fun b => if b.1 = true then (Wp (ev en e b.2) fun r => Wp (keepV dp r.1) fun y => R d y ∧ I (wipeR r.2 own)) else I (wipeR b.2 own)) :
    ∃ ys ρ' es, ev en x ρ = some (.ls ys, restR ρ0 own ρ') ∧ I ρ' ∧ List.Sublist es ds ∧ F2 R es ys := by
  subst hx
  obtain ⟨ys, ρ', es, e1, h1, s, f⟩ := lcL_inv (dp := dp) (tg := tg) (own := own) (t := evTs en t) (e := ev en e) I R ds _ h0 st
  refine ⟨ys, ρ', es, ?_, h1, s, f⟩
  rw [ev]
  unfold mLc
  rw [h]
  simp only [Option.bind_some, e1]
  rw [if_pos ⟨len ρ' h1, hl⟩]
theorem bols_map {α : Type} (p : α → Bool) (xs : List α) : bolsOf (xs.map fun x => .bool (p x)) = some (xs.map p) := by
  induction xs with
  | nil => rfl
  | cons x xs ih => simp [bolsOf, ih]
end MP
namespace MP
open PySem L2
def wholeB : PyData → Bool
  | .int _ => true
  | _ => false
def bIsWhole : Iss := (.cons (.ret (.bv .And (.cons (.op (.isi .int) (.nm 0 .nil)) (.one (.notv (.op (.isi .bool) (.nm 0 .nil)))))))
  .nil)
def IsWholeSp (φ : Φ) : Prop := ∀ d : PyData, φ [.fz d] = some (.fz (.bool (wholeB d)), [.fz d])
theorem is_whole_sp (en : En) : IsWholeSp (fnΦ 1 0 (evSs en bIsWhole)) := by
  intro d
  cases d <;> simp [fnΦ, bIsWhole, wholeB, tru]
def pairB : PyData → Bool
  | .tuple [.int _, .int _] => true
  | _ => false
def frD (n : Nat) (bars : List (Nat × Nat)) : PyData := .tuple [.int n, .tuple (bars.map fun b => .tuple [.int b.1, .int b.2])]
theorem all_map {α : Type} (p : α → Bool) (xs : List α) : hAny true [.list (xs.map fun x => .bool (p x))] = some (.dat (.bool (xs.all p))) := by
  simp [hAny, bols_map, List.all_map]
end MP
namespace MP
open PySem L2
def barD (b : Nat × Nat) : PyData := .tuple [.int b.1, .int b.2]
theorem frD_eq (n : Nat) (bars : List (Nat × Nat)) : frD n bars = .tuple [.int n, .tuple (bars.map barD)] := rfl
structure FrOk (n : Nat) (bars : List (Nat × Nat)) : Prop where
  n1 : 1 ≤ n
  n6 : n ≤ 6
  lt : ∀ b ∈ bars, b.1 < b.2 ∧ b.2 < n
  len : bars.length ≤ 15
theorem TD.all {B : Int} {L D : Nat} {ds : List PyData} (hl : ds.length ≤ L) (h : ∀ e ∈ ds, TD B L D e) : TD B L (D + 1) (.list ds) := ⟨hl, h⟩
end MP
namespace MP
open PySem L2
def xSomePairs0 : Ie := (.lc false [7] .seq (.nm 3 .nil) (.nm 7) (.so (.b (.op (.cmp .Gt) (.ex (.op (.call 1) (.nm 0 (.nm 5 .nil))) (.ex (.c (.int 0)) .nil))))) (.v 7))
def xSomePairs1 : Ie := (.lc false [6] .range2 (.ex (.op (.bin .Add) (.nm 4 (.ex (.c (.int 1)) .nil))) (.nm 1 .nil)) (.nm 6) .no (.op .tup (.nm 4 (.nm 6 .nil))))
def xSomePairs2 : Iss := (.cons (.set 3 (.op (.bin .Add) (.nm 3 (.ex xSomePairs1 .nil))))
  .nil)
def xSomePairs3 : Is := (.for_ .range1 (.nm 1 .nil) (.nm 4) xSomePairs2)
def bSomePairs : Iss := (.cons (.set 3 (.op .lst .nil))
  (.cons xSomePairs3
  (.cons (.set 5 (.op .ix (.ex (.op .lst (.ex (.c (.int 2)) (.ex (.c (.int 3)) (.ex (.c (.int 4)) (.ex (.c (.int 9)) .nil))))) (.ex (.op (.call 1) (.nm 0 (.ex (.c (.int 4)) .nil))) .nil))))
  (.cons (.ret (.op (.blt .tuple) (.ex (.slE xSomePairs0 .no (.so (.v 2))) .nil)))
  .nil))))
def rowPairs (n i : Nat) : List (Nat × Nat) := (List.range (n - (i + 1))).map fun k => (i, i + 1 + k)
def pairsTo (n m : Nat) : List (Nat × Nat) := (List.range m).flatMap (rowPairs n)
def pairsOf (n : Nat) : List (Nat × Nat) := pairsTo n n
theorem pairsTo_succ (n m : Nat) : pairsTo n (m + 1) = pairsTo n m ++ rowPairs n m := by
  unfold pairsTo
  rw [List.range_succ, List.flatMap_append]
  simp
theorem pairsOf_len {n : Nat} (h : n ≤ 6) : (pairsOf n).length ≤ 15 := by
  have c : n = 0 ∨ n = 1 ∨ n = 2 ∨ n = 3 ∨ n = 4 ∨ n = 5 ∨ n = 6 := by omega
  rcases c with rfl | rfl | rfl | rfl | rfl | rfl | rfl <;> decide
theorem somePairs1_ok {en : En} {x0 x2 x3 x5 x7 : Option Vl} {n i : Nat} (hn : n ≤ 6) (hi : i < n) :
    ev en xSomePairs1 [x0, some (.fz (.int n)), x2, x3, some (.fz (.int i)), x5, none, x7] = some (.ls (((rowPairs n i).map barD).map .fz), [x0, some (.fz (.int n)), x2, x3, some (.fz (.int i)), x5, none, x7]) := by
  have c : bnd ((i : Int) + 1) = true := by
    unfold bnd
    simp only [decide_eq_true_eq]
    omega
  have e1 : ((n : Int) - ((i : Int) + 1)).toNat = n - (i + 1) := by omega
  have hl : (rangeD ((i : Int) + 1) 1 (n - (i + 1))).length ≤ 1000000 := by
    rw [rangeD_len]
    omega
  have key := lc_mp (en := en) (x := xSomePairs1) rfl (fun z => .tuple [.int i, z]) (ρ := [x0, some (.fz (.int n)), x2, x3, some (.fz (.int i)), x5, none, x7]) (ρ0 := [x0, some (.fz (.int n)), x2, x3, some (.fz (.int i)), x5, none, x7]) (ds := rangeD ((i : Int) + 1) 1 (n - (i + 1))) (by
      have cn : bnd (n : Int) = true := bnd_nat (show n ≤ 1000 by omega)
      obtain ⟨k, hk⟩ : ∃ k : Int, (i : Int) + 1 = k := ⟨_, rfl⟩
      rw [hk] at c e1 ⊢
      simp [hk, c, cn, e1]) hl fun z hz => by
    simp [small]
  rw [key]
  have e : (rangeD ((i : Int) + 1) 1 (n - (i + 1))).map (fun z => PyData.tuple [.int i, z]) = (rowPairs n i).map barD := by
    unfold rangeD rowPairs barD
    rw [List.map_map, List.map_map]
    refine List.map_congr_left fun k hk => ?_
    simp
  rw [e]
theorem somePairs3_ok {en : En} {x0 x2 : Option Vl} {n : Nat} (hn : n ≤ 6) :
    ∃ z4, evS en xSomePairs3 [x0, some (.fz (.int n)), x2, some (.ls []), none, none, none, none] = some (.nx, [x0, some (.fz (.int n)), x2, some (.ls (((pairsOf n).map barD).map .fz)), z4, none, none, none]) := by
  obtain ⟨ρ', e, z4, rfl⟩ := for_ok (en := en) (k := .range1) (as := .nm 1 .nil) (tg := .nm 4) (body := xSomePairs2) (ds := rangeD 0 1 n) (ρ := [x0, some (.fz (.int n)), x2, some (.ls []), none, none, none, none]) (ρ0 := [x0, some (.fz (.int n)), x2, some (.ls []), none, none, none, none]) (by simp [bnd_nat (show n ≤ 1000 by omega)])
    (fun j ρ => ∃ z4, ρ = [x0, some (.fz (.int n)), x2, some (.ls (((pairsTo n j).map barD).map .fz)), z4, none, none, none]) ⟨none, rfl⟩ fun j d ρ hj ⟨z4, hz⟩ => by
      subst hz
      obtain ⟨hjn, rfl⟩ := get_rangeD hj
      have g := somePairs1_ok (en := en) (x0 := x0) (x2 := x2) (x3 := some (.ls (((pairsTo n j).map barD).map .fz))) (x5 := none) (x7 := none) hn hjn
      have lb : ((pairsTo n j).map barD).length + ((rowPairs n j).map barD).length ≤ 1000000 := by
        have : ∀ m, m ≤ n → (pairsTo n m).length ≤ 6 * m := by
          intro m
          induction m with
          | zero => intro _; simp [pairsTo]
          | succ m ih =>
            intro h
            have := ih (by omega)
            rw [pairsTo_succ, List.length_append]
            simp only [rowPairs, List.length_map, List.length_range]
            omega
        have := this j (by omega)
        simp only [rowPairs, List.length_map, List.length_range]
        omega
      rw [pairsTo_succ, List.map_append]
      generalize (pairsTo n j).map barD = zs at g lb ⊢
      generalize (rowPairs n j).map barD = ws at g lb ⊢
      simp [xSomePairs2, g, lb, small]
  exact ⟨z4, by rw [rangeD_len] at e; exact e⟩
theorem somePairs0_ok {en : En} (hS : DrawSp (en.f 1)) {x1 x2 x4 : Option Vl} {a b s : Int} (h : Dw a b) (h0 : 0 < s) (h1 : s ≤ 10) {n : Nat} (hl : (pairsOf n).length ≤ 1000000) :
    ∃ (bars : List (Nat × Nat)) (a' b' : Int) (x3 : Vl), ev en xSomePairs0 [some (.ls [.fz (.int a), .fz (.int b)]), x1, x2, some (.ls (((pairsOf n).map barD).map .fz)), x4, some (.fz (.int s)), none, none] = some (.ls ((bars.map barD).map .fz), [some (.ls [.fz (.int a'), .fz (.int b')]), x1, x2, some x3, x4, some (.fz (.int s)), none, none]) ∧ List.Sublist bars (pairsOf n) ∧ Dw a' b' := by
  · obtain ⟨ys, ρ', es, e, ⟨a', b', hd, rfl⟩, sb, f⟩ := lc_inv (en := en) (x := xSomePairs0) rfl (ρ := [some (.ls [.fz (.int a), .fz (.int b)]), x1, x2, some (.ls (((pairsOf n).map barD).map .fz)), x4, some (.fz (.int s)), none, none]) (ρ0 := [some (.ls [.fz (.int a), .fz (.int b)]), x1, x2, some (.fz (.list ((pairsOf n).map barD))), x4, some (.fz (.int s)), none, none]) (ds := (pairsOf n).map barD) (by simp) (by simpa using hl)
      (fun ρ => ∃ a' b' : Int, Dw a' b' ∧ ρ = [some (.ls [.fz (.int a'), .fz (.int b')]), x1, x2, some (.fz (.list ((pairsOf n).map barD))), x4, some (.fz (.int s)), none, none]) (fun d y => y = .fz d) ⟨a, b, h, by simp⟩ (fun ρ ⟨_, _, _, e⟩ => by rw [e]; rfl) fun d hd ρ ⟨a1, b1, h1, e1⟩ => by
        subst e1
        obtain ⟨r, a2, b2, e2, p2, q2, h2⟩ := hS h1 (m := s) h0 (le300 (by omega))
        by_cases hr : 0 < r
        · simp [e2, hr, keepV]
          exact h2
        · simp [e2, hr]
          exact h2
    obtain ⟨bars, hb, rfl⟩ := List.sublist_map_iff.mp sb
    have : ys = (bars.map barD).map .fz := by
      clear e hb sb
      generalize bars.map barD = zs at f
      induction f with
      | nil => rfl
      | cons h _ ih =>
        subst h
        rw [List.map_cons, ← ih]
    subst this
    refine ⟨bars, a', b', .fz (.list ((pairsOf n).map barD)), ?_, hb, hd⟩
    simpa using e
def SomePairsSp (φ : Φ) : Prop := ∀ {a b : Int} {n m : Nat}, Dw a b → n ≤ 6 → ∃ bars a' b', φ [.ls [.fz (.int a), .fz (.int b)], .fz (.int n), .fz (.int m)] = some (.fz (.tuple (bars.map barD)), [.ls [.fz (.int a'), .fz (.int b')], .fz (.int n), .fz (.int m)]) ∧ List.Sublist bars (pairsOf n) ∧ bars.length ≤ m ∧ Dw a' b'
theorem some_pairs_sp {en : En} (hS : DrawSp (en.f 1)) : SomePairsSp (fnΦ 3 5 (evSs en bSomePairs)) := by
  intro a b n m h hn
  obtain ⟨z4, e3⟩ := somePairs3_ok (en := en) (x0 := some (.ls [.fz (.int a), .fz (.int b)])) (x2 := some (.fz (.int m))) hn
  obtain ⟨r, a1, b1, e1, p1, q1, h1⟩ := hS h (m := 4) (by decide) (by decide)
  have c : r = 0 ∨ r = 1 ∨ r = 2 ∨ r = 3 := by omega
  have key : ∀ s : Int, 0 < s → s ≤ 10 → atI [PyData.int 2, .int 3, .int 4, .int 9] r = some (.int s) → ∃ bars a' b', fnΦ 3 5 (evSs en bSomePairs) [.ls [.fz (.int a), .fz (.int b)], .fz (.int n), .fz (.int m)] = some (.fz (.tuple (bars.map barD)), [.ls [.fz (.int a'), .fz (.int b')], .fz (.int n), .fz (.int m)]) ∧ List.Sublist bars (pairsOf n) ∧ bars.length ≤ m ∧ Dw a' b' := by
    intro s s0 s1 hs
    obtain ⟨bars, a2, b2, x3, e4, sb, h2⟩ := somePairs0_ok (en := en) hS (x1 := some (.fz (.int n))) (x2 := some (.fz (.int m))) (x4 := z4) (n := n) h1 s0 s1 (by have := pairsOf_len hn; omega)
    refine ⟨bars.take m, a2, b2, ?_, (List.take_sublist ..).trans sb, by simp; omega, h2⟩
    have hc : cutD (bars.map barD) none (some (m : Int)) = (bars.take m).map barD := by
      unfold cutD
      rw [HT.sIx_nat]
      simp only [HT.sIx]
      rw [List.drop_zero, List.map_take, Nat.sub_zero, Nat.min_comm]
      rcases Nat.le_total m (bars.map barD).length with h | h
      · rw [Nat.min_eq_right h]
      · rw [Nat.min_eq_left h, List.take_of_length_le (Nat.le_refl _), List.take_of_length_le h]
    generalize bars.map barD = zs at e4 hc
    simp [fnΦ, bSomePairs, small, e3, e1, hs, e4, hSl, hc, -List.map_map, -List.map_take]
  rcases c with rfl | rfl | rfl | rfl
  · exact key 2 (by decide) (by decide) rfl
  · exact key 3 (by decide) (by decide) rfl
  · exact key 4 (by decide) (by decide) rfl
  · exact key 9 (by decide) (by decide) rfl
theorem pairs_lt {n : Nat} : ∀ b ∈ pairsOf n, b.1 < b.2 ∧ b.2 < n := by
  intro b hb
  simp only [pairsOf, pairsTo, List.mem_flatMap, List.mem_range, rowPairs, List.mem_map] at hb
  obtain ⟨i, hi, k, hk, rfl⟩ := hb
  simp only
  omega
def bFrame (cSomePairsL : Nat) : Iss := (.cons (.set 1 (.op .ix (.ex (.op .lst (.ex (.op (.bin .Add) (.ex (.c (.int 1)) (.ex (.op (.call 1) (.nm 0 (.ex (.c (.int 6)) .nil))) .nil))) (.ex (.c (.int 4)) (.ex (.c (.int 5)) .nil)))) (.ex (.op (.call 1) (.nm 0 (.ex (.c (.int 3)) .nil))) .nil))))
  (.cons (.ret (.op .tup (.nm 1 (.ex (.op (.call cSomePairsL) (.nm 0 (.nm 1 (.ex (.c (.int 15)) .nil)))) .nil))))
  .nil))
def FrameSp (φ : Φ) : Prop := ∀ {a b : Int}, Dw a b → ∃ n bars a' b', φ [.ls [.fz (.int a), .fz (.int b)]] = some (.fz (frD n bars), [.ls [.fz (.int a'), .fz (.int b')]]) ∧ FrOk n bars ∧ List.Sublist bars (pairsOf n) ∧ Dw a' b'
theorem frame_sp {en : En} {c : Nat} (hS : DrawSp (en.f 1)) (hP : SomePairsSp (en.f c)) : FrameSp (fnΦ 1 1 (evSs en (bFrame c))) := by
  intro a b h
  obtain ⟨r1, a1, b1, e1, p1, q1, h1⟩ := hS h (m := 6) (by decide) (by decide)
  obtain ⟨r2, a2, b2, e2, p2, q2, h2⟩ := hS h1 (m := 3) (by decide) (by decide)
  obtain ⟨n, hn1, hn6, hn⟩ : ∃ n : Nat, 1 ≤ n ∧ n ≤ 6 ∧ atI [PyData.int (1 + r1), .int 4, .int 5] r2 = some (.int n) := by
    have c : r2 = 0 ∨ r2 = 1 ∨ r2 = 2 := by omega
    rcases c with rfl | rfl | rfl
    · exact ⟨(1 + r1).toNat, by omega, by omega, by simp; omega⟩
    · exact ⟨4, by omega, by omega, rfl⟩
    · exact ⟨5, by omega, by omega, rfl⟩
  obtain ⟨bars, a3, b3, e3, sb, lb, h3⟩ := hP (n := n) (m := 15) h2 hn6
  refine ⟨n, bars, a3, b3, ?_, ⟨hn1, hn6, fun b hb => pairs_lt b (sb.subset hb), lb⟩, sb, h3⟩
  simp at e3
  simp [fnΦ, bFrame, small, e1, e2, hn, e3, frD_eq]
end MP
namespace MP
open PySem L2
theorem cells_it {en : En} {ns : List Int} {N : Int} {ρ : Sl} (hN : 0 ≤ N) (hN2 : N ≤ 1000) (hn : ns.length ≤ 63) :
    ∃ m : Nat, m ≤ 1000 ∧ mIt (itH .range1) (evA en (.ex (.op (.blt .max) (.ex (.c (.int 1)) (.ex (.op (.blt .min) (.ex (.c (.int N)) (.ex (.op (.blt .len) (.nm 0 .nil)) .nil))) .nil))) .nil)) (some (.sc ns) :: ρ) = some (rangeD 0 1 m, some (.sc ns) :: ρ) := by
  obtain ⟨m, hm⟩ : ∃ m : Nat, (if (if (ns.length : Int) < N then (ns.length : Int) else N) > 1 then (if (ns.length : Int) < N then (ns.length : Int) else N) else 1) = (m : Int) := ⟨(if (if (ns.length : Int) < N then (ns.length : Int) else N) > 1 then (if (ns.length : Int) < N then (ns.length : Int) else N) else 1).toNat, by split <;> split <;> omega⟩
  have hm2 : m ≤ 1000 := by split at hm <;> split at hm <;> omega
  refine ⟨m, hm2, ?_⟩
  simp only [gt_iff_lt] at hm
  simp [hm, bnd_nat hm2]
theorem law_loop {en : En} {x : Is} {body : Iss} {N : Int} {ns : List Int} {ρ0 : Sl} (hx : x = .for_ .range1 (.ex (.op (.blt .max) (.ex (.c (.int 1)) (.ex (.op (.blt .min) (.ex (.c (.int N)) (.ex (.op (.blt .len) (.nm 0 .nil)) .nil))) .nil))) .nil) (.nm 1) body) (hn : ns.length ≤ 63) (J : Sl → Prop) (h0 : J ρ0)
    (st : ∀ (j : Nat) (ρ : Sl), j ≤ 1000 → J ρ → ∃ y ρ', evSs en body (some (.sc ns) :: some (.fz (.int j)) :: ρ) = some (.nx, some (.sc ns) :: y :: ρ') ∧ J ρ') (hN : 0 ≤ N := by decide) (hN2 : N ≤ 1000 := by decide) :
    ∃ y ρ', evS en x (some (.sc ns) :: none :: ρ0) = some (.nx, some (.sc ns) :: y :: ρ') ∧ J ρ' := by
  obtain ⟨m, hm, he⟩ := cells_it (en := en) (N := N) (ρ := none :: ρ0) hN hN2 hn
  subst hx
  obtain ⟨ρ', e, y, ρ1, rfl, h1⟩ := for_ok (tg := .nm 1) (body := body) he (fun j ρ => ∃ y ρ1, ρ = some (.sc ns) :: y :: ρ1 ∧ J ρ1) ⟨none, ρ0, rfl, h0⟩ fun j d ρ hj ⟨y, ρ1, e1, h1⟩ => by
    subst e1
    obtain ⟨hjm, rfl⟩ := get_rangeD hj
    obtain ⟨y', ρ2, e2, h2⟩ := st j ρ1 (by omega) h1
    exact ⟨_, rfl, _, e2, rfl, y', ρ2, rfl, h2⟩
  exact ⟨y, ρ1, e, h1⟩
end MP
namespace MP
open PySem L2
def bIsBetween (cIsWhole : Nat) : Iss := (.cons (.ret (.bv .And (.cons (.op (.call cIsWhole) (.nm 0 .nil)) (.one (.chain .LtE .LtE (.v 1) (.v 0) (.v 2))))))
  .nil)
theorem tup_or (d : PyData) : (∃ es, d = .tuple es) ∨ isiB d .tuple = false := by
  cases d <;> simp [isiB]
theorem int_or (d : PyData) : (∃ i, d = .int i) ∨ wholeB d = false := by
  cases d <;> simp [wholeB]
def betB (lo hi : Int) : PyData → Bool
  | .int i => decide (lo ≤ i ∧ i ≤ hi)
  | _ => false
theorem betB_no {lo hi : Int} {d : PyData} (h : wholeB d = false) : betB lo hi d = false := by
  cases d <;> simp [wholeB, betB] at *
def IsBetweenSp (φ : Φ) : Prop := ∀ (d : PyData) (lo hi : Int), φ [.fz d, .fz (.int lo), .fz (.int hi)] = some (.fz (.bool (betB lo hi d)), [.fz d, .fz (.int lo), .fz (.int hi)])
theorem is_between_sp {en : En} {c : Nat} (hW : IsWholeSp (en.f c)) : IsBetweenSp (fnΦ 3 0 (evSs en (bIsBetween c))) := by
  intro d lo hi
  have g := hW d
  rcases int_or d with ⟨i, rfl⟩ | h
  · simp [wholeB] at g
    by_cases h1 : lo ≤ i <;> simp [fnΦ, bIsBetween, g, tru, mChain, cmpP, betB, h1]
  · rw [h] at g
    simp [fnΦ, bIsBetween, g, tru, betB_no h]
def xRises0 : Ie := (.lc false [1, 2] .zip (.nm 0 (.ex (.slN 0 (.so (.c (.int 1))) .no) .nil)) (.tp (.cons (.nm 1) (.cons (.nm 2) .nil))) .no (.op (.cmp .Lt) (.nm 1 (.nm 2 .nil))))
def bRises : Iss := (.cons (.ret (.op (.blt .all) (.ex xRises0 .nil)))
  .nil)
def ltP : PyData → PyData → Bool
  | .tuple xs, .tuple ys => match intsOf xs, intsOf ys with
    | some ns, some ms => HT.lexLt ns ms
    | _, _ => false
  | _, _ => false
def risD : List PyData → Bool
  | x :: y :: r => ltP x y && risD (y :: r)
  | _ => true
def tupI (ns : List Int) : PyData := .tuple (ns.map .int)
def RisesSp (φ : Φ) : Prop := ∀ nss : List (List Int), nss.length ≤ 1000 → φ [.fz (.tuple (nss.map tupI))] = some (.fz (.bool (risD (nss.map tupI))), [.fz (.tuple (nss.map tupI))])
theorem ris_zip : ∀ xs : List PyData, (List.zipWith ltP xs (xs.drop 1)).all id = risD xs
  | [] => rfl
  | [x] => rfl
  | x :: y :: r => by
    have ih := ris_zip (y :: r)
    simp only [List.drop_succ_cons, List.drop_zero, List.zipWith_cons_cons, List.all_cons, id, risD] at ih ⊢
    rw [ih]
theorem vl_sl1 (xs : List PyData) : hSl (some 1) none [.tuple xs] = some (if xs = [] then .dat (.tuple xs) else .ntp (xs.drop 1)) := by
  have hs : HT.sIx xs.length 0 (some 1) = min 1 xs.length := by
    rw [show (1 : Int) = ((1 : Nat) : Int) from rfl, HT.sIx_nat]
  simp only [hSl, cutD, hs]
  simp only [HT.sIx]
  cases xs with
  | nil => rfl
  | cons x xs =>
    have h2 : min 1 (x :: xs).length = 1 := by simp
    rw [h2]
    simp
theorem rises_sp {en : En} : RisesSp (fnΦ 1 2 (evSs en bRises)) := by
  intro nss hl
  generalize hds : nss.map tupI = ds
  have hlen : ds.length ≤ 1000 := by rw [← hds]; simpa using hl
  have e : ev en xRises0 [some (.fz (.tuple ds)), none, none] = some (.ls ((((zipD ds (ds.drop 1)).map fun z => match z with
      | .tuple [x, y] => .bool (ltP x y)
      | _ => .none)).map .fz), [some (.fz (.tuple ds)), none, none]) := by
    refine lc_mp rfl _ (ρ0 := [some (.fz (.tuple ds)), none, none]) (ds := zipD ds (ds.drop 1)) ?_ ?_ fun z hz => ?_
    · cases ds with
      | nil => simp [vl_sl1]
      | cons x xs => simp [vl_sl1]
    · unfold zipD
      rw [List.length_zipWith]
      omega
    · unfold zipD at hz
      obtain ⟨a, b, ha, hb, rfl⟩ := mem_zip hz
      rw [← hds] at ha hb
      obtain ⟨n1, _, rfl⟩ := List.mem_map.mp ha
      obtain ⟨n2, _, rfl⟩ := List.mem_map.mp (List.mem_of_mem_drop hb)
      simp [tupI, ltP]
  have e2 : ((zipD ds (ds.drop 1)).map fun z => match z with
      | .tuple [x, y] => PyData.bool (ltP x y)
      | _ => .none) = (List.zipWith ltP ds (ds.drop 1)).map fun b => .bool b := by
    unfold zipD
    rw [List.map_zipWith, List.map_zipWith]
  rw [e2] at e
  have e3 := all_map (fun b : Bool => b) (List.zipWith ltP ds (ds.drop 1))
  have e4 : (List.zipWith ltP ds (ds.drop 1)).all (fun b => b) = risD ds := ris_zip ds
  rw [e4] at e3
  generalize List.zipWith ltP ds (ds.drop 1) = bs at e e3
  simp [fnΦ, bRises, e, e3]
def bIsBar (cIsBetween : Nat) : Iss := (.cons (.ite (.bo .Or (.cons (.not (.v (.op (.isi .tuple) (.nm 1 .nil)))) (.cons (.b (.op (.cmp .NotEq) (.ex (.op (.blt .len) (.nm 1 .nil)) (.ex (.c (.int 2)) .nil)))) (.one (.not (.v (.op (.call cIsBetween) (.ex (.op .ix (.nm 1 (.ex (.c (.int 0)) .nil))) (.ex (.c (.int 0)) (.ex (.op (.bin .Sub) (.nm 0 (.ex (.c (.int 1)) .nil))) .nil)))))))))) (.cons (.ret (.c (.bool false)))
  .nil) .nil)
  (.cons (.ret (.op (.call cIsBetween) (.ex (.op .ix (.nm 1 (.ex (.c (.int 1)) .nil))) (.ex (.op (.bin .Add) (.ex (.op .ix (.nm 1 (.ex (.c (.int 0)) .nil))) (.ex (.c (.int 1)) .nil))) (.ex (.op (.bin .Sub) (.nm 0 (.ex (.c (.int 1)) .nil))) .nil)))))
  .nil))
def barB (n : Int) : PyData → Bool
  | .tuple [.int i, .int j] => decide (0 ≤ i ∧ i ≤ n - 1) && decide (i + 1 ≤ j ∧ j ≤ n - 1)
  | _ => false
theorem len2 {es : List PyData} (h : es.length = 2) : ∃ a b, es = [a, b] := by
  match es, h with
  | [a, b], _ => exact ⟨a, b, rfl⟩
theorem barB_len {n : Int} {es : List PyData} (h : es.length ≠ 2) : barB n (.tuple es) = false := by
  unfold barB
  split
  · rename_i q
    simp only [PyData.tuple.injEq] at q
    subst q
    exact absurd rfl h
  · rfl
theorem barB_nt {n : Int} {d : PyData} (h : isiB d .tuple = false) : barB n d = false := by
  cases d <;> simp [isiB, barB] at *
theorem barB_ni {n : Int} {a b : PyData} (h : wholeB a = false) : barB n (.tuple [a, b]) = false := by
  cases a <;> simp [wholeB, barB] at *
def IsBarSp (φ : Φ) : Prop := ∀ (n : Int) (d : PyData), φ [.fz (.int n), .fz d] = some (.fz (.bool (barB n d)), [.fz (.int n), .fz d])
theorem is_bar_sp {en : En} {c : Nat} (hB : IsBetweenSp (en.f c)) : IsBarSp (fnΦ 2 0 (evSs en (bIsBar c))) := by
  intro n d
  rcases tup_or d with ⟨es, rfl⟩ | h
  · by_cases h2 : es.length = 2
    · obtain ⟨a, b, rfl⟩ := len2 h2
      have g1 := hB a 0 (n - 1)
      rcases int_or a with ⟨i, rfl⟩ | h
      · have g2 := hB b (i + 1) (n - 1)
        by_cases hi : 0 ≤ i ∧ i ≤ n - 1
        · simp only [betB, hi, and_self, decide_true] at g1
          have q : barB n (.tuple [.int i, b]) = betB (i + 1) (n - 1) b := by
            cases b <;> simp [barB, betB, hi]
          simp [fnΦ, bIsBar, tru, g1, g2, q]
        · simp only [betB, hi, decide_false] at g1
          have q : barB n (.tuple [.int i, b]) = false := by
            cases b <;> simp [barB, hi]
          simp [fnΦ, bIsBar, tru, g1, q]
      · rw [betB_no h] at g1
        simp [fnΦ, bIsBar, tru, g1, barB_ni h]
    · have h2' : ¬ (es.length : Int) = 2 := by omega
      simp [fnΦ, bIsBar, tru, h2', barB_len h2]
  · simp [-isiB, h, fnΦ, bIsBar, tru, barB_nt h]
end MP
namespace MP
open PySem L2
theorem forL_ix {tg : Tg} {body : MS} (I : Nat → Sl → Prop) : ∀ (ds : List PyData) (n : Nat) (ρ : Sl), I n ρ →
    (∀ (i : Nat) (d : PyData), ds[i]? = some d → ∀ ρ, I (n + i) ρ → Wp (asg tg d ρ) fun ρ1 => Wp (body ρ1) fun r => r.1 = .nx ∧ I (n + i + 1) r.2) →
    ∃ ρ', forL tg body ds ρ = some (.nx, ρ') ∧ I (n + ds.length) ρ'
  | [], n, ρ, h, _ => ⟨ρ, rfl, h⟩
  | d :: ds, n, ρ, h, st => by
    obtain ⟨ρ1, a1, ⟨o, ρ2⟩, a2, a3, a4⟩ := st 0 d rfl ρ h
    simp only at a3 a4
    subst a3
    obtain ⟨ρ', e, q⟩ := forL_ix (tg := tg) (body := body) I ds (n + 1) ρ2 a4 fun i d' hi ρ hI => by
      have e1 : n + 1 + i = n + (i + 1) := by omega
      rw [e1] at hI ⊢
      exact st (i + 1) d' (by simpa using hi) ρ hI
    refine ⟨ρ', ?_, ?_⟩
    · simp only [forL, a1, Option.bind_some, a2]
      exact e
    · have e1 : n + (d :: ds).length = n + 1 + ds.length := by simp; omega
      rw [e1]; exact q
theorem for_ix {en : En} {x : Is} {k : ItK} {as : Ars} {tg : Tg} {body : Iss} {ρ ρ0 : Sl} {ds : List PyData} (hx : x = .for_ k as tg body) (h : mIt (itH k) (evA en as) ρ = some (ds, ρ0)) (I : Nat → Sl → Prop) (h0 : I 0 ρ0)
    (st : ∀ (i : Nat) (d : PyData), ds[i]? = some d → ∀ ρ, I i ρ → Wp (asg tg d ρ) fun ρ1 => Wp (evSs en body ρ1) fun r => r.1 = .nx ∧ I (i + 1) r.2) :
    ∃ ρ', evS en x ρ = some (.nx, ρ') ∧ I ds.length ρ' := by
  subst hx
  obtain ⟨ρ', e, q⟩ := forL_ix (tg := tg) (body := evSs en body) I ds 0 ρ0 h0 fun i d hi ρ hI => by
    rw [Nat.zero_add] at hI ⊢
    exact st i d hi ρ hI
  refine ⟨ρ', ?_, by rw [Nat.zero_add] at q; exact q⟩
  rw [evS]
  unfold sFor
  rw [h]
  exact e
end MP
namespace MP
open PySem L2
def xPairsL0 : Ie := (.lc false [3] .range2 (.ex (.op (.bin .Add) (.nm 2 (.ex (.c (.int 1)) .nil))) (.nm 0 .nil)) (.nm 3) .no (.op .tup (.nm 2 (.nm 3 .nil))))
def xPairsL1 : Iss := (.cons (.set 1 (.op (.bin .Add) (.nm 1 (.ex xPairsL0 .nil))))
  .nil)
def xPairsL2 : Is := (.for_ .range1 (.nm 0 .nil) (.nm 2) xPairsL1)
def bPairsL : Iss := (.cons (.set 1 (.op .lst .nil))
  (.cons xPairsL2
  (.cons (.retM 1)
  .nil)))
def PairsLSp (φ : Φ) : Prop := ∀ n : Nat, n ≤ 6 → φ [.fz (.int n)] = some (.ls (((pairsOf n).map barD).map .fz), [.fz (.int n)])
theorem pairsL0_ok {en : En} {x1 : Option Vl} {n i : Nat} (hn : n ≤ 6) (hi : i < n) :
    ev en xPairsL0 [some (.fz (.int n)), x1, some (.fz (.int i)), none] = some (.ls (((rowPairs n i).map barD).map .fz), [some (.fz (.int n)), x1, some (.fz (.int i)), none]) := by
  have c : bnd ((i : Int) + 1) = true := by
    unfold bnd
    simp only [decide_eq_true_eq]
    omega
  have e1 : ((n : Int) - ((i : Int) + 1)).toNat = n - (i + 1) := by omega
  have hl : (rangeD ((i : Int) + 1) 1 (n - (i + 1))).length ≤ 1000000 := by
    rw [rangeD_len]
    omega
  have key := lc_mp (en := en) (x := xPairsL0) rfl (fun z => .tuple [.int i, z]) (ρ := [some (.fz (.int n)), x1, some (.fz (.int i)), none]) (ρ0 := [some (.fz (.int n)), x1, some (.fz (.int i)), none]) (ds := rangeD ((i : Int) + 1) 1 (n - (i + 1))) (by
      have cn : bnd (n : Int) = true := bnd_nat (show n ≤ 1000 by omega)
      obtain ⟨k, hk⟩ : ∃ k : Int, (i : Int) + 1 = k := ⟨_, rfl⟩
      rw [hk] at c e1 ⊢
      simp [hk, c, cn, e1]) hl fun z hz => by
    simp [small]
  rw [key]
  have e : (rangeD ((i : Int) + 1) 1 (n - (i + 1))).map (fun z => PyData.tuple [.int i, z]) = (rowPairs n i).map barD := by
    unfold rangeD rowPairs barD
    rw [List.map_map, List.map_map]
    refine List.map_congr_left fun k hk => ?_
    simp
  rw [e]
theorem pairsTo_len {n m : Nat} (hm : m ≤ n) : (pairsTo n m).length ≤ n * m := by
  induction m with
  | zero => simp [pairsTo]
  | succ m ih =>
    have := ih (by omega)
    rw [pairsTo_succ, List.length_append]
    simp only [rowPairs, List.length_map, List.length_range]
    rw [Nat.mul_succ]
    omega
theorem pairsL_sp (en : En) : PairsLSp (fnΦ 1 3 (evSs en bPairsL)) := by
  intro n hn
  obtain ⟨ρ', e, y2, q⟩ := for_ix (en := en) (x := xPairsL2) rfl (ρ := [some (.fz (.int n)), some (.ls []), none, none]) (ρ0 := [some (.fz (.int n)), some (.ls []), none, none]) (ds := rangeD 0 1 n) (by simp [bnd_nat (show n ≤ 1000 by omega)])
    (fun j ρ => ∃ y2, ρ = [some (.fz (.int n)), some (.ls (((pairsTo n j).map barD).map .fz)), y2, none]) ⟨none, rfl⟩ fun j d hd ρ ⟨y2, hρ⟩ => by
      subst hρ
      obtain ⟨hjn, rfl⟩ := get_rangeD hd
      have g := pairsL0_ok (en := en) (x1 := some (.ls (((pairsTo n j).map barD).map .fz))) hn hjn
      have lb : ((pairsTo n j).map barD).length + ((rowPairs n j).map barD).length ≤ 1000000 := by
        have h1 := pairsTo_len (n := n) (m := j) (by omega)
        have h2 : n * j ≤ 6 * 6 := Nat.mul_le_mul hn (by omega)
        simp only [rowPairs, List.length_map, List.length_range]
        omega
      rw [pairsTo_succ, List.map_append]
      generalize (pairsTo n j).map barD = zs at g lb ⊢
      generalize (rowPairs n j).map barD = ws at g lb ⊢
      simp [xPairsL1, g, lb, small]
  rw [rangeD_len] at q
  have q' : ρ' = [some (.fz (.int n)), some (.ls (((pairsOf n).map barD).map .fz)), y2, none] := q
  rw [q'] at e
  simp [fnΦ, bPairsL, small, e]
end MP
namespace MP
open PySem L2
def inCls : Stmt → Nat → Stmt
  | .ClassDef _ _ _ body _ _ _ _ _ _ _, j => body.getD j (.Pass ⟨0, 0, 0, 0⟩)
  | s, _ => s
@[simp] theorem fzL_fz (ds : List PyData) : fzL (ds.map .fz) = some ds := by
  induction ds with
  | nil => rfl
  | cons d ds ih => simp [ih]
end MP
namespace K02
open PySem L2 MP
def top (i : Nat) : Stmt := PySem.Challenge.pw_stayfast_k02_bars_more_and_less.main.body.getD i (.Pass ⟨0, 0, 0, 0⟩)
def fr : List Str := ["bool", "int", "isinstance", "len", "list", "max", "min", "range", "sorted", "tuple"]
def frX : List Str := ["lamX()", "bool", "int", "isinstance", "len", "list", "max", "min", "range", "sorted", "tuple"]
def cs : List (Str × PyData) := []
def cl : List Nat := []
abbrev s0 : Stmt := top 29
def n0 : List Str := ["script", "k", "cell"]
def b0 : Iss := bDraws
def t0 : FT := ⟨"_law_draws", ["script", "k"], [], none⟩
noncomputable def f0 : Φ := fnΦ 2 1 (evSs (enOf [] (csv cs)) b0)
theorem c0 : chkSs ⟨n0, defScope s0, fun _ => true, fr, csx cs, [], cl, [], []⟩ 2 b0 (defBody s0) = true := by decide +kernel
theorem w0 : wfSs cl 2 b0 = true := by decide +kernel
theorem sc0 : FnScope n0 ["script", "k"] (defScope s0) := ⟨rfl, rfl, rfl, by decide +kernel, rfl, by decide +kernel, by decide +kernel⟩
def d0 : He.DefD := ⟨("_law_draws", none), "_law_draws", "_law_draws", defArgs s0, defBody s0, defScope s0, [], []⟩
abbrev s1 : Stmt := top 30
def n1 : List Str := ["draws", "many", "found", "wide"]
def b1 : Iss := bDraw
def t1 : FT := ⟨"_law_draw", ["draws", "many"], [], none⟩
noncomputable def f1 : Φ := fnΦ 2 2 (evSs (enOf [f0] (csv cs)) b1)
theorem c1 : chkSs ⟨n1, defScope s1, fun _ => true, fr, csx cs, [t0], cl, [], []⟩ 2 b1 (defBody s1) = true := by decide +kernel
theorem w1 : wfSs cl 2 b1 = true := by decide +kernel
theorem sc1 : FnScope n1 ["draws", "many"] (defScope s1) := ⟨rfl, rfl, rfl, by decide +kernel, rfl, by decide +kernel, by decide +kernel⟩
def d1 : He.DefD := ⟨("_law_draw", none), "_law_draw", "_law_draw", defArgs s1, defBody s1, defScope s1, [], []⟩
abbrev s2 : Stmt := top 21
def n2 : List Str := ["thing"]
def b2 : Iss := bIsWhole
def t2 : FT := ⟨"is_whole", ["thing"], [], none⟩
noncomputable def f2 : Φ := fnΦ 1 0 (evSs (enOf [f0, f1] (csv cs)) b2)
theorem c2 : chkSs ⟨n2, defScope s2, fun _ => true, fr, csx cs, [t0, t1], cl, [], []⟩ 1 b2 (defBody s2) = true := by decide +kernel
theorem w2 : wfSs cl 1 b2 = true := by decide +kernel
theorem sc2 : FnScope n2 ["thing"] (defScope s2) := ⟨rfl, rfl, rfl, by decide +kernel, rfl, by decide +kernel, by decide +kernel⟩
def d2 : He.DefD := ⟨("is_whole", none), "is_whole", "is_whole", defArgs s2, defBody s2, defScope s2, [], []⟩
abbrev s3 : Stmt := top 22
def n3 : List Str := ["thing", "low", "high"]
def b3 : Iss := bIsBetween 2
def t3 : FT := ⟨"is_between", ["thing", "low", "high"], [], none⟩
noncomputable def f3 : Φ := fnΦ 3 0 (evSs (enOf [f0, f1, f2] (csv cs)) b3)
theorem c3 : chkSs ⟨n3, defScope s3, fun _ => true, fr, csx cs, [t0, t1, t2], cl, [], []⟩ 3 b3 (defBody s3) = true := by decide +kernel
theorem w3 : wfSs cl 3 b3 = true := by decide +kernel
theorem sc3 : FnScope n3 ["thing", "low", "high"] (defScope s3) := ⟨rfl, rfl, rfl, by decide +kernel, rfl, by decide +kernel, by decide +kernel⟩
def d3 : He.DefD := ⟨("is_between", none), "is_between", "is_between", defArgs s3, defBody s3, defScope s3, [], []⟩
abbrev s4 : Stmt := top 23
def n4 : List Str := ["many", "thing"]
def b4 : Iss := bIsBar 3
def t4 : FT := ⟨"is_bar", ["many", "thing"], [], none⟩
noncomputable def f4 : Φ := fnΦ 2 0 (evSs (enOf [f0, f1, f2, f3] (csv cs)) b4)
theorem c4 : chkSs ⟨n4, defScope s4, fun _ => true, fr, csx cs, [t0, t1, t2, t3], cl, [], []⟩ 2 b4 (defBody s4) = true := by decide +kernel
theorem w4 : wfSs cl 2 b4 = true := by decide +kernel
theorem sc4 : FnScope n4 ["many", "thing"] (defScope s4) := ⟨rfl, rfl, rfl, by decide +kernel, rfl, by decide +kernel, by decide +kernel⟩
def d4 : He.DefD := ⟨("is_bar", none), "is_bar", "is_bar", defArgs s4, defBody s4, defScope s4, [], []⟩
abbrev s5 : Stmt := top 24
def n5 : List Str := ["frame", "joint", "one", "other"]
def b5x0 : Ie := (.lc false [2, 3] .seq (.ex (.op .ix (.nm 0 (.ex (.c (.int 1)) .nil))) .nil) (.tp (.cons (.nm 2) (.cons (.nm 3) .nil))) (.so (.b (.op (.cmp .In) (.nm 1 (.ex (.op .tup (.nm 2 (.nm 3 .nil))) .nil))))) (.op (.bin .Sub) (.ex (.op (.bin .Add) (.nm 2 (.nm 3 .nil))) (.nm 1 .nil))))
def b5 : Iss := (.cons (.ret (.op (.blt .sorted) (.ex b5x0 .nil)))
  .nil)
def t5 : FT := ⟨"joined", ["frame", "joint"], [], none⟩
noncomputable def f5 : Φ := fnΦ 2 2 (evSs (enOf [f0, f1, f2, f3, f4] (csv cs)) b5)
theorem c5 : chkSs ⟨n5, defScope s5, fun _ => true, fr, csx cs, [t0, t1, t2, t3, t4], cl, [], []⟩ 2 b5 (defBody s5) = true := by decide +kernel
theorem w5 : wfSs cl 2 b5 = true := by decide +kernel
theorem sc5 : FnScope n5 ["frame", "joint"] (defScope s5) := ⟨rfl, rfl, rfl, by decide +kernel, rfl, by decide +kernel, by decide +kernel⟩
def d5 : He.DefD := ⟨("joined", none), "joined", "joined", defArgs s5, defBody s5, defScope s5, [], []⟩
abbrev s6 : Stmt := top 25
def n6 : List Str := ["one", "other"]
def b6 : Iss := (.cons (.ret (.op .tup (.ex (.op (.blt .min) (.nm 0 (.nm 1 .nil))) (.ex (.op (.blt .max) (.nm 0 (.nm 1 .nil))) .nil))))
  .nil)
def t6 : FT := ⟨"pair_of", ["one", "other"], [], none⟩
noncomputable def f6 : Φ := fnΦ 2 0 (evSs (enOf [f0, f1, f2, f3, f4, f5] (csv cs)) b6)
theorem c6 : chkSs ⟨n6, defScope s6, fun _ => true, fr, csx cs, [t0, t1, t2, t3, t4, t5], cl, [], []⟩ 2 b6 (defBody s6) = true := by decide +kernel
theorem w6 : wfSs cl 2 b6 = true := by decide +kernel
theorem sc6 : FnScope n6 ["one", "other"] (defScope s6) := ⟨rfl, rfl, rfl, by decide +kernel, rfl, by decide +kernel, by decide +kernel⟩
def d6 : He.DefD := ⟨("pair_of", none), "pair_of", "pair_of", defArgs s6, defBody s6, defScope s6, [], []⟩
abbrev s7 : Stmt := top 31
def n7 : List Str := ["draws", "many", "most", "pairs", "one", "share", "other", "pair"]
def b7 : Iss := bSomePairs
def t7 : FT := ⟨"_law_some_pairs", ["draws", "many", "most"], [], none⟩
noncomputable def f7 : Φ := fnΦ 3 5 (evSs (enOf [f0, f1, f2, f3, f4, f5, f6] (csv cs)) b7)
theorem c7 : chkSs ⟨n7, defScope s7, fun _ => true, fr, csx cs, [t0, t1, t2, t3, t4, t5, t6], cl, [], []⟩ 3 b7 (defBody s7) = true := by decide +kernel
theorem w7 : wfSs cl 3 b7 = true := by decide +kernel
theorem sc7 : FnScope n7 ["draws", "many", "most"] (defScope s7) := ⟨rfl, rfl, rfl, by decide +kernel, rfl, by decide +kernel, by decide +kernel⟩
def d7 : He.DefD := ⟨("_law_some_pairs", none), "_law_some_pairs", "_law_some_pairs", defArgs s7, defBody s7, defScope s7, [], []⟩
abbrev s8 : Stmt := top 32
def n8 : List Str := ["draws", "many"]
def b8 : Iss := bFrame 7
def t8 : FT := ⟨"_law_frame", ["draws"], [], none⟩
noncomputable def f8 : Φ := fnΦ 1 1 (evSs (enOf [f0, f1, f2, f3, f4, f5, f6, f7] (csv cs)) b8)
theorem c8 : chkSs ⟨n8, defScope s8, fun _ => true, fr, csx cs, [t0, t1, t2, t3, t4, t5, t6, t7], cl, [], []⟩ 1 b8 (defBody s8) = true := by decide +kernel
theorem w8 : wfSs cl 1 b8 = true := by decide +kernel
theorem sc8 : FnScope n8 ["draws"] (defScope s8) := ⟨rfl, rfl, rfl, by decide +kernel, rfl, by decide +kernel, by decide +kernel⟩
def d8 : He.DefD := ⟨("_law_frame", none), "_law_frame", "_law_frame", defArgs s8, defBody s8, defScope s8, [], []⟩
abbrev s9 : Stmt := top 33
def n9 : List Str := ["many", "found", "one", "other"]
def b9 : Iss := bPairsL
def t9 : FT := ⟨"_law_pairs", ["many"], [], none⟩
noncomputable def f9 : Φ := fnΦ 1 3 (evSs (enOf [f0, f1, f2, f3, f4, f5, f6, f7, f8] (csv cs)) b9)
theorem c9 : chkSs ⟨n9, defScope s9, fun _ => true, fr, csx cs, [t0, t1, t2, t3, t4, t5, t6, t7, t8], cl, [], []⟩ 1 b9 (defBody s9) = true := by decide +kernel
theorem w9 : wfSs cl 1 b9 = true := by decide +kernel
theorem sc9 : FnScope n9 ["many"] (defScope s9) := ⟨rfl, rfl, rfl, by decide +kernel, rfl, by decide +kernel, by decide +kernel⟩
def d9 : He.DefD := ⟨("_law_pairs", none), "_law_pairs", "_law_pairs", defArgs s9, defBody s9, defScope s9, [], []⟩
def exs : List (Str × List Str) := [("NoBar", ["one", "other"])]
abbrev sy0 : Stmt := top 26
def ny0 : List Str := ["frame", "one", "other", "pair", "bar"]
def by0x0 : Ie := (.lc false [4] .seq (.ex (.op .ix (.nm 0 (.ex (.c (.int 1)) .nil))) .nil) (.nm 4) (.so (.b (.op (.cmp .NotEq) (.nm 4 (.nm 3 .nil))))) (.v 4))
def by0 : Xss := (.cons (.p (.set 3 (.op (.call 6) (.nm 1 (.nm 2 .nil)))))
  (.cons (.ite (.b (.op (.cmp .NotIn) (.nm 3 (.ex (.op .ix (.nm 0 (.ex (.c (.int 1)) .nil))) .nil)))) (.cons (.rse "NoBar" ["one", "other"] (.nm 1 (.nm 2 .nil)))
  .nil) .nil)
  (.cons (.p (.ret (.op .tup (.ex (.op .ix (.nm 0 (.ex (.c (.int 0)) .nil))) (.ex (.op (.blt .tuple) (.ex by0x0 .nil)) .nil)))))
  .nil)))
def ty0 : FT := ⟨"without", ["frame", "one", "other"], [], none⟩
noncomputable def fy0 : ΦX := fnΦX 3 2 (evXs (enOf [f0, f1, f2, f3, f4, f5, f6, f7, f8, f9] (csv cs)) by0)
theorem cy0 : chkXs ⟨ny0, defScope sy0, fun _ => true, fr, csx cs, [t0, t1, t2, t3, t4, t5, t6, t7, t8, t9], cl, [], []⟩ exs 3 by0 (defBody sy0) = true := by decide +kernel
theorem wy0 : wfXs cl 3 by0 = true := by decide +kernel
theorem scy0 : FnScope ny0 ["frame", "one", "other"] (defScope sy0) := ⟨rfl, rfl, rfl, by decide +kernel, rfl, by decide +kernel, by decide +kernel⟩
def dy0 : He.DefD := ⟨("without", none), "without", "without", defArgs sy0, defBody sy0, defScope sy0, [], []⟩
abbrev sy1 : Stmt := top 27
def ny1 : List Str := ["frame", "one", "other", "pair"]
def by1 : Xss := (.cons (.p (.set 3 (.op (.call 6) (.nm 1 (.nm 2 .nil)))))
  (.cons (.ite (.bo .Or (.cons (.not (.v (.op (.call 4) (.ex (.op .ix (.nm 0 (.ex (.c (.int 0)) .nil))) (.nm 3 .nil))))) (.one (.b (.op (.cmp .In) (.nm 3 (.ex (.op .ix (.nm 0 (.ex (.c (.int 1)) .nil))) .nil))))))) (.cons (.rse "NoBar" ["one", "other"] (.nm 1 (.nm 2 .nil)))
  .nil) .nil)
  (.cons (.p (.ret (.op .tup (.ex (.op .ix (.nm 0 (.ex (.c (.int 0)) .nil))) (.ex (.op (.blt .tuple) (.ex (.op (.blt .sorted) (.ex (.op (.bin .Add) (.ex (.op .ix (.nm 0 (.ex (.c (.int 1)) .nil))) (.ex (.op .tup (.nm 3 .nil)) .nil))) .nil)) .nil)) .nil)))))
  .nil)))
def ty1 : FT := ⟨"with_bar", ["frame", "one", "other"], [], none⟩
noncomputable def fy1 : ΦX := fnΦX 3 1 (evXs (enOf [f0, f1, f2, f3, f4, f5, f6, f7, f8, f9] (csv cs)) by1)
theorem cy1 : chkXs ⟨ny1, defScope sy1, fun _ => true, fr, csx cs, [t0, t1, t2, t3, t4, t5, t6, t7, t8, t9], cl, [], []⟩ exs 3 by1 (defBody sy1) = true := by decide +kernel
theorem wy1 : wfXs cl 3 by1 = true := by decide +kernel
theorem scy1 : FnScope ny1 ["frame", "one", "other"] (defScope sy1) := ⟨rfl, rfl, rfl, by decide +kernel, rfl, by decide +kernel, by decide +kernel⟩
def dy1 : He.DefD := ⟨("with_bar", none), "with_bar", "with_bar", defArgs sy1, defBody sy1, defScope sy1, [], []⟩
abbrev si0 : Stmt := inCls (top 13) 0
def di0 : He.DefD := ⟨("NoBar", some "__init__"), "__init__", "NoBar.__init__", defArgs si0, defBody si0, defScope si0, [], []⟩
theorem ie0 : MPH.initC (defBody si0) = some (("NowError" : Str), (["one", "other"] : List Str)) := by rfl
theorem is0 : MPH.iniS "NowError" ["one", "other"] (defScope si0) = true := by decide +kernel
theorem ic0 : FnScope ["self", "one", "other"] ["self", "one", "other"] (defScope si0) := ⟨rfl, rfl, rfl, by decide +kernel, rfl, by decide +kernel, by decide +kernel⟩
abbrev sk : Stmt := top 34
def dk : He.DefD := ⟨("_law_kind_of", none), "_law_kind_of", "_law_kind_of", defArgs sk, defBody sk, defScope sk, [], []⟩
abbrev sr : Stmt := top 35
def dr : He.DefD := ⟨("_law_refusal", none), "_law_refusal", "_law_refusal", defArgs sr, defBody sr, defScope sr, [], []⟩
abbrev st : Stmt := top 36
def dt : He.DefD := ⟨("_law_told", none), "_law_told", "_law_told", defArgs st, defBody st, defScope st, [], []⟩
def kcs : List Str := ["FormError", "Full", "Held", "NoBar", "NoDeed", "NoJoint", "NoKind", "NoLimit", "NoLine", "NoLoad", "NoName", "NoSpot", "NotHeld", "NothingLeft", "NoText", "NowError", "NoWay", "Twice", "ValueError"]
def kzs : List Str := ["FormError", "Full", "Held", "NoBar", "NoDeed", "NoJoint", "NoKind", "NoLimit", "NoLine", "NoLoad", "NoName", "NoSpot", "NotHeld", "NothingLeft", "NoText", "NowError", "NoWay", "Twice", "+"]
abbrev ksc : Scope := match MPH.kindC (defBody sk) with
  | some q => q.2.2
  | none => defScope sk
theorem ke : MPH.kindC (defBody sk) = some (kcs, kzs, ksc) := by rfl
theorem ks : MPH.kindS kcs (defScope sk) ksc = true := by decide +kernel
theorem kb : BlkOk ["e", "some", "titles", "title", "one"] (defScope sk) ksc [("title", 3), ("one", 4)] := blkOk_by (by decide +kernel)
theorem kS : FnScope ["e", "some", "titles", "title", "one"] ["e"] (defScope sk) := ⟨rfl, rfl, rfl, by decide +kernel, rfl, by decide +kernel, by decide +kernel⟩
def rT : MPH.RefT := ⟨"NoBar", ["one", "other"], "Full", ["many"], ["NoJoint", "Twice", "Held", "NotHeld"], ["name"], []⟩
theorem re : MPH.refC (defBody sr) = some rT := by rfl
theorem rs : MPH.refS rT (defScope sr) = true := by decide +kernel
theorem rS : FnScope ["e"] ["e"] (defScope sr) := ⟨rfl, rfl, rfl, by decide +kernel, rfl, by decide +kernel, by decide +kernel⟩
theorem tP : toldP (defBody st) = true := by decide +kernel
theorem tS : toldS (defScope st) = true := by decide +kernel
theorem tN : FnScope ["deed", "found", "e"] ["deed"] (defScope st) := ⟨rfl, rfl, rfl, by decide +kernel, rfl, by decide +kernel, by decide +kernel⟩
def xes : List MPH.XrE := [⟨"NoBar", [false, false, false, true, false, false, false, false, false, false, false, false, false, false, false, true, false, false, true], true, false, false, "NoBar NowError +", ["one", "other"]⟩]
theorem xp : (xes.all fun e => MPH.xrP kzs rT e) = true := by decide +kernel
def exX (K : PySem.W.Frag) : Bool := (xes.all fun e => MPH.xrB K kcs rT e) && MPH.iniB K "NoBar" "NowError" ["one", "other"]
abbrev s10 : Stmt := top 37
def n10 : List Str := ["script", "k", "draws", "frame", "many", "joint", "some", "due", "one", "other", "pair", "bad", "found", "left", "good", "a", "b", "bar"]
def b10x0 : Ie := (.lc false [15, 16] .seq (.ex (.op (.call 9) (.nm 4 .nil)) .nil) (.tp (.cons (.nm 15) (.cons (.nm 16) .nil))) .no (.op .tup (.nm 16 (.nm 15 .nil))))
def b10x1 : Ie := (.lc false [17] .seq (.ex (.op .ix (.nm 3 (.ex (.c (.int 1)) .nil))) .nil) (.nm 17) (.so (.b (.op (.cmp .NotEq) (.nm 17 (.nm 10 .nil))))) (.v 17))
def b10x2 : Iss := (.cons (.set 10 (.op .tup (.ex (.op (.blt .min) (.nm 8 (.nm 9 .nil))) (.ex (.op (.blt .max) (.nm 8 (.nm 9 .nil))) .nil))))
  (.cons (.set 11 (.op .tup (.ex (.c (.str "NoBar NowError +")) (.nm 8 (.nm 9 .nil)))))
  (.cons (.set 12 (.toldF 0 (.nm 3 (.nm 8 (.nm 9 .nil)))))
  (.cons (.set 13 (.op (.blt .tuple) (.ex b10x1 .nil)))
  (.cons (.ite (.b (.op (.cmp .NotEq) (.nm 12 (.ex (.ife (.b (.op (.cmp .In) (.nm 10 (.ex (.op .ix (.nm 3 (.ex (.c (.int 1)) .nil))) .nil)))) (.op .tup (.ex (.c (.str "told")) (.ex (.op .tup (.nm 4 (.nm 13 .nil))) .nil))) (.v 11)) .nil)))) (.cons (.ret (.c (.bool false)))
  .nil) .nil)
  (.cons (.set 14 (.bv .And (.cons (.chain3 .LtE .Lt .Lt (.c (.int 0)) (.op .ix (.nm 10 (.ex (.c (.int 0)) .nil))) (.op .ix (.nm 10 (.ex (.c (.int 1)) .nil))) (.v 4)) (.one (.op (.cmp .NotIn) (.nm 10 (.ex (.op .ix (.nm 3 (.ex (.c (.int 1)) .nil))) .nil)))))))
  (.cons (.set 12 (.toldF 1 (.nm 3 (.nm 8 (.nm 9 .nil)))))
  (.cons (.ite (.b (.op (.cmp .NotEq) (.nm 12 (.ex (.ife (.v (.v 14)) (.op .tup (.ex (.c (.str "told")) (.ex (.op .tup (.nm 4 (.ex (.op (.blt .tuple) (.ex (.op (.blt .sorted) (.ex (.op (.bin .Add) (.ex (.op .ix (.nm 3 (.ex (.c (.int 1)) .nil))) (.ex (.op .tup (.nm 10 .nil)) .nil))) .nil)) .nil)) .nil))) .nil))) (.v 11)) .nil)))) (.cons (.ret (.c (.bool false)))
  .nil) .nil)
  .nil))))))))
def b10x3 : Is := (.for_ .seq (.ex (.op (.bin .Add) (.nm 6 (.ex b10x0 .nil))) .nil) (.tp (.cons (.nm 8) (.cons (.nm 9) .nil))) b10x2)
def b10x4 : Ie := (.lc false [8] .range1 (.nm 4 .nil) (.nm 8) .no (.op .tup (.ex (.v 8) (.ex (.v 8) .nil))))
def b10x5 : Ie := (.lc false [8] .range1 (.nm 4 .nil) (.nm 8) (.so (.b (.op (.cmp .In) (.ex (.op .tup (.ex (.op (.blt .min) (.nm 8 (.nm 5 .nil))) (.ex (.op (.blt .max) (.nm 8 (.nm 5 .nil))) .nil))) (.ex (.op .ix (.nm 3 (.ex (.c (.int 1)) .nil))) .nil))))) (.v 8))
def b10x6 : Iss := (.cons (.set 7 b10x5)
  (.cons (.ite (.bo .Or (.cons (.b (.op (.cmp .NotEq) (.ex (.op (.call 5) (.nm 3 (.nm 5 .nil))) (.nm 7 .nil)))) (.one (.not (.v (.op (.isi .list) (.ex (.op (.call 5) (.nm 3 (.nm 5 .nil))) .nil))))))) (.cons (.ret (.c (.bool false)))
  .nil) .nil)
  .nil))
def b10x7 : Is := (.for_ .range1 (.nm 4 .nil) (.nm 5) b10x6)
def b10x8 : Iss := (.cons (.set 2 (.op (.call 0) (.nm 0 (.nm 1 .nil))))
  (.cons (.set 3 (.op (.call 8) (.nm 2 .nil)))
  (.cons (.set 4 (.op .ix (.nm 3 (.ex (.c (.int 0)) .nil))))
  (.cons b10x7
  (.cons (.set 6 (.op (.bin .Add) (.ex (.op (.bin .Add) (.ex (.op (.call 9) (.nm 4 .nil)) (.ex b10x4 .nil))) (.ex (.op .lst (.ex (.op .tup (.ex (.c (.int 0)) (.nm 4 .nil))) (.ex (.op .tup (.ex (.op .neg (.ex (.c (.int 1)) .nil)) (.ex (.c (.int 0)) .nil))) (.ex (.op .tup (.ex (.op (.bin .Pow) (.ex (.c (.int 10)) (.ex (.c (.int 30)) .nil))) (.ex (.c (.int 0)) .nil))) (.ex (.op .tup (.ex (.op .neg (.ex (.c (.int 2)) .nil)) (.ex (.op .neg (.ex (.c (.int 1)) .nil)) .nil))) .nil))))) .nil))))
  (.cons b10x3
  .nil))))))
def b10x9 : Is := (.for_ .range1 (.ex (.op (.blt .max) (.ex (.c (.int 1)) (.ex (.op (.blt .min) (.ex (.c (.int 20)) (.ex (.op (.blt .len) (.nm 0 .nil)) .nil))) .nil))) .nil) (.nm 1) b10x8)
def b10 : Iss := (.cons b10x9
  (.cons (.ret (.op (.cmp .Eq) (.ex (.op (.call 5) (.ex (.op .tup (.ex (.c (.int 1)) (.ex (.op .tup .nil) .nil))) (.ex (.c (.int 0)) .nil))) (.ex (.op .lst .nil) .nil))))
  .nil))
def t10 : FT := ⟨"law", ["script"], [], none⟩
noncomputable def f10 : Φ := fnΦ 1 17 (evSs (enOf [f0, f1, f2, f3, f4, f5, f6, f7, f8, f9] (csv cs) [] [fy0, fy1] (rtOf xes)) b10)
theorem c10 : chkSs ⟨n10, defScope s10, fun _ => true, frX, csx cs, [t0, t1, t2, t3, t4, t5, t6, t7, t8, t9], cl, [], [ty0, ty1]⟩ 1 b10 (defBody s10) = true := by decide +kernel
theorem w10 : wfSs cl 1 b10 = true := by decide +kernel
theorem sc10 : FnScope n10 ["script"] (defScope s10) := ⟨rfl, rfl, rfl, by decide +kernel, rfl, by decide +kernel, by decide +kernel⟩
def d10 : He.DefD := ⟨("law", none), "law", "law", defArgs s10, defBody s10, defScope s10, [], []⟩
def fn : List He.DefD := [d0, d1, d2, d3, d4, d5, d6, d7, d8, d9, d10, dy0, dy1, di0, dk, dr, dt]
def fa : List He.Fa := [.glo "_law_draws", .glo "_law_draw", .glo "is_whole", .glo "is_between", .glo "is_bar", .glo "joined", .glo "pair_of", .glo "_law_some_pairs", .glo "_law_frame", .glo "_law_pairs", .glo "law", .free "bool", .free "int", .free "isinstance", .free "lamX()", .free "len", .free "list", .free "max", .free "min", .free "range", .free "sorted", .free "tuple", .glo "without", .glo "with_bar", .glo "_law_kind_of", .glo "_law_refusal", .glo "_law_told", .glo "FormError", .glo "Full", .glo "Held", .glo "NoBar", .glo "NoDeed", .glo "NoJoint", .glo "NoKind", .glo "NoLimit", .glo "NoLine", .glo "NoLoad", .glo "NoName", .glo "NoSpot", .glo "NotHeld", .glo "NothingLeft", .glo "NoText", .glo "NowError", .glo "NoWay", .glo "Twice", .glo "RigError", .free "ValueError", .free "zip"]
abbrev R : PySem.W.OpenRow := PySem.W.OpenLaw.row PySem.Challenge.rw_stayfast_k02_bars_more_and_less
def ts : List He.Tab := []
def ex (K : PySem.W.Frag) : Bool := (exX K && true)
abbrev hk : PySem.W.Hook := MPH.hookY 4 fa fn ts [("law", none)] ex
def ob (s : PySem.W.SharedT) : He.AlX := MPH.obsY 4 fa fn ts [("law", none)] ex (HandSHeadRun.getT s)
theorem ob_eq (s : PySem.W.SharedT) : ob s = hk.obs s.abs := MPH.obsY_eq (HandSHeadRun.getT_eq s)
def loose : List Str := (["RigError", "FormError", "NowError", "NoName", "NoSpot", "NoLoad", "NoKind", "NoLimit", "NoWay", "NoDeed", "NoText", "NoLine", "NoBar", "NoJoint", "Twice", "Held", "NotHeld", "Full", "NothingLeft", "is_whole", "is_between", "is_bar", "joined", "pair_of", "without", "with_bar", "_law_draws", "_law_draw", "_law_some_pairs", "_law_frame"] : List Str) ++ (["_law_pairs", "_law_kind_of", "_law_refusal", "_law_told"] : List Str)
theorem run (w : World) : HandSHeadRun.RunEq R (PySem.W.view R.prog [37]) hk ob 20000 loose w := by
  intro os
  kernel_rfl
theorem facts {P : Program} {w : World} {K : PySem.W.Frag} {h : Heap} {mg : Str → Option Value} {f : Addr} (X : K.In h) (G : h.Ns mainGlobals mg) (hfa : mg ("law" : Str) = some (.ref f)) (cx : He.SaysX fa fn ts [("law", none)] ex w h K) :
    letI : LamT := ⟨[((He.cT K ("law", none)).2, lamQ "law" (defScope s10))]⟩
    ∃ fd : FuncData, (∀ (s : Shared) (v : Value), BindsTo s fd ⟨[v], []⟩ [("script", v)]) ∧ ∀ base : Heap, K.In base → base.Ns mainGlobals mg → LamX.TabB base mg (He.cT K ("law", none)).1 (He.cT K ("law", none)).2 → FnOk P w K mg base CX0 26 f fd ["script"] (spOf K f10) := by
  letI : LamT := ⟨[((He.cT K ("law", none)).2, lamQ "law" (defScope s10))]⟩
  have c := cx.t.d
  obtain ⟨x0, F0⟩ := c.def_ 0 (d := d0) rfl
  have g0 := He.glo_ok X G (c.fact 0 (f := .glo "_law_draws") rfl)
  obtain ⟨x1, F1⟩ := c.def_ 1 (d := d1) rfl
  have g1 := He.glo_ok X G (c.fact 1 (f := .glo "_law_draw") rfl)
  obtain ⟨x2, F2⟩ := c.def_ 2 (d := d2) rfl
  have g2 := He.glo_ok X G (c.fact 2 (f := .glo "is_whole") rfl)
  obtain ⟨x3, F3⟩ := c.def_ 3 (d := d3) rfl
  have g3 := He.glo_ok X G (c.fact 3 (f := .glo "is_between") rfl)
  obtain ⟨x4, F4⟩ := c.def_ 4 (d := d4) rfl
  have g4 := He.glo_ok X G (c.fact 4 (f := .glo "is_bar") rfl)
  obtain ⟨x5, F5⟩ := c.def_ 5 (d := d5) rfl
  have g5 := He.glo_ok X G (c.fact 5 (f := .glo "joined") rfl)
  obtain ⟨x6, F6⟩ := c.def_ 6 (d := d6) rfl
  have g6 := He.glo_ok X G (c.fact 6 (f := .glo "pair_of") rfl)
  obtain ⟨x7, F7⟩ := c.def_ 7 (d := d7) rfl
  have g7 := He.glo_ok X G (c.fact 7 (f := .glo "_law_some_pairs") rfl)
  obtain ⟨x8, F8⟩ := c.def_ 8 (d := d8) rfl
  have g8 := He.glo_ok X G (c.fact 8 (f := .glo "_law_frame") rfl)
  obtain ⟨x9, F9⟩ := c.def_ 9 (d := d9) rfl
  have g9 := He.glo_ok X G (c.fact 9 (f := .glo "_law_pairs") rfl)
  obtain ⟨x10, F10⟩ := c.def_ 10 (d := d10) rfl
  obtain ⟨xy0, Fy0⟩ := c.def_ 11 (d := dy0) rfl
  have gy0 := He.glo_ok X G (c.fact 22 (f := .glo "without") rfl)
  obtain ⟨xy1, Fy1⟩ := c.def_ 12 (d := dy1) rfl
  have gy1 := He.glo_ok X G (c.fact 23 (f := .glo "with_bar") rfl)
  obtain ⟨xi0, Fi0⟩ := c.def_ 13 (d := di0) rfl
  obtain ⟨xk, Fk⟩ := c.def_ 14 (d := dk) rfl
  have gk := He.glo_ok X G (c.fact 24 (f := .glo "_law_kind_of") rfl)
  obtain ⟨xr, Fr⟩ := c.def_ 15 (d := dr) rfl
  have gr := He.glo_ok X G (c.fact 25 (f := .glo "_law_refusal") rfl)
  obtain ⟨xt, Ft⟩ := c.def_ 16 (d := dt) rfl
  have gt := He.glo_ok X G (c.fact 26 (f := .glo "_law_told") rfl)
  have e := hfa.symm.trans (He.glo_ok X G (c.fact 10 (f := .glo "law") rfl))
  cases e
  have b := FunD.bindsA (ps := ["script"]) F10 fun _ _ _ _ _ _ us hl => match us, hl with | [_], _ => rfl
  have hfr : ∀ y ∈ fr, mg y = none := by
    intro y hy
    simp only [fr, List.mem_cons, List.not_mem_nil, or_false] at hy
    rcases hy with rfl | rfl | rfl | rfl | rfl | rfl | rfl | rfl | rfl | rfl
    · exact He.free_ok X G (c.fact 11 (f := .free "bool") rfl)
    · exact He.free_ok X G (c.fact 12 (f := .free "int") rfl)
    · exact He.free_ok X G (c.fact 13 (f := .free "isinstance") rfl)
    · exact He.free_ok X G (c.fact 15 (f := .free "len") rfl)
    · exact He.free_ok X G (c.fact 16 (f := .free "list") rfl)
    · exact He.free_ok X G (c.fact 17 (f := .free "max") rfl)
    · exact He.free_ok X G (c.fact 18 (f := .free "min") rfl)
    · exact He.free_ok X G (c.fact 19 (f := .free "range") rfl)
    · exact He.free_ok X G (c.fact 20 (f := .free "sorted") rfl)
    · exact He.free_ok X G (c.fact 21 (f := .free "tuple") rfl)
  have hfrX : ∀ y ∈ frX, mg y = none := fun y hy => by
    rcases List.mem_cons.mp hy with rfl | hy
    · exact He.free_ok X G (c.fact 14 (f := .free "lamX()") rfl)
    · exact hfr y hy
  have hcs : CsOk K mg cs := by
    have hex : ex K = true := cx.more
    simp only [ex, Bool.and_eq_true] at hex
    exact trivial
  have hds : DsOk K w mg [] := trivial
  have hk : CsK K cl := by
    intro cc hc
    exact absurd hc (by simp [cl])
  refine ⟨x10, fun s v => b s [v] rfl, fun base _ _ TB => ?_⟩
  have T0 : Tab P w K mg base 0 [] [] := tab_nil
  have kb0 : ∀ p ∈ t0.kws, KB K x0 t0.ps p.1 p.2 := fun p hp => absurd hp (by simp [t0])
  have T1 : Tab P w K mg base 2 [t0] [f0] := tab_cons (ft := t0) (φ := f0) T0 (at_def g0 F0.kp) (F0.bindsN fun _ _ _ _ _ _ us hl => match us, hl with | [_, _], _ => rfl) kb0 (def_ok F0 sc0 T0 hcs hfr hk hds c0 w0)
  have kb1 : ∀ p ∈ t1.kws, KB K x1 t1.ps p.1 p.2 := fun p hp => absurd hp (by simp [t1])
  have T2 : Tab P w K mg base 4 [t0, t1] [f0, f1] := tab_cons (ft := t1) (φ := f1) T1 (at_def g1 F1.kp) (F1.bindsN fun _ _ _ _ _ _ us hl => match us, hl with | [_, _], _ => rfl) kb1 (def_ok F1 sc1 T1 hcs hfr hk hds c1 w1)
  have kb2 : ∀ p ∈ t2.kws, KB K x2 t2.ps p.1 p.2 := fun p hp => absurd hp (by simp [t2])
  have T3 : Tab P w K mg base 6 [t0, t1, t2] [f0, f1, f2] := tab_cons (ft := t2) (φ := f2) T2 (at_def g2 F2.kp) (F2.bindsN fun _ _ _ _ _ _ us hl => match us, hl with | [_], _ => rfl) kb2 (def_ok F2 sc2 T2 hcs hfr hk hds c2 w2)
  have kb3 : ∀ p ∈ t3.kws, KB K x3 t3.ps p.1 p.2 := fun p hp => absurd hp (by simp [t3])
  have T4 : Tab P w K mg base 8 [t0, t1, t2, t3] [f0, f1, f2, f3] := tab_cons (ft := t3) (φ := f3) T3 (at_def g3 F3.kp) (F3.bindsN fun _ _ _ _ _ _ us hl => match us, hl with | [_, _, _], _ => rfl) kb3 (def_ok F3 sc3 T3 hcs hfr hk hds c3 w3)
  have kb4 : ∀ p ∈ t4.kws, KB K x4 t4.ps p.1 p.2 := fun p hp => absurd hp (by simp [t4])
  have T5 : Tab P w K mg base 10 [t0, t1, t2, t3, t4] [f0, f1, f2, f3, f4] := tab_cons (ft := t4) (φ := f4) T4 (at_def g4 F4.kp) (F4.bindsN fun _ _ _ _ _ _ us hl => match us, hl with | [_, _], _ => rfl) kb4 (def_ok F4 sc4 T4 hcs hfr hk hds c4 w4)
  have kb5 : ∀ p ∈ t5.kws, KB K x5 t5.ps p.1 p.2 := fun p hp => absurd hp (by simp [t5])
  have T6 : Tab P w K mg base 12 [t0, t1, t2, t3, t4, t5] [f0, f1, f2, f3, f4, f5] := tab_cons (ft := t5) (φ := f5) T5 (at_def g5 F5.kp) (F5.bindsN fun _ _ _ _ _ _ us hl => match us, hl with | [_, _], _ => rfl) kb5 (def_ok F5 sc5 T5 hcs hfr hk hds c5 w5)
  have kb6 : ∀ p ∈ t6.kws, KB K x6 t6.ps p.1 p.2 := fun p hp => absurd hp (by simp [t6])
  have T7 : Tab P w K mg base 14 [t0, t1, t2, t3, t4, t5, t6] [f0, f1, f2, f3, f4, f5, f6] := tab_cons (ft := t6) (φ := f6) T6 (at_def g6 F6.kp) (F6.bindsN fun _ _ _ _ _ _ us hl => match us, hl with | [_, _], _ => rfl) kb6 (def_ok F6 sc6 T6 hcs hfr hk hds c6 w6)
  have kb7 : ∀ p ∈ t7.kws, KB K x7 t7.ps p.1 p.2 := fun p hp => absurd hp (by simp [t7])
  have T8 : Tab P w K mg base 16 [t0, t1, t2, t3, t4, t5, t6, t7] [f0, f1, f2, f3, f4, f5, f6, f7] := tab_cons (ft := t7) (φ := f7) T7 (at_def g7 F7.kp) (F7.bindsN fun _ _ _ _ _ _ us hl => match us, hl with | [_, _, _], _ => rfl) kb7 (def_ok F7 sc7 T7 hcs hfr hk hds c7 w7)
  have kb8 : ∀ p ∈ t8.kws, KB K x8 t8.ps p.1 p.2 := fun p hp => absurd hp (by simp [t8])
  have T9 : Tab P w K mg base 18 [t0, t1, t2, t3, t4, t5, t6, t7, t8] [f0, f1, f2, f3, f4, f5, f6, f7, f8] := tab_cons (ft := t8) (φ := f8) T8 (at_def g8 F8.kp) (F8.bindsN fun _ _ _ _ _ _ us hl => match us, hl with | [_], _ => rfl) kb8 (def_ok F8 sc8 T8 hcs hfr hk hds c8 w8)
  have kb9 : ∀ p ∈ t9.kws, KB K x9 t9.ps p.1 p.2 := fun p hp => absurd hp (by simp [t9])
  have T10 : Tab P w K mg base 20 [t0, t1, t2, t3, t4, t5, t6, t7, t8, t9] [f0, f1, f2, f3, f4, f5, f6, f7, f8, f9] := tab_cons (ft := t9) (φ := f9) T9 (at_def g9 F9.kp) (F9.bindsN fun _ _ _ _ _ _ us hl => match us, hl with | [_], _ => rfl) kb9 (def_ok F9 sc9 T9 hcs hfr hk hds c9 w9)
  have hx : exX K = true := by
    have hex : ex K = true := cx.more
    simp only [ex, Bool.and_eq_true] at hex
    exact hex.1
  simp only [exX, Bool.and_eq_true] at hx
  have ii0 := MPH.iniB_ok hx.2
  have TE : TabE P w K mg base exs := tabE_cons (tabE_nil) ii0 (MPH.ini_ok Fi0 ic0 ii0 (He.glo_ok X G (c.fact 42 (f := .glo "NowError") rfl)) ie0 is0) (Fi0.bindsN fun _ _ _ _ _ _ us hl => match us, hl with | [_, _, _], _ => rfl) (He.glo_ok X G (c.fact 30 (f := .glo "NoBar") rfl))
  have X0 : TabX P w K mg base 0 [] [] := tabX_nil
  have X1 : TabX P w K mg base 22 [ty0] [fy0] := tabX_cons (ft := ty0) (φ := fy0) X0 (by decide) (at_def gy0 Fy0.kp) (Fy0.bindsN fun _ _ _ _ _ _ us hl => match us, hl with | [_, _, _], _ => rfl) (def_okR Fy0 scy0 T10 TE (by decide) hcs hfr hk hds cy0 wy0)
  have X2 : TabX P w K mg base 22 [ty0, ty1] [fy0, fy1] := tabX_cons (ft := ty1) (φ := fy1) X1 (by decide) (at_def gy1 Fy1.kp) (Fy1.bindsN fun _ _ _ _ _ _ us hl => match us, hl with | [_, _, _], _ => rfl) (def_okR Fy1 scy1 T10 TE (by decide) hcs hfr hk hds cy1 wy1)
  have rok : RefOk K mg kcs kzs rT (rtOf xes) := by
    refine refOk_of hx.1 xp (He.free_ok X G (c.fact 46 (f := .free "ValueError") rfl)) (fun n hn hne => ?_) (by decide)
    simp only [kcs, rT, List.cons_append, List.nil_append, List.mem_cons, List.not_mem_nil, or_false] at hn
    rcases hn with rfl | rfl | rfl | rfl | rfl | rfl | rfl | rfl | rfl | rfl | rfl | rfl | rfl | rfl | rfl | rfl | rfl | rfl | rfl | rfl | rfl | rfl | rfl | rfl | rfl
    · exact He.glo_ok X G (c.fact 27 (f := .glo "FormError") rfl)
    · exact He.glo_ok X G (c.fact 28 (f := .glo "Full") rfl)
    · exact He.glo_ok X G (c.fact 29 (f := .glo "Held") rfl)
    · exact He.glo_ok X G (c.fact 30 (f := .glo "NoBar") rfl)
    · exact He.glo_ok X G (c.fact 31 (f := .glo "NoDeed") rfl)
    · exact He.glo_ok X G (c.fact 32 (f := .glo "NoJoint") rfl)
    · exact He.glo_ok X G (c.fact 33 (f := .glo "NoKind") rfl)
    · exact He.glo_ok X G (c.fact 34 (f := .glo "NoLimit") rfl)
    · exact He.glo_ok X G (c.fact 35 (f := .glo "NoLine") rfl)
    · exact He.glo_ok X G (c.fact 36 (f := .glo "NoLoad") rfl)
    · exact He.glo_ok X G (c.fact 37 (f := .glo "NoName") rfl)
    · exact He.glo_ok X G (c.fact 38 (f := .glo "NoSpot") rfl)
    · exact He.glo_ok X G (c.fact 39 (f := .glo "NotHeld") rfl)
    · exact He.glo_ok X G (c.fact 40 (f := .glo "NothingLeft") rfl)
    · exact He.glo_ok X G (c.fact 41 (f := .glo "NoText") rfl)
    · exact He.glo_ok X G (c.fact 42 (f := .glo "NowError") rfl)
    · exact He.glo_ok X G (c.fact 43 (f := .glo "NoWay") rfl)
    · exact He.glo_ok X G (c.fact 44 (f := .glo "Twice") rfl)
    · exact absurd rfl hne
    · exact He.glo_ok X G (c.fact 30 (f := .glo "NoBar") rfl)
    · exact He.glo_ok X G (c.fact 28 (f := .glo "Full") rfl)
    · exact He.glo_ok X G (c.fact 32 (f := .glo "NoJoint") rfl)
    · exact He.glo_ok X G (c.fact 44 (f := .glo "Twice") rfl)
    · exact He.glo_ok X G (c.fact 29 (f := .glo "Held") rfl)
    · exact He.glo_ok X G (c.fact 39 (f := .glo "NotHeld") rfl)
  exact def_okLX (k := 22) (stT := st) (p := ("law", none)) F10 sc10 (T10.up (by decide)) X2 (by decide) hcs hfrX hk hds c10 w10 Ft gt Ft.kp (Ft.bindsN fun _ _ _ _ _ _ us hl => match us, hl with | [_], _ => rfl) tN rfl (.inl (by decide +kernel)) (gives_law (sk := sk) (sr := sr) (st := st) Fk Fr kS ke ks kb rS re rs (He.free_ok X G (c.fact 13 (f := .free "isinstance") rfl)) (He.free_ok X G (c.fact 47 (f := .free "zip") rfl)) gk gr Fk.kp Fr.kp (Fk.bindsN fun _ _ _ _ _ _ us hl => match us, hl with | [_], _ => rfl) (Fr.bindsN fun _ _ _ _ _ _ us hl => match us, hl with | [_], _ => rfl) (He.glo_ok X G (c.fact 45 (f := .glo "RigError") rfl)) rok tP tS) rfl TB (List.mem_singleton.mpr rfl) (fun q hq _ => by rw [List.mem_singleton.mp hq]; rfl)
theorem f0_sp : DrawsSp f0 := draws_sp _
theorem f1_sp : DrawSp f1 := draw_sp _
theorem f2_sp : IsWholeSp f2 := is_whole_sp _
theorem f3_sp : IsBetweenSp f3 := is_between_sp (en := enOf [f0, f1, f2] (csv cs)) (show IsWholeSp ((enOf [f0, f1, f2] (csv cs)).f 2) from @f2_sp)
theorem f4_sp : IsBarSp f4 := is_bar_sp (en := enOf [f0, f1, f2, f3] (csv cs)) (show IsBetweenSp ((enOf [f0, f1, f2, f3] (csv cs)).f 3) from @f3_sp)
theorem f7_sp : SomePairsSp f7 := some_pairs_sp (en := enOf [f0, f1, f2, f3, f4, f5, f6] (csv cs)) (show DrawSp ((enOf [f0, f1, f2, f3, f4, f5, f6] (csv cs)).f 1) from @f1_sp)
theorem f8_sp : FrameSp f8 := frame_sp (en := enOf [f0, f1, f2, f3, f4, f5, f6, f7] (csv cs)) (show DrawSp ((enOf [f0, f1, f2, f3, f4, f5, f6, f7] (csv cs)).f 1) from @f1_sp) (show SomePairsSp ((enOf [f0, f1, f2, f3, f4, f5, f6, f7] (csv cs)).f 7) from @f7_sp)
theorem f9_sp : PairsLSp f9 := pairsL_sp _
end K02
namespace K02
open PySem MP
def pD (u v : Int) : PyData := .tuple [.int u, .int v]
theorem eqv_p (b : Nat × Nat) (u v : Int) : PyData.eqv (barD b) (pD u v) = (decide ((b.1 : Int) = u) && decide ((b.2 : Int) = v)) := by
  rw [Bool.eq_iff_iff]
  simp [barD, pD, PyData.eqv, PyData.eqvAll]
theorem le_int {a b : Int} (h : a ≤ b) : leD (.int a) (.int b) = true := by
  show (!(PyProof.Rows.lexLt PyProof.Rows.itemOrd (PySem.W.keyToks (.int b)) (PySem.W.keyToks (.int a)))) = true
  have : ¬ b < a := by omega
  simp [PySem.W.keyToks, PyProof.Rows.lexLt, PyProof.Rows.itemLt, this]
theorem asc_ext : ∀ {l m : List Int}, l.Pairwise (· < ·) → m.Pairwise (· < ·) → (∀ x, x ∈ l ↔ x ∈ m) → l = m
  | [], [], _, _, _ => rfl
  | [], b :: m, _, _, h => absurd ((h b).mpr List.mem_cons_self) (by simp)
  | a :: l, [], _, _, h => absurd ((h a).mp List.mem_cons_self) (by simp)
  | a :: l, b :: m, hl, hm, h => by
    obtain ⟨l1, l2⟩ := List.pairwise_cons.mp hl
    obtain ⟨m1, m2⟩ := List.pairwise_cons.mp hm
    have e : a = b := by
      rcases List.mem_cons.mp ((h a).mp List.mem_cons_self) with e | e
      · exact e
      · rcases List.mem_cons.mp ((h b).mpr List.mem_cons_self) with e2 | e2
        · exact e2.symm
        · have := l1 b e2
          have := m1 a e
          omega
    subst e
    rw [asc_ext l2 m2 fun x => ?_]
    constructor
    · intro hx
      rcases List.mem_cons.mp ((h x).mp (List.mem_cons_of_mem _ hx)) with q | q
      · subst q
        have := l1 x hx
        omega
      · exact q
    · intro hx
      rcases List.mem_cons.mp ((h x).mpr (List.mem_cons_of_mem _ hx)) with q | q
      · subst q
        have := m1 x hx
        omega
      · exact q
def inB (B : List PyData) (u v : Int) : Bool := B.any fun z => PyData.eqv z (pD u v)
def mn (x y : Int) : Int := if y < x then y else x
def mx (x y : Int) : Int := if y > x then y else x
def nb (bars : List (Nat × Nat)) (j : Nat) : List Int := (bars.filter fun b => decide (b.1 = j ∨ b.2 = j)).map fun b => (b.1 : Int) + b.2 - j
theorem in_iff {bars : List (Nat × Nat)} {u v : Int} : inB (bars.map barD) u v = true ↔ ∃ b ∈ bars, (b.1 : Int) = u ∧ (b.2 : Int) = v := by
  unfold inB
  rw [List.any_map, List.any_eq_true]
  simp only [Function.comp, eqv_p, Bool.and_eq_true, decide_eq_true_eq]
theorem lex_all : ∀ n, n < 7 → (pairsOf n).Pairwise (fun a b => a.1 < b.1 ∨ a.1 = b.1 ∧ a.2 < b.2) := by decide +kernel
theorem nb_asc {n : Nat} {bars : List (Nat × Nat)} (hF : FrOk n bars) (hs : List.Sublist bars (pairsOf n)) (j : Nat) : (nb bars j).Pairwise (· < ·) := by
  unfold nb
  rw [List.pairwise_map]
  have h := (lex_all n (by have := hF.n6; omega)).sublist hs
  refine (h.filter _).imp_of_mem fun {a b} ha hb q => ?_
  obtain ⟨ha, ja⟩ := List.mem_filter.mp ha
  obtain ⟨hb, jb⟩ := List.mem_filter.mp hb
  have := hF.lt a ha
  have := hF.lt b hb
  simp only [decide_eq_true_eq] at ja jb
  omega
theorem nb_due {n : Nat} {bars : List (Nat × Nat)} (hF : FrOk n bars) (hs : List.Sublist bars (pairsOf n)) (j : Nat) : nb bars j = ((List.range n).filter fun k : Nat => inB (bars.map barD) (mn k j) (mx k j)).map fun k : Nat => (k : Int) := by
  refine asc_ext (nb_asc hF hs j) ?_ fun x => ?_
  · rw [List.pairwise_map]
    exact ((List.pairwise_lt_range (n := n)).filter _).imp fun {a b} q => by omega
  · unfold nb
    simp only [List.mem_map, List.mem_filter, List.mem_range, decide_eq_true_eq, in_iff]
    constructor
    · rintro ⟨b, ⟨hb, hj⟩, rfl⟩
      have := hF.lt b hb
      rcases hj with hj | hj
      · exact ⟨b.2, ⟨by omega, b, hb, by unfold mn; split <;> omega, by unfold mx; split <;> omega⟩, by omega⟩
      · exact ⟨b.1, ⟨by omega, b, hb, by unfold mn; split <;> omega, by unfold mx; split <;> omega⟩, by omega⟩
    · rintro ⟨k, ⟨hk, b, hb, h1, h2⟩, rfl⟩
      have := hF.lt b hb
      unfold mn at h1
      unfold mx at h2
      refine ⟨b, ⟨hb, ?_⟩, ?_⟩ <;> (split at h1 <;> split at h2 <;> omega)
theorem sort_nb {l : List Int} (h : l.Pairwise (· < ·)) : sortD (l.map .int) = l.map .int := by
  unfold sortD
  refine List.mergeSort_of_pairwise ?_
  rw [List.pairwise_map]
  exact h.imp fun {a b} q => le_int (by omega)
noncomputable abbrev e10 : En := enOf [f0, f1, f2, f3, f4, f5, f6, f7, f8, f9] (csv cs) [] [fy0, fy1] (rtOf xes)
noncomputable abbrev ey : En := enOf [f0, f1, f2, f3, f4, f5, f6, f7, f8, f9] (csv cs)
theorem sh_p (u v : Int) : SeqAt.shaped (pD u v) = true := rfl
def leftB (B : List PyData) (u v : Int) : List PyData := B.filter fun z => !PyData.eqv z (pD u v)
structure BOk (B : List PyData) : Prop where
  len : B.length ≤ 15
  sh : SeqAt.shaped (.list B) = true
  each : ∀ z ∈ B, SeqAt.shaped z = true
abbrev frB (n : Int) (B : List PyData) : PyData := .tuple [.int n, .tuple B]
theorem f6_ok (x y : Int) : f6 [.fz (.int x), .fz (.int y)] = some (.fz (pD (mn x y) (mx x y)), [.fz (.int x), .fz (.int y)]) := by
  simp [f6, fnΦ, b6, small, mn, mx, pD]
theorem left_ok {en : En} {x : Ie} {n : Int} {B : List PyData} {u v : Int} (hB : BOk B) (hx : x = .lc false [4] .seq (.ex (.op .ix (.nm 0 (.ex (.c (.int 1)) .nil))) .nil) (.nm 4) (.so (.b (.op (.cmp .NotEq) (.nm 4 (.nm 3 .nil))))) (.v 4)) {x1 x2 : Option Vl} :
    ev en x [some (.fz (frB n B)), x1, x2, some (.fz (pD u v)), none] = some (.ls ((leftB B u v).map .fz), [some (.fz (frB n B)), x1, x2, some (.fz (pD u v)), none]) := by
  have key := lc_fm (en := en) (x := x) hx (fun z => !PyData.eqv z (pD u v)) (fun z => z) (ρ := [some (.fz (frB n B)), x1, x2, some (.fz (pD u v)), none]) (ρ0 := [some (.fz (frB n B)), x1, x2, some (.fz (pD u v)), none]) (ds := B) (by simp [small]) (by have := hB.len; omega) fun z hz => by
    have h1 := hB.each z hz
    have h2 := sh_p u v
    generalize pD u v = p at h2 ⊢
    simp [h1, h2]
  rw [key]
  unfold leftB
  rw [List.map_id']
theorem vl_catT (xs ys : List PyData) : (hCatT xs ys).vl = .fz (.tuple (xs ++ ys)) := by
  cases xs with
  | nil => rfl
  | cons x xs =>
    cases ys with
    | nil => simp [hCatT]
    | cons y ys => rfl
def nob (x y : Int) : Exn := ⟨"NoBar", [("other", .int y), ("one", .int x)]⟩
theorem without_ok {n : Int} {B : List PyData} (hB : BOk B) (x y : Int) : fy0 [.fz (frB n B), .fz (.int x), .fz (.int y)] = some (if inB B (mn x y) (mx x y) then .ok (.fz (frB n (leftB B (mn x y) (mx x y)))) else .ex (nob x y), [.fz (frB n B), .fz (.int x), .fz (.int y)]) := by
  have h6 := f6_ok x y
  have hL := left_ok (en := ey) (x := by0x0) (n := n) (u := mn x y) (v := mx x y) hB rfl (x1 := some (.fz (.int x))) (x2 := some (.fz (.int y)))
  have h2 := sh_p (mn x y) (mx x y)
  have hs := hB.sh
  have hl := hB.len
  generalize mn x y = m at *
  generalize mx x y = M at *
  unfold fy0 by0
  generalize by0x0 = xx at *
  unfold inB
  generalize hc : (B.any fun z => PyData.eqv z (pD m M)) = c
  generalize leftB B m M = L at *
  generalize pD m M = p at *
  cases c with
  | true => simp [fnΦX, h6, h2, hs, hc, hL, small]
  | false => simp [fnΦX, h6, h2, hs, hc, small, nob]
theorem with_ok {n : Int} {B : List PyData} (hB : BOk B) (x y : Int) (hs : barB n (pD (mn x y) (mx x y)) = true → sortOk (B ++ [pD (mn x y) (mx x y)]) = true) :
    fy1 [.fz (frB n B), .fz (.int x), .fz (.int y)] = some (if barB n (pD (mn x y) (mx x y)) && !inB B (mn x y) (mx x y) then .ok (.fz (frB n (sortD (B ++ [pD (mn x y) (mx x y)])))) else .ex (nob x y), [.fz (frB n B), .fz (.int x), .fz (.int y)]) := by
  have h6 := f6_ok x y
  have h4 := f4_sp n (pD (mn x y) (mx x y))
  have h2 := sh_p (mn x y) (mx x y)
  have hsh := hB.sh
  have hl := hB.len
  generalize mn x y = m at *
  generalize mx x y = M at *
  unfold fy1 by1
  unfold inB
  generalize hc : (B.any fun z => PyData.eqv z (pD m M)) = c
  generalize pD m M = p at *
  cases hb : barB n p with
  | false =>
    rw [hb] at h4
    simp [fnΦX, h6, h4, small, nob, tru]
  | true =>
    rw [hb] at h4
    have hs := hs hb
    cases c with
    | true => simp [fnΦX, h6, h4, h2, hsh, hc, small, nob, tru]
    | false => simp [fnΦX, h6, h4, h2, hsh, hc, hs, small, tru, -Res.vl, Res.vl.eq_1, Res.vl.eq_2, Res.vl.eq_3, vl_catT, show B.length ≤ 999999 by omega]
theorem f5_ok {n : Nat} {bars : List (Nat × Nat)} (hl : bars.length ≤ 15) (ha : ∀ j, (nb bars j).Pairwise (· < ·)) (j : Nat) : f5 [.fz (frB n (bars.map barD)), .fz (.int j)] = some (.ls (((nb bars j).map .int).map .fz), [.fz (frB n (bars.map barD)), .fz (.int j)]) := by
  have key := lc_fm (en := enOf [f0, f1, f2, f3, f4] (csv cs)) (x := b5x0) rfl (fun z => match z with
      | .tuple [.int a, .int b] => decide (a = j) || decide (b = j)
      | _ => false) (fun z => match z with
      | .tuple [.int a, .int b] => .int (a + b - j)
      | _ => .none) (ρ := [some (.fz (frB n (bars.map barD))), some (.fz (.int j)), none, none]) (ρ0 := [some (.fz (frB n (bars.map barD))), some (.fz (.int j)), none, none]) (ds := bars.map barD) (by simp [small]) (by simp; omega) fun z hz => by
    obtain ⟨b, hb, rfl⟩ := List.mem_map.mp hz
    have s1 : SeqAt.shaped (.list [.int (b.1 : Int), .int (b.2 : Int)]) = true := rfl
    have s2 : SeqAt.shaped (.int (j : Int)) = true := rfl
    simp [barD, s1, s2, small]
  have e1 : ((bars.map barD).filter (fun z => match z with
      | .tuple [.int a, .int b] => decide (a = (j : Int)) || decide (b = (j : Int))
      | _ => false)).map (fun z => match z with
      | .tuple [.int a, .int b] => PyData.int (a + b - (j : Int))
      | _ => .none) = (nb bars j).map .int := by
    unfold nb
    rw [List.filter_map, List.map_map, List.map_map]
    have : ((fun z => match z with
      | .tuple [.int a, .int b] => decide (a = (j : Int)) || decide (b = (j : Int))
      | _ => false) ∘ barD) = fun b : Nat × Nat => decide (b.1 = j ∨ b.2 = j) := by
      funext b
      rw [Bool.eq_iff_iff]
      simp [barD]
      omega
    rw [this]
    refine List.map_congr_left fun b _ => ?_
    simp [barD]
  rw [e1] at key
  have hs := sort_nb (ha j)
  have hn : (nb bars j).length ≤ 15 := by
    unfold nb
    rw [List.length_map]
    exact Nat.le_trans (List.length_filter_le _ _) hl
  have so : sortOk ((nb bars j).map .int) = true := by
    unfold sortOk
    simp only [Bool.and_eq_true, Bool.or_eq_true, List.all_eq_true, decide_eq_true_eq]
    refine ⟨⟨⟨fun d hd e he => ?_, .inr fun d hd => ?_⟩, fun d hd => ?_⟩, by rw [List.length_map]; omega⟩
    · obtain ⟨a, _, rfl⟩ := List.mem_map.mp hd
      obtain ⟨b, _, rfl⟩ := List.mem_map.mp he
      simp [PySem.W.alike]
    · obtain ⟨a, _, rfl⟩ := List.mem_map.mp hd
      rfl
    · obtain ⟨a, _, rfl⟩ := List.mem_map.mp hd
      simp [PyData.depth]
  unfold f5 b5
  generalize b5x0 = xx at *
  generalize (nb bars j).map PyData.int = L at *
  simp [fnΦ, key, so, hs, small]
theorem sort_with {n : Nat} {bars : List (Nat × Nat)} (hl : bars.length ≤ 15) (u v : Int) : sortOk (bars.map barD ++ [pD u v]) = true := by
  unfold sortOk
  simp only [Bool.and_eq_true, Bool.or_eq_true, List.all_eq_true, decide_eq_true_eq]
  have cases_ : ∀ d ∈ bars.map barD ++ [pD u v], ∃ a b : Int, d = pD a b := fun d hd => by
    rcases List.mem_append.mp hd with h | h
    · obtain ⟨b, _, rfl⟩ := List.mem_map.mp h
      exact ⟨b.1, b.2, rfl⟩
    · exact ⟨u, v, List.mem_singleton.mp h⟩
  refine ⟨⟨⟨fun d hd e he => ?_, .inl fun d hd => ?_⟩, fun d hd => ?_⟩, by simp; omega⟩
  · obtain ⟨a, b, rfl⟩ := cases_ d hd
    obtain ⟨a', b', rfl⟩ := cases_ e he
    simp [PySem.W.alike, PySem.W.alikeAll, pD]
  · obtain ⟨a, b, rfl⟩ := cases_ d hd
    rfl
  · obtain ⟨a, b, rfl⟩ := cases_ d hd
    simp [pD, PyData.depth, PyData.depthAll]
section
variable (φs : List Φ) (cs : List PyData) (ds : List (List (Str × Int))) (xs : List ΦX) (rt : RT) (j : Nat)
@[simp] theorem en_f : (enOf φs cs ds xs rt).f j = (φs[j]?).getD fun _ => none := rfl
@[simp] theorem en_c : (enOf φs cs ds xs rt).c j = (cs[j]?).getD .none := rfl
@[simp] theorem en_x : (enOf φs cs ds xs rt).x j = (xs[j]?).getD fun _ => none := rfl
@[simp] theorem en_rt : (enOf φs cs ds xs rt).rt = rt := rfl
end
def badD (x y : Int) : PyData := .tuple [.str "NoBar NowError +", .int x, .int y]
def toldD (n : Int) (L : List PyData) : PyData := .tuple [.str "told", frB n L]
theorem sh_bad (x y : Int) : SeqAt.shaped (badD x y) = true := by
  have : TD (x.natAbs + y.natAbs : Nat) 100 1 (badD x y) := by
    refine ⟨by simp, fun e he => ?_⟩
    simp only [List.mem_cons, List.not_mem_nil, or_false] at he
    rcases he with rfl | rfl | rfl
    · exact ⟨by decide +kernel, by decide +kernel⟩
    · exact ⟨by omega, by omega⟩
    · exact ⟨by omega, by omega⟩
  exact this.shaped (by decide)
theorem sh_told {n : Nat} (hn : n ≤ 6) {L : List PyData} (hl : L.length ≤ 100) (h : ∀ z ∈ L, TD 10 100 1 z) : SeqAt.shaped (toldD n L) = true := by
  have : TD 10 100 4 (toldD n L) := by
    refine ⟨by simp, fun e he => ?_⟩
    simp only [List.mem_cons, List.not_mem_nil, or_false] at he
    rcases he with rfl | rfl
    · exact ⟨by decide +kernel, by decide +kernel⟩
    · refine ⟨by simp, fun e he => ?_⟩
      simp only [List.mem_cons, List.not_mem_nil, or_false] at he
      rcases he with rfl | rfl
      · exact ⟨by omega, by omega⟩
      · exact ⟨hl, h⟩
  exact this.shaped (by decide)
theorem ref_nob (x y : Int) : refD (rtOf xes) (nob x y) = some (badD x y) := rfl
theorem barB_iff {n m M : Int} : barB n (pD m M) = (decide (0 ≤ m) && (decide (m < M) && decide (M < n))) := by
  rw [Bool.eq_iff_iff]
  simp [barB, pD]
  omega
def wOut (n : Int) (B : List PyData) (x y : Int) : PyData := if inB B (mn x y) (mx x y) then toldD n (leftB B (mn x y) (mx x y)) else badD x y
theorem eqv_same {d : PyData} (h : SeqAt.shaped d = true) : PyData.eqv d d = true := SeqAt.eqv_refl d (SeqAt.canLay_of_shaped h)
theorem left_law {n : Int} {bars : List (Nat × Nat)} {m M : Int} (hB : BOk (bars.map barD)) {x0 x1 x2 x4 x5 x6 x7 x8 x9 x11 x12 x13 x14 : Option Vl} :
    ev e10 b10x1 [x0, x1, x2, some (.fz (frB n (bars.map barD))), x4, x5, x6, x7, x8, x9, some (.fz (pD m M)), x11, x12, x13, x14, none, none, none] = some (.ls ((leftB (bars.map barD) m M).map .fz), [x0, x1, x2, some (.fz (frB n (bars.map barD))), x4, x5, x6, x7, x8, x9, some (.fz (pD m M)), x11, x12, x13, x14, none, none, none]) := by
  generalize bars.map barD = B at *
  have key := lc_fm (en := e10) (x := b10x1) rfl (fun z => !PyData.eqv z (pD m M)) (fun z => z) (ρ := [x0, x1, x2, some (.fz (frB n B)), x4, x5, x6, x7, x8, x9, some (.fz (pD m M)), x11, x12, x13, x14, none, none, none]) (ρ0 := [x0, x1, x2, some (.fz (frB n B)), x4, x5, x6, x7, x8, x9, some (.fz (pD m M)), x11, x12, x13, x14, none, none, none]) (ds := B) (by simp [small]) (by have := hB.len; omega) fun z hz => by
    have h1 := hB.each z hz
    have h2 := sh_p m M
    generalize pD m M = p at h2 ⊢
    simp [h1, h2]
  rw [key]
  unfold leftB
  rw [List.map_id']
theorem pair_ok {n : Nat} {bars : List (Nat × Nat)} (hF : FrOk n bars) {x0 x1 x2 x5 x6 x7 x10 x11 x12 x13 x14 : Option Vl} (x y : Int) :
    ∃ z10 z11 z12 z13 z14, evSs e10 b10x2 [x0, x1, x2, some (.fz (frB n (bars.map barD))), some (.fz (.int n)), x5, x6, x7, some (.fz (.int x)), some (.fz (.int y)), x10, x11, x12, x13, x14, none, none, none] = some (.nx, [x0, x1, x2, some (.fz (frB n (bars.map barD))), some (.fz (.int n)), x5, x6, x7, some (.fz (.int x)), some (.fz (.int y)), z10, z11, z12, z13, z14, none, none, none]) := by
  have hn := hF.n6
  have hl := hF.len
  have tdB : ∀ z ∈ bars.map barD, TD 10 100 1 z := fun z hz => by
    obtain ⟨b, hb, rfl⟩ := List.mem_map.mp hz
    have := hF.lt b hb
    refine ⟨by simp, fun e he => ?_⟩
    simp only [List.mem_cons, List.not_mem_nil, or_false] at he
    rcases he with rfl | rfl
    · exact ⟨by omega, by omega⟩
    · exact ⟨by omega, by omega⟩
  have hB : BOk (bars.map barD) := ⟨by simpa using hl, (TD.all (B := 10) (L := 100) (D := 1) (by simp; omega) tdB).shaped (by decide), fun z hz => (tdB z hz).shaped (by decide)⟩
  have W := without_ok (n := n) hB x y
  have V := with_ok (n := n) hB x y fun _ => sort_with (n := n) hl _ _
  have hS : sortOk (bars.map barD ++ [pD (mn x y) (mx x y)]) = true := sort_with (n := n) hl _ _
  have shL : inB (bars.map barD) (mn x y) (mx x y) = true → SeqAt.shaped (toldD n (leftB (bars.map barD) (mn x y) (mx x y))) = true := fun _ => by
    refine sh_told hn ?_ fun z hz => tdB z (List.mem_filter.mp hz).1
    refine Nat.le_trans (List.length_filter_le _ _) ?_
    simp
    omega
  have shV : barB n (pD (mn x y) (mx x y)) = true → SeqAt.shaped (toldD n (sortD (bars.map barD ++ [pD (mn x y) (mx x y)]))) = true := fun h => by
    rw [barB_iff] at h
    simp only [Bool.and_eq_true, decide_eq_true_eq] at h
    have pm : (sortD (bars.map barD ++ [pD (mn x y) (mx x y)])).Perm (bars.map barD ++ [pD (mn x y) (mx x y)]) := List.mergeSort_perm _ _
    refine sh_told hn ?_ fun z hz => ?_
    · rw [pm.length_eq]
      simp
      omega
    · rcases List.mem_append.mp (pm.mem_iff.mp hz) with h2 | h2
      · exact tdB z h2
      · rw [List.mem_singleton.mp h2]
        refine ⟨by simp, fun e he => ?_⟩
        simp only [List.mem_cons, List.not_mem_nil, or_false] at he
        rcases he with rfl | rfl
        · exact ⟨by omega, by omega⟩
        · exact ⟨by omega, by omega⟩
  have sb := sh_bad x y
  have eb := eqv_same sb
  have hp : (if y < x then y else x) = mn x y := rfl
  have hq : (if x < y then y else x) = mx x y := by unfold mx; rfl
  have sp := sh_p (mn x y) (mx x y)
  have hsh := hB.sh
  have hbl := hB.len
  have bi := barB_iff (n := n) (m := mn x y) (M := mx x y)
  have hL := left_law (n := n) (bars := bars) hB (m := mn x y) (M := mx x y) (x0 := x0) (x1 := x1) (x2 := x2) (x4 := some (.fz (.int n))) (x5 := x5) (x6 := x6) (x7 := x7) (x8 := some (.fz (.int x))) (x9 := some (.fz (.int y))) (x11 := some (.fz (badD x y))) (x12 := some (.fz (wOut n (bars.map barD) x y))) (x13 := x13) (x14 := x14)
  unfold wOut at hL
  generalize mn x y = m at *
  generalize mx x y = M at *
  generalize hB0 : bars.map barD = B at *
  generalize hc : inB B m M = c at *
  unfold inB at hc
  generalize leftB B m M = L at *
  have s0 : evS e10 (.set 10 (.op .tup (.ex (.op (.blt .min) (.nm 8 (.nm 9 .nil))) (.ex (.op (.blt .max) (.nm 8 (.nm 9 .nil))) .nil)))) [x0, x1, x2, some (.fz (frB n B)), some (.fz (.int n)), x5, x6, x7, some (.fz (.int x)), some (.fz (.int y)), x10, x11, x12, x13, x14, none, none, none] = some (.nx, [x0, x1, x2, some (.fz (frB n B)), some (.fz (.int n)), x5, x6, x7, some (.fz (.int x)), some (.fz (.int y)), some (.fz (pD m M)), x11, x12, x13, x14, none, none, none]) := by
    simp [small, hp, hq, pD]
  have s1 : evS e10 (.set 11 (.op .tup (.ex (.c (.str "NoBar NowError +")) (.nm 8 (.nm 9 .nil))))) [x0, x1, x2, some (.fz (frB n B)), some (.fz (.int n)), x5, x6, x7, some (.fz (.int x)), some (.fz (.int y)), some (.fz (pD m M)), x11, x12, x13, x14, none, none, none] = some (.nx, [x0, x1, x2, some (.fz (frB n B)), some (.fz (.int n)), x5, x6, x7, some (.fz (.int x)), some (.fz (.int y)), some (.fz (pD m M)), some (.fz (badD x y)), x12, x13, x14, none, none, none]) := by
    simp [small, badD]
  have s2 : evS e10 (.set 12 (.toldF 0 (.nm 3 (.nm 8 (.nm 9 .nil))))) [x0, x1, x2, some (.fz (frB n B)), some (.fz (.int n)), x5, x6, x7, some (.fz (.int x)), some (.fz (.int y)), some (.fz (pD m M)), some (.fz (badD x y)), x12, x13, x14, none, none, none] = some (.nx, [x0, x1, x2, some (.fz (frB n B)), some (.fz (.int n)), x5, x6, x7, some (.fz (.int x)), some (.fz (.int y)), some (.fz (pD m M)), some (.fz (badD x y)), some (.fz (if c = true then toldD n L else badD x y)), x13, x14, none, none, none]) := by
    cases c with
    | true => simp [W, small, toldD]
    | false => simp [W, small, ref_nob, -refD]
  have s3 : evS e10 (.set 13 (.op (.blt .tuple) (.ex b10x1 .nil))) [x0, x1, x2, some (.fz (frB n B)), some (.fz (.int n)), x5, x6, x7, some (.fz (.int x)), some (.fz (.int y)), some (.fz (pD m M)), some (.fz (badD x y)), some (.fz (if c = true then toldD n L else badD x y)), x13, x14, none, none, none] = some (.nx, [x0, x1, x2, some (.fz (frB n B)), some (.fz (.int n)), x5, x6, x7, some (.fz (.int x)), some (.fz (.int y)), some (.fz (pD m M)), some (.fz (badD x y)), some (.fz (if c = true then toldD n L else badD x y)), some (.fz (.tuple L)), x14, none, none, none]) := by
    simp [hL, small]
  have s4 : evS e10 (.ite (.b (.op (.cmp .NotEq) (.nm 12 (.ex (.ife (.b (.op (.cmp .In) (.nm 10 (.ex (.op .ix (.nm 3 (.ex (.c (.int 1)) .nil))) .nil)))) (.op .tup (.ex (.c (.str "told")) (.ex (.op .tup (.nm 4 (.nm 13 .nil))) .nil))) (.v 11)) .nil)))) (.cons (.ret (.c (.bool false))) .nil) .nil) [x0, x1, x2, some (.fz (frB n B)), some (.fz (.int n)), x5, x6, x7, some (.fz (.int x)), some (.fz (.int y)), some (.fz (pD m M)), some (.fz (badD x y)), some (.fz (if c = true then toldD n L else badD x y)), some (.fz (.tuple L)), x14, none, none, none] = some (.nx, [x0, x1, x2, some (.fz (frB n B)), some (.fz (.int n)), x5, x6, x7, some (.fz (.int x)), some (.fz (.int y)), some (.fz (pD m M)), some (.fz (badD x y)), some (.fz (if c = true then toldD n L else badD x y)), some (.fz (.tuple L)), x14, none, none, none]) := by
    cases c with
    | true =>
      have a1 := shL rfl
      have a2 := eqv_same a1
      simp only [toldD] at a1 a2
      simp [small, sp, hsh, hc, toldD, a1, a2]
    | false =>
      simp [small, sp, hsh, hc, sb, eb]
  have s5 : evS e10 (.set 14 (.bv .And (.cons (.chain3 .LtE .Lt .Lt (.c (.int 0)) (.op .ix (.nm 10 (.ex (.c (.int 0)) .nil))) (.op .ix (.nm 10 (.ex (.c (.int 1)) .nil))) (.v 4)) (.one (.op (.cmp .NotIn) (.nm 10 (.ex (.op .ix (.nm 3 (.ex (.c (.int 1)) .nil))) .nil))))))) [x0, x1, x2, some (.fz (frB n B)), some (.fz (.int n)), x5, x6, x7, some (.fz (.int x)), some (.fz (.int y)), some (.fz (pD m M)), some (.fz (badD x y)), some (.fz (if c = true then toldD n L else badD x y)), some (.fz (.tuple L)), x14, none, none, none] = some (.nx, [x0, x1, x2, some (.fz (frB n B)), some (.fz (.int n)), x5, x6, x7, some (.fz (.int x)), some (.fz (.int y)), some (.fz (pD m M)), some (.fz (badD x y)), some (.fz (if c = true then toldD n L else badD x y)), some (.fz (.tuple L)), some (.fz (.bool (barB n (pD m M) && !c))), none, none, none]) := by
    rw [bi]
    simp only [pD] at sp hc
    by_cases h1 : 0 ≤ m <;> by_cases h2 : m < M <;> by_cases h3 : M < (n : Int) <;> cases c <;> simp [small, pD, mChain3, cmpP, h1, h2, h3, hc, sp, hsh, tru]
  have s6 : evS e10 (.set 12 (.toldF 1 (.nm 3 (.nm 8 (.nm 9 .nil))))) [x0, x1, x2, some (.fz (frB n B)), some (.fz (.int n)), x5, x6, x7, some (.fz (.int x)), some (.fz (.int y)), some (.fz (pD m M)), some (.fz (badD x y)), some (.fz (if c = true then toldD n L else badD x y)), some (.fz (.tuple L)), some (.fz (.bool (barB n (pD m M) && !c))), none, none, none] = some (.nx, [x0, x1, x2, some (.fz (frB n B)), some (.fz (.int n)), x5, x6, x7, some (.fz (.int x)), some (.fz (.int y)), some (.fz (pD m M)), some (.fz (badD x y)), some (.fz (if (barB n (pD m M) && !c) = true then toldD n (sortD (B ++ [pD m M])) else badD x y)), some (.fz (.tuple L)), some (.fz (.bool (barB n (pD m M) && !c))), none, none, none]) := by
    cases hg : (barB n (pD m M) && !c) with
    | true => simp [V, hg, small, toldD]
    | false => simp [V, hg, small, ref_nob, -refD]
  have s7 : evS e10 (.ite (.b (.op (.cmp .NotEq) (.nm 12 (.ex (.ife (.v (.v 14)) (.op .tup (.ex (.c (.str "told")) (.ex (.op .tup (.nm 4 (.ex (.op (.blt .tuple) (.ex (.op (.blt .sorted) (.ex (.op (.bin .Add) (.ex (.op .ix (.nm 3 (.ex (.c (.int 1)) .nil))) (.ex (.op .tup (.nm 10 .nil)) .nil))) .nil)) .nil)) .nil))) .nil))) (.v 11)) .nil)))) (.cons (.ret (.c (.bool false))) .nil) .nil) [x0, x1, x2, some (.fz (frB n B)), some (.fz (.int n)), x5, x6, x7, some (.fz (.int x)), some (.fz (.int y)), some (.fz (pD m M)), some (.fz (badD x y)), some (.fz (if (barB n (pD m M) && !c) = true then toldD n (sortD (B ++ [pD m M])) else badD x y)), some (.fz (.tuple L)), some (.fz (.bool (barB n (pD m M) && !c))), none, none, none] = some (.nx, [x0, x1, x2, some (.fz (frB n B)), some (.fz (.int n)), x5, x6, x7, some (.fz (.int x)), some (.fz (.int y)), some (.fz (pD m M)), some (.fz (badD x y)), some (.fz (if (barB n (pD m M) && !c) = true then toldD n (sortD (B ++ [pD m M])) else badD x y)), some (.fz (.tuple L)), some (.fz (.bool (barB n (pD m M) && !c))), none, none, none]) := by
    cases hg : (barB n (pD m M) && !c) with
    | true =>
      have a1 := shV (by cases h : barB n (pD m M) <;> simp_all)
      have a2 := eqv_same a1
      simp only [toldD] at a1 a2
      simp [small, hg, hS, toldD, a1, a2, -Res.vl, Res.vl.eq_1, Res.vl.eq_2, Res.vl.eq_3, vl_catT, tru, show B.length ≤ 999999 by omega]
    | false =>
      simp [small, hg, sb, eb, tru]
  refine ⟨some (.fz (pD m M)), some (.fz (badD x y)), some (.fz (if (barB n (pD m M) && !c) = true then toldD n (sortD (B ++ [pD m M])) else badD x y)), some (.fz (.tuple L)), some (.fz (.bool (barB n (pD m M) && !c))), ?_⟩
  unfold b10x2
  simp only [evSs]
  rw [seq_nx s0, seq_nx s1, seq_nx s2, seq_nx s3, seq_nx s4, seq_nx s5, seq_nx s6, seq_nx s7]
  simp
end K02
namespace K02
open PySem MP
theorem due_ok {n : Nat} {bars : List (Nat × Nat)} (hF : FrOk n bars) (hs : List.Sublist bars (pairsOf n)) (hB : BOk (bars.map barD)) {x0 x1 x2 x6 x7 x8 x9 x10 x11 x12 x13 x14 : Option Vl} (j : Nat) :
    ev e10 b10x5 [x0, x1, x2, some (.fz (frB n (bars.map barD))), some (.fz (.int n)), some (.fz (.int j)), x6, x7, x8, x9, x10, x11, x12, x13, x14, none, none, none] = some (.ls (((nb bars j).map .int).map .fz), [x0, x1, x2, some (.fz (frB n (bars.map barD))), some (.fz (.int n)), some (.fz (.int j)), x6, x7, x8, x9, x10, x11, x12, x13, x14, none, none, none]) := by
  have hn := hF.n6
  have hsh := hB.sh
  have key := lc_fm (en := e10) (x := b10x5) rfl (fun z => match z with
      | .int i => inB (bars.map barD) (mn i j) (mx i j)
      | _ => false) (fun z => z) (ρ := [x0, x1, x2, some (.fz (frB n (bars.map barD))), some (.fz (.int n)), some (.fz (.int j)), x6, x7, x8, x9, x10, x11, x12, x13, x14, none, none, none]) (ρ0 := [x0, x1, x2, some (.fz (frB n (bars.map barD))), some (.fz (.int n)), some (.fz (.int j)), x6, x7, x8, x9, x10, x11, x12, x13, x14, none, none, none]) (ds := rangeD 0 1 n) (by simp [bnd_nat (show n ≤ 1000 by omega)]) (by rw [rangeD_len]; omega) fun z hz => by
    obtain ⟨k, hk⟩ := List.mem_iff_getElem?.mp hz
    obtain ⟨_, rfl⟩ := get_rangeD hk
    have sp := sh_p (mn k j) (mx k j)
    have hp : (if j < k then (j : Int) else k) = mn k j := by unfold mn; simp
    have hq : (if k < j then (j : Int) else k) = mx k j := by unfold mx; simp
    have hc : ((bars.map barD).any fun z => PyData.eqv z (pD (mn k j) (mx k j))) = inB (bars.map barD) (mn k j) (mx k j) := rfl
    generalize bars.map barD = B at *
    simp only [pD] at sp hc
    simp [small, hp, hq, sp, hsh, hc]
  rw [key, nb_due hF hs j]
  have e : (rangeD 0 1 n).filter (fun z => match z with
      | .int i => inB (bars.map barD) (mn i j) (mx i j)
      | _ => false) = (((List.range n).filter fun k : Nat => inB (bars.map barD) (mn k j) (mx k j)).map fun k : Nat => (k : Int)).map .int := by
    unfold rangeD
    rw [List.filter_map, List.map_map]
    simp [Function.comp_def]
  rw [List.map_id', e]
theorem jrow_ok {n : Nat} {bars : List (Nat × Nat)} (hF : FrOk n bars) (hs : List.Sublist bars (pairsOf n)) (hB : BOk (bars.map barD)) {x0 x1 x2 x6 x7 x8 x9 x10 x11 x12 x13 x14 : Option Vl} (j : Nat) :
    evSs e10 b10x6 [x0, x1, x2, some (.fz (frB n (bars.map barD))), some (.fz (.int n)), some (.fz (.int j)), x6, x7, x8, x9, x10, x11, x12, x13, x14, none, none, none] = some (.nx, [x0, x1, x2, some (.fz (frB n (bars.map barD))), some (.fz (.int n)), some (.fz (.int j)), x6, some (.ls (((nb bars j).map .int).map .fz)), x8, x9, x10, x11, x12, x13, x14, none, none, none]) := by
  have hd := due_ok hF hs hB (x0 := x0) (x1 := x1) (x2 := x2) (x6 := x6) (x7 := x7) (x8 := x8) (x9 := x9) (x10 := x10) (x11 := x11) (x12 := x12) (x13 := x13) (x14 := x14) j
  have h5 := f5_ok (n := n) hF.len (nb_asc hF hs) j
  have sh : SeqAt.shaped (.list ((nb bars j).map .int)) = true := by
    have hn : (nb bars j).length ≤ 15 := by
      unfold nb
      rw [List.length_map]
      exact Nat.le_trans (List.length_filter_le _ _) hF.len
    have bd : ∀ z ∈ nb bars j, -100 ≤ z + j ∧ z + j ≤ 100 := fun z hz => by
      unfold nb at hz
      obtain ⟨b, hb, rfl⟩ := List.mem_map.mp hz
      have := hF.lt b (List.mem_filter.mp hb).1
      have := hF.n6
      omega
    refine (TD.all (B := 100 + j) (L := 100) (D := 0) (by rw [List.length_map]; omega) fun e he => ?_).shaped (by decide)
    obtain ⟨z, hz, rfl⟩ := List.mem_map.mp he
    have := bd z hz
    exact ⟨by omega, by omega⟩
  have ev := eqv_same sh
  generalize (nb bars j).map PyData.int = L at *
  generalize bars.map barD = B at *
  unfold b10x6
  generalize b10x5 = xx at *
  simp [hd, h5, sh, ev, small, tru]
theorem joints_ok {n : Nat} {bars : List (Nat × Nat)} (hF : FrOk n bars) (hs : List.Sublist bars (pairsOf n)) (hB : BOk (bars.map barD)) {x0 x1 x2 x5 x6 x7 x8 x9 x10 x11 x12 x13 x14 : Option Vl} :
    ∃ z5 z7, evS e10 b10x7 [x0, x1, x2, some (.fz (frB n (bars.map barD))), some (.fz (.int n)), x5, x6, x7, x8, x9, x10, x11, x12, x13, x14, none, none, none] = some (.nx, [x0, x1, x2, some (.fz (frB n (bars.map barD))), some (.fz (.int n)), z5, x6, z7, x8, x9, x10, x11, x12, x13, x14, none, none, none]) := by
  have hn := hF.n6
  obtain ⟨ρ', e, z5, z7, hρ⟩ := for_ix (en := e10) (x := b10x7) rfl (ρ := [x0, x1, x2, some (.fz (frB n (bars.map barD))), some (.fz (.int n)), x5, x6, x7, x8, x9, x10, x11, x12, x13, x14, none, none, none]) (ρ0 := [x0, x1, x2, some (.fz (frB n (bars.map barD))), some (.fz (.int n)), x5, x6, x7, x8, x9, x10, x11, x12, x13, x14, none, none, none]) (ds := rangeD 0 1 n) (by simp [bnd_nat (show n ≤ 1000 by omega)])
    (fun k ρ => ∃ z5 z7, ρ = [x0, x1, x2, some (.fz (frB n (bars.map barD))), some (.fz (.int n)), z5, x6, z7, x8, x9, x10, x11, x12, x13, x14, none, none, none]) ⟨_, _, rfl⟩ fun k d hd ρ ⟨z5, z7, hρ⟩ => by
      subst hρ
      obtain ⟨hk, rfl⟩ := get_rangeD hd
      have q := jrow_ok hF hs hB (x0 := x0) (x1 := x1) (x2 := x2) (x6 := x6) (x7 := z7) (x8 := x8) (x9 := x9) (x10 := x10) (x11 := x11) (x12 := x12) (x13 := x13) (x14 := x14) k
      exact ⟨_, by simp, _, q, rfl, _, _, rfl⟩
  exact ⟨z5, z7, by rw [e, hρ]⟩
def someL (n : Nat) : List PyData := (pairsOf n).map barD ++ (List.range n).map (fun k : Nat => pD k k) ++ [pD 0 n, pD (-1) 0, pD (10 ^ 30) 0, pD (-2) (-1)]
theorem someL_pd {n : Nat} {z : PyData} (h : z ∈ someL n) : ∃ u v : Int, z = pD u v := by
  unfold someL at h
  simp only [List.mem_append, List.mem_map, List.mem_cons, List.not_mem_nil, or_false] at h
  rcases h with (⟨b, _, rfl⟩ | ⟨k, _, rfl⟩) | rfl | rfl | rfl | rfl
  · exact ⟨_, _, rfl⟩
  · exact ⟨_, _, rfl⟩
  · exact ⟨_, _, rfl⟩
  · exact ⟨_, _, rfl⟩
  · exact ⟨_, _, rfl⟩
  · exact ⟨_, _, rfl⟩
theorem some_ok {n : Nat} {bars : List (Nat × Nat)} (hn : n ≤ 6) {x0 x1 x2 x5 x6 x7 x8 x9 x10 x11 x12 x13 x14 : Option Vl} :
    evS e10 (.set 6 (.op (.bin .Add) (.ex (.op (.bin .Add) (.ex (.op (.call 9) (.nm 4 .nil)) (.ex b10x4 .nil))) (.ex (.op .lst (.ex (.op .tup (.ex (.c (.int 0)) (.nm 4 .nil))) (.ex (.op .tup (.ex (.op .neg (.ex (.c (.int 1)) .nil)) (.ex (.c (.int 0)) .nil))) (.ex (.op .tup (.ex (.op (.bin .Pow) (.ex (.c (.int 10)) (.ex (.c (.int 30)) .nil))) (.ex (.c (.int 0)) .nil))) (.ex (.op .tup (.ex (.op .neg (.ex (.c (.int 2)) .nil)) (.ex (.op .neg (.ex (.c (.int 1)) .nil)) .nil))) .nil))))) .nil))))
      [x0, x1, x2, some (.fz (frB n (bars.map barD))), some (.fz (.int n)), x5, x6, x7, x8, x9, x10, x11, x12, x13, x14, none, none, none] = some (.nx, [x0, x1, x2, some (.fz (frB n (bars.map barD))), some (.fz (.int n)), x5, some (.ls ((someL n).map .fz)), x7, x8, x9, x10, x11, x12, x13, x14, none, none, none]) := by
  have h9 := f9_sp n hn
  have hl : ((pairsOf n).map barD).length ≤ 36 := by
    rw [List.length_map]
    have := pairsTo_len (n := n) (m := n) (Nat.le_refl _)
    have h2 : n * n ≤ 6 * 6 := Nat.mul_le_mul hn hn
    exact Nat.le_trans this h2
  have h4 : ev e10 b10x4 [x0, x1, x2, some (.fz (frB n (bars.map barD))), some (.fz (.int n)), x5, x6, x7, x8, x9, x10, x11, x12, x13, x14, none, none, none] = some (.ls (((List.range n).map fun k : Nat => pD k k).map .fz), [x0, x1, x2, some (.fz (frB n (bars.map barD))), some (.fz (.int n)), x5, x6, x7, x8, x9, x10, x11, x12, x13, x14, none, none, none]) := by
    have key := lc_mp (en := e10) (x := b10x4) rfl (fun z => .tuple [z, z]) (ρ := [x0, x1, x2, some (.fz (frB n (bars.map barD))), some (.fz (.int n)), x5, x6, x7, x8, x9, x10, x11, x12, x13, x14, none, none, none]) (ρ0 := [x0, x1, x2, some (.fz (frB n (bars.map barD))), some (.fz (.int n)), x5, x6, x7, x8, x9, x10, x11, x12, x13, x14, none, none, none]) (ds := rangeD 0 1 n) (by simp [bnd_nat (show n ≤ 1000 by omega)]) (by rw [rangeD_len]; omega) fun z hz => by
      simp [small]
    rw [key]
    unfold rangeD
    rw [List.map_map]
    simp [Function.comp_def, pD]
  have l2 : ((List.range n).map fun k : Nat => pD k k).length ≤ 6 := by simpa using hn
  unfold someL
  generalize (pairsOf n).map barD = P1 at *
  generalize (List.range n).map (fun k : Nat => pD k k) = P2 at *
  generalize bars.map barD = B at *
  generalize b10x4 = xx at *
  have hs : small (P1.length + P2.length) = true := by
    unfold small
    exact decide_eq_true (by omega)
  simp [h9, h4, small, show P1.length + P2.length ≤ 1000000 by omega, show P1.length + P2.length + 4 ≤ 1000000 by omega, show P1.length + (P2.length + 4) ≤ 1000000 by omega, pD, -List.map_append]
theorem swap_ok {n : Nat} (hn : n ≤ 6) {x0 x1 x2 x3 x5 x6 x7 x8 x9 x10 x11 x12 x13 x14 : Option Vl} :
    ev e10 b10x0 [x0, x1, x2, x3, some (.fz (.int n)), x5, x6, x7, x8, x9, x10, x11, x12, x13, x14, none, none, none] = some (.ls (((pairsOf n).map fun b => pD b.2 b.1).map .fz), [x0, x1, x2, x3, some (.fz (.int n)), x5, x6, x7, x8, x9, x10, x11, x12, x13, x14, none, none, none]) := by
  have h9 := f9_sp n hn
  have hl : ((pairsOf n).map barD).length ≤ 36 := by
    rw [List.length_map]
    have := pairsTo_len (n := n) (m := n) (Nat.le_refl _)
    have h2 : n * n ≤ 6 * 6 := Nat.mul_le_mul hn hn
    exact Nat.le_trans this h2
  have key := lc_mp (en := e10) (x := b10x0) rfl (fun z => match z with
      | .tuple [.int a, .int b] => pD b a
      | _ => .none) (ρ := [x0, x1, x2, x3, some (.fz (.int n)), x5, x6, x7, x8, x9, x10, x11, x12, x13, x14, none, none, none]) (ρ0 := [x0, x1, x2, x3, some (.fz (.int n)), x5, x6, x7, x8, x9, x10, x11, x12, x13, x14, none, none, none]) (ds := (pairsOf n).map barD) (by simp [h9]) (by omega) fun z hz => by
    obtain ⟨b, hb, rfl⟩ := List.mem_map.mp hz
    simp [small, barD, pD]
  rw [key]
  simp only [List.map_map]
  rfl
theorem pairs_ok {n : Nat} {bars : List (Nat × Nat)} (hF : FrOk n bars) {x0 x1 x2 x5 x7 x8 x9 x10 x11 x12 x13 x14 : Option Vl} :
    ∃ z8 z9 z10 z11 z12 z13 z14, evS e10 b10x3 [x0, x1, x2, some (.fz (frB n (bars.map barD))), some (.fz (.int n)), x5, some (.ls ((someL n).map .fz)), x7, x8, x9, x10, x11, x12, x13, x14, none, none, none] = some (.nx, [x0, x1, x2, some (.fz (frB n (bars.map barD))), some (.fz (.int n)), x5, some (.ls ((someL n).map .fz)), x7, z8, z9, z10, z11, z12, z13, z14, none, none, none]) := by
  have hn := hF.n6
  have hl : ((pairsOf n).map fun b => pD b.2 b.1).length ≤ 36 := by
    rw [List.length_map]
    have := pairsTo_len (n := n) (m := n) (Nat.le_refl _)
    have h2 : n * n ≤ 6 * 6 := Nat.mul_le_mul hn hn
    exact Nat.le_trans this h2
  have hs : (someL n).length ≤ 46 := by
    unfold someL
    have := pairsTo_len (n := n) (m := n) (Nat.le_refl _)
    have h2 : n * n ≤ 6 * 6 := Nat.mul_le_mul hn hn
    simp [pairsOf]
    omega
  have h0 := swap_ok (n := n) hn (x0 := x0) (x1 := x1) (x2 := x2) (x3 := some (.fz (frB n (bars.map barD)))) (x5 := x5) (x6 := some (.ls ((someL n).map .fz))) (x7 := x7) (x8 := x8) (x9 := x9) (x10 := x10) (x11 := x11) (x12 := x12) (x13 := x13) (x14 := x14)
  obtain ⟨ρ', e, z8, z9, z10, z11, z12, z13, z14, hρ⟩ := for_ix (en := e10) (x := b10x3) rfl (ρ := [x0, x1, x2, some (.fz (frB n (bars.map barD))), some (.fz (.int n)), x5, some (.ls ((someL n).map .fz)), x7, x8, x9, x10, x11, x12, x13, x14, none, none, none]) (ρ0 := [x0, x1, x2, some (.fz (frB n (bars.map barD))), some (.fz (.int n)), x5, some (.ls ((someL n).map .fz)), x7, x8, x9, x10, x11, x12, x13, x14, none, none, none]) (ds := someL n ++ (pairsOf n).map fun b => pD b.2 b.1) (by
      generalize someL n = P1 at *
      generalize (pairsOf n).map (fun b => pD b.2 b.1) = P2 at *
      generalize b10x0 = xx at *
      simp [h0, small, show P1.length + P2.length ≤ 1000000 by omega, -List.map_append])
    (fun k ρ => ∃ z8 z9 z10 z11 z12 z13 z14, ρ = [x0, x1, x2, some (.fz (frB n (bars.map barD))), some (.fz (.int n)), x5, some (.ls ((someL n).map .fz)), x7, z8, z9, z10, z11, z12, z13, z14, none, none, none]) ⟨_, _, _, _, _, _, _, rfl⟩ fun k d hd ρ ⟨z8, z9, z10, z11, z12, z13, z14, hρ⟩ => by
      subst hρ
      obtain ⟨u, v, rfl⟩ : ∃ u v : Int, d = pD u v := by
        rcases List.mem_append.mp (List.mem_of_getElem? hd) with h | h
        · exact someL_pd h
        · obtain ⟨b, _, rfl⟩ := List.mem_map.mp h
          exact ⟨_, _, rfl⟩
      obtain ⟨a10, a11, a12, a13, a14, q⟩ := pair_ok hF (x0 := x0) (x1 := x1) (x2 := x2) (x5 := x5) (x6 := some (.ls ((someL n).map .fz))) (x7 := x7) (x10 := z10) (x11 := z11) (x12 := z12) (x13 := z13) (x14 := z14) u v
      exact ⟨_, by simp [pD], _, q, rfl, _, _, _, _, _, _, _, rfl⟩
  exact ⟨z8, z9, z10, z11, z12, z13, z14, by rw [e, hρ]⟩
theorem body_ok {ns : List Int} {j : Nat} {x2 x3 x4 x5 x6 x7 x8 x9 x10 x11 x12 x13 x14 : Option Vl} (hn : ns.length ≤ 63) (hj : j ≤ 1000) :
    ∃ z2 z3 z4 z5 z6 z7 z8 z9 z10 z11 z12 z13 z14, evSs e10 b10x8 [some (.sc ns), some (.fz (.int j)), x2, x3, x4, x5, x6, x7, x8, x9, x10, x11, x12, x13, x14, none, none, none] = some (.nx, [some (.sc ns), some (.fz (.int j)), z2, z3, z4, z5, z6, z7, z8, z9, z10, z11, z12, z13, z14, none, none, none]) := by
  obtain ⟨a0, b0, e0, h0⟩ := f0_sp (ns := ns) (k := j) (by omega) (by omega) (by omega)
  obtain ⟨n, bars, a1, b1, e8, hF, hs, h1⟩ := f8_sp h0
  have hB : BOk (bars.map barD) := by
    have hn := hF.n6
    have hl := hF.len
    have tdB : ∀ z ∈ bars.map barD, TD 10 100 1 z := fun z hz => by
      obtain ⟨b, hb, rfl⟩ := List.mem_map.mp hz
      have := hF.lt b hb
      refine ⟨by simp, fun e he => ?_⟩
      simp only [List.mem_cons, List.not_mem_nil, or_false] at he
      rcases he with rfl | rfl
      · exact ⟨by omega, by omega⟩
      · exact ⟨by omega, by omega⟩
    exact ⟨by simpa using hl, (TD.all (B := 10) (L := 100) (D := 1) (by simp; omega) tdB).shaped (by decide), fun z hz => (tdB z hz).shaped (by decide)⟩
  obtain ⟨z5, z7, ej⟩ := joints_ok hF hs hB (x0 := some (.sc ns)) (x1 := some (.fz (.int j))) (x2 := some (.ls [.fz (.int a1), .fz (.int b1)])) (x5 := x5) (x6 := x6) (x7 := x7) (x8 := x8) (x9 := x9) (x10 := x10) (x11 := x11) (x12 := x12) (x13 := x13) (x14 := x14)
  have es := some_ok (n := n) (bars := bars) hF.n6 (x0 := some (.sc ns)) (x1 := some (.fz (.int j))) (x2 := some (.ls [.fz (.int a1), .fz (.int b1)])) (x5 := z5) (x6 := x6) (x7 := z7) (x8 := x8) (x9 := x9) (x10 := x10) (x11 := x11) (x12 := x12) (x13 := x13) (x14 := x14)
  obtain ⟨z8, z9, z10, z11, z12, z13, z14, ep⟩ := pairs_ok hF (x0 := some (.sc ns)) (x1 := some (.fz (.int j))) (x2 := some (.ls [.fz (.int a1), .fz (.int b1)])) (x5 := z5) (x7 := z7) (x8 := x8) (x9 := x9) (x10 := x10) (x11 := x11) (x12 := x12) (x13 := x13) (x14 := x14)
  have ef : frD n bars = frB n (bars.map barD) := rfl
  rw [ef] at e8
  generalize bars.map barD = B at *
  generalize someL n = SL at *
  have s0 : evS e10 (.set 2 (.op (.call 0) (.nm 0 (.nm 1 .nil)))) [some (.sc ns), some (.fz (.int j)), x2, x3, x4, x5, x6, x7, x8, x9, x10, x11, x12, x13, x14, none, none, none] = some (.nx, [some (.sc ns), some (.fz (.int j)), some (.ls [.fz (.int a0), .fz (.int b0)]), x3, x4, x5, x6, x7, x8, x9, x10, x11, x12, x13, x14, none, none, none]) := by
    simp [e0]
  have s1 : evS e10 (.set 3 (.op (.call 8) (.nm 2 .nil))) [some (.sc ns), some (.fz (.int j)), some (.ls [.fz (.int a0), .fz (.int b0)]), x3, x4, x5, x6, x7, x8, x9, x10, x11, x12, x13, x14, none, none, none] = some (.nx, [some (.sc ns), some (.fz (.int j)), some (.ls [.fz (.int a1), .fz (.int b1)]), some (.fz (frB n B)), x4, x5, x6, x7, x8, x9, x10, x11, x12, x13, x14, none, none, none]) := by
    simp [e8]
  have s2 : evS e10 (.set 4 (.op .ix (.nm 3 (.ex (.c (.int 0)) .nil)))) [some (.sc ns), some (.fz (.int j)), some (.ls [.fz (.int a1), .fz (.int b1)]), some (.fz (frB n B)), x4, x5, x6, x7, x8, x9, x10, x11, x12, x13, x14, none, none, none] = some (.nx, [some (.sc ns), some (.fz (.int j)), some (.ls [.fz (.int a1), .fz (.int b1)]), some (.fz (frB n B)), some (.fz (.int n)), x5, x6, x7, x8, x9, x10, x11, x12, x13, x14, none, none, none]) := by
    simp
  refine ⟨some (.ls [.fz (.int a1), .fz (.int b1)]), some (.fz (frB n B)), some (.fz (.int n)), z5, some (.ls (SL.map .fz)), z7, z8, z9, z10, z11, z12, z13, z14, ?_⟩
  unfold b10x8
  simp only [evSs]
  rw [seq_nx s0, seq_nx s1, seq_nx s2, seq_nx ej, seq_nx es, seq_nx ep]
  simp
theorem plain (ns : List Int) (hn : ns.length ≤ 63) : ∃ ys, f10 [.sc ns] = some (.fz (.bool true), ys) := by
  obtain ⟨y, ρ', e, x2, x3, x4, x5, x6, x7, x8, x9, x10, x11, x12, x13, x14, hρ⟩ := law_loop (en := e10) (x := b10x9) (body := b10x8) (N := 20) (ρ0 := [none, none, none, none, none, none, none, none, none, none, none, none, none, none, none, none]) rfl hn (fun ρ => ∃ x2 x3 x4 x5 x6 x7 x8 x9 x10 x11 x12 x13 x14, ρ = [x2, x3, x4, x5, x6, x7, x8, x9, x10, x11, x12, x13, x14, none, none, none]) ⟨_, _, _, _, _, _, _, _, _, _, _, _, _, rfl⟩ fun j ρ hj ⟨x2, x3, x4, x5, x6, x7, x8, x9, x10, x11, x12, x13, x14, h⟩ => by
    subst h
    obtain ⟨z2, z3, z4, z5, z6, z7, z8, z9, z10, z11, z12, z13, z14, e⟩ := body_ok (x2 := x2) (x3 := x3) (x4 := x4) (x5 := x5) (x6 := x6) (x7 := x7) (x8 := x8) (x9 := x9) (x10 := x10) (x11 := x11) (x12 := x12) (x13 := x13) (x14 := x14) hn hj
    exact ⟨_, _, e, _, _, _, _, _, _, _, _, _, _, _, _, _, rfl⟩
  subst hρ
  refine ⟨[.sc ns], ?_⟩
  have h5 := f5_ok (n := 1) (bars := []) (by simp) (fun j => by simp [nb]) 0
  have sn : SeqAt.shaped (.list []) = true := sh_nil
  have en : PyData.eqv (.list []) (.list []) = true := eqv_same sn
  have eh : frB 1 (([] : List (Nat × Nat)).map barD) = .tuple [.int 1, .tuple []] := rfl
  unfold f10 fnΦ b10
  generalize b10x9 = xx at *
  simp [e, small, nb] at h5 ⊢
  simp [h5, sn, en]
end K02
open PySem PySem.W PySem.Calls PyProof.Rows
theorem PySem.Challenge.cw_stayfast_k02_bars_more_and_less_holds : PySem.Challenge.rw_stayfast_k02_bars_more_and_less.Holds := by
  w_on; o_law
  refine HandSHeadRun.head_any (r := OpenLaw.row PySem.Challenge.rw_stayfast_k02_bars_more_and_less) (q := view (OpenLaw.row PySem.Challenge.rw_stayfast_k02_bars_more_and_less).prog [37]) (H := K02.hk) (ob := K02.ob) (M := 20000) (loose := K02.loose) (d := HandSHeadRun.topDef (OpenLaw.row PySem.Challenge.rw_stayfast_k02_bars_more_and_less).prog 37) (kwd := []) K02.ob_eq
    (by kernel_rfl) (fun s => by kernel_rfl) K02.run (by kernel_rfl) (by kernel_rfl) (by kernel_rfl) (by rfl) (by first | assumption | decide +kernel) (by decide +kernel) ⟨rfl, rfl, rfl, rfl, rfl, by decide +kernel⟩ ?hw ?hc
  case hw => w_witness2
  case hc =>
    refine LamX.walk_ofTsE (l := PySem.Challenge.rw_stayfast_k02_bars_more_and_less) (n := 63) (k := 26) (x := "script") (CX := fun _ => L2.CX0) rfl (by decide) (by kernel_rfl) ⟨rfl, by decide, by decide⟩ ?F (fun _ _ _ _ _ z => z)
    intro w mg fa h Y G hmg0
    obtain ⟨K, KX, c⟩ := Y
    have hmg : mg ("law" : PySem.Str) = some (.ref fa) := by
      have e : (HandSHeadRun.topDef (OpenLaw.row PySem.Challenge.rw_stayfast_k02_bars_more_and_less).prog 37).name = ("law" : PySem.Str) := by kernel_rfl
      rw [← e]
      exact hmg0
    obtain ⟨fd, hb, hF⟩ := K02.facts (P := (PySem.Challenge.rw_stayfast_k02_bars_more_and_less).prog) (w := w) KX G hmg c
    have one : ∀ p ∈ [He.cT K (("law" : PySem.Str), none)], p = He.cT K ("law", none) := fun p hp => List.mem_singleton.mp hp
    exact ⟨K, KX, fd, [He.cT K ("law", none)], @MP.spOf (⟨[((He.cT K ("law", none)).2, MP.lamQ "law" (L2.defScope K02.s10))]⟩ : MP.LamT) K K02.f10, fun p hp => by rw [one p hp]; exact c.empty _ (List.mem_singleton.mpr rfl), fun p hp => by rw [one p hp]; exact c.out _ (List.mem_singleton.mpr rfl), fun p hp => by rw [one p hp]; exact PySem.W.codeHd_of_K KX (c.hd _ (List.mem_singleton.mpr rfl)), hb,
      fun H a ns hl _ hT hS => @MP.law_spT (⟨[((He.cT K ("law", none)).2, MP.lamQ "law" (L2.defScope K02.s10))]⟩ : MP.LamT) _ _ _ K02.plain H a ns hl (fun p hp => by rw [List.mem_singleton.mp hp]; exact hT _ (List.mem_singleton.mpr rfl)) hS, fun base hK hns hTB => hF base hK hns (hTB _ (List.mem_singleton.mpr rfl))⟩

