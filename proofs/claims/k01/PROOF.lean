import PyProof.Rows.All
import Wide.All
import OpenK.AllK
import Wide.FinOn
import HandS.ForMost
import HandS.ForExc
import HandS.Defaults
import HandS.CallSlots
import HandS.TupAny
import HandS.IsInst
import HandS.DictEq
import HandS.Small
import HandS.Deep
import HandS.Text
import HandS.Comp
import HandS.Iter
import HandS.RaiseMore
import PyProof.ReprRoads
import HandS.Style
import KE.KStateDown
import Lean
import HandS.Base
import HandS.Call
import HandS.Ends
import HandS.More
import HandS.Words
import HandS.WordsExc
import HandS.Head0
import HandS.Head1
import HandS.Head2
import HandS.HeadEnd
import HandS.HeadHook1
import HandS.HeadHook2
import HandS.EndBits
import PySem.Challenge.RW_lastturn_k01_names_and_constants
set_option Elab.async false
set_option linter.all false
set_option maxRecDepth 100000
set_option maxHeartbeats 4000000
namespace VL
open PySem PySem.Spec PyProof.Rows L2

/-- frozen data -/
inductive D where
  | non | bl (b : Bool) | int (i : Int) | str (x : Str) | ty (n : String) | gl (a : Addr)
  | tup (xs : List D) | lst (xs : List D) | dct (kvs : List (Key × D)) | dcT (kvs : List (List Key × D)) | ins (c : Str) (fs : List (Str × D)) | scr (ns : List Int) | kt (xs : List D)
/-- data whose containers are owned by one name, down to frozen parts -/
inductive T where
  | fz (d : D) | tup (xs : List T) | lst (xs : List T) | dct (kvs : List (Key × T)) | dcT (kvs : List (List Key × T)) | ins (c : Str) (fs : List (Str × T))

mutual
@[simp] def frz : T → D
  | .fz d => d
  | .tup xs => .tup (frzL xs)
  | .lst xs => .lst (frzL xs)
  | .dct kvs => .dct (frzK kvs)
  | .dcT kvs => .dcT (frzQ kvs)
  | .ins c fs => .ins c (frzF fs)
@[simp] def frzL : List T → List D
  | [] => []
  | t :: ts => frz t :: frzL ts
@[simp] def frzK : List (Key × T) → List (Key × D)
  | [] => []
  | (k, t) :: r => (k, frz t) :: frzK r
@[simp] def frzQ : List (List Key × T) → List (List Key × D)
  | [] => []
  | (k, t) :: r => (k, frz t) :: frzQ r
@[simp] def frzF : List (Str × T) → List (Str × D)
  | [] => []
  | (k, t) :: r => (k, frz t) :: frzF r
end
theorem frzL_map : ∀ ts, frzL ts = ts.map frz
  | [] => by simp [frzL]
  | t :: ts => by simp [frzL, frzL_map ts]
theorem frzK_map : ∀ ts, frzK ts = ts.map fun p => (p.1, frz p.2)
  | [] => by simp [frzK]
  | (k, t) :: ts => by simp [frzK, frzK_map ts]
theorem frzQ_map : ∀ ts, frzQ ts = ts.map fun p => (p.1, frz p.2)
  | [] => by simp [frzQ]
  | (k, t) :: ts => by simp [frzQ, frzQ_map ts]
theorem frzF_map : ∀ ts, frzF ts = ts.map fun p => (p.1, frz p.2)
  | [] => by simp [frzF]
  | (k, t) :: ts => by simp [frzF, frzF_map ts]
theorem frzL_fz : ∀ ds : List D, frzL (ds.map T.fz) = ds
  | [] => rfl
  | d :: ds => by simp [frzL, frz, frzL_fz ds]

abbrev PA1 := Addr → Prop
def Dis (S R : PA1) : Prop := ∀ a, S a → R a → False
def Uni (S R : PA1) : PA1 := fun a => S a ∨ R a
def KT (K : PySem.W.Frag) (a : Addr) (xs : List V) : Prop :=
  ∃ (o : Obj) (its : Array Value) (n : Nat), K.lookup a = some o ∧ o.cls = .type "tuple" ∧ o.data = .seq its n ∧ its.size ≤ sizeLine ∧ Vals xs its.toList
def KL (K : PySem.W.Frag) (a : Addr) (xs : List V) : Prop :=
  ∃ (o : Obj) (its : Array Value) (n : Nat), K.lookup a = some o ∧ o.cls = .type "list" ∧ o.dict = none ∧ o.data = .seq its n ∧ its.size ≤ sizeLine ∧ Vals xs its.toList

/-- what may be locked for the time of a walk -/
def soft : HO → Bool
  | .dK _ => true
  | .dT _ => true
  | .frz _ (.dK _) => true
  | .frz _ (.dT _) => true
  | _ => false
structure Kept (H H' : Hp) (a : Addr) : Prop where
  ex : ∀ u, soft u = false → H a = some u → H' a = some u
  dk : ∀ kvs, Rd H a (.dK kvs) → Rd H' a (.dK kvs)
  dt : ∀ kvs, Rd H a (.dT kvs) → Rd H' a (.dT kvs)
theorem Kept.of {H H' : Hp} {a : Addr} (h : ∀ u, H a = some u → H' a = some u) : Kept H H' a :=
  ⟨fun u _ e => h u e, fun _ r => r.imp (h _) fun ⟨o, r⟩ => ⟨o, h _ r⟩, fun _ r => r.imp (h _) fun ⟨o, r⟩ => ⟨o, h _ r⟩⟩
theorem Kept.refl {H : Hp} {a : Addr} : Kept H H a := .of fun _ e => e
section
variable (K : PySem.W.Frag) (cl : Str → Addr) (H : Hp) (Z : PA1)
mutual
inductive Rp : D → V → Prop
  | non : Rp .non .non
  | bl (b) : Rp (.bl b) (.bl b)
  | int (i) : Rp (.int i) (.int i)
  | str (x) : Rp (.str x) (.str x)
  | ty (n) : Rp (.ty n) (.ty n)
  | gl (a) : Rp (.gl a) (.ref a)
  | scr {a ns} : (KL K a (ns.map V.int) ∨ Z a ∧ ∃ o, H a = some (.frz o (.lst (ns.map V.int)))) → Rp (.scr ns) (.ref a)
  | kt {a vs xs} : KT K a vs → RpL xs vs → Rp (.kt xs) (.ref a)
  | tup {a vs xs} : Z a → H a = some (.tup vs) → RpL xs vs → Rp (.tup xs) (.ref a)
  | lst {a vs xs} : Z a → H a = some (.lst vs) → RpL xs vs → Rp (.lst xs) (.ref a)
  | dct {a kvs ds} : Z a → Rd H a (.dK kvs) → ds.map (·.1) = kvs.map (·.1) → RpL (ds.map (·.2)) (kvs.map (·.2)) → Rp (.dct ds) (.ref a)
  | dcT {a kvs ds} : Z a → Rd H a (.dT kvs) → ds.map (·.1) = kvs.map (·.1) → RpL (ds.map (·.2)) (kvs.map (·.2)) → Rp (.dcT ds) (.ref a)
  | ins {a c dx fvs fs} : Z a → H a = some (.ins (cl c) dx fvs) → fs.map (·.1) = fvs.map (·.1) → RpL (fs.map (·.2)) (fvs.map (·.2)) → Rp (.ins c fs) (.ref a)
inductive RpL : List D → List V → Prop
  | nil : RpL [] []
  | cons {d v ds vs} : Rp d v → RpL ds vs → RpL (d :: ds) (v :: vs)
end
mutual
inductive Own : T → V → PA1 → Prop
  | fz {d v S} : Rp K cl H Z d v → Own (.fz d) v S
  | tup {a vs ts} {S R : PA1} : H a = some (.tup vs) → S a → (∀ b, R b → S b ∧ b ≠ a) → OwnL ts vs R → Own (.tup ts) (.ref a) S
  | lst {a vs ts} {S R : PA1} : H a = some (.lst vs) → S a → (∀ b, R b → S b ∧ b ≠ a) → OwnL ts vs R → Own (.lst ts) (.ref a) S
  | dct {a kvs ks} {S R : PA1} : H a = some (.dK kvs) → S a → (∀ b, R b → S b ∧ b ≠ a) → ks.map (·.1) = kvs.map (·.1) → OwnL (ks.map (·.2)) (kvs.map (·.2)) R → Own (.dct ks) (.ref a) S
  | dcT {a kvs ks} {S R : PA1} : H a = some (.dT kvs) → S a → (∀ b, R b → S b ∧ b ≠ a) → ks.map (·.1) = kvs.map (·.1) → OwnL (ks.map (·.2)) (kvs.map (·.2)) R → Own (.dcT ks) (.ref a) S
  | ins {a c dx fvs fs} {S R : PA1} : H a = some (.ins (cl c) dx fvs) → S a → (∀ b, R b → S b ∧ b ≠ a) → fs.map (·.1) = fvs.map (·.1) → OwnL (fs.map (·.2)) (fvs.map (·.2)) R → Own (.ins c fs) (.ref a) S
inductive OwnL : List T → List V → PA1 → Prop
  | nil {S} : OwnL [] [] S
  | cons {t v ts vs} {S S1 S2 : PA1} : Own t v S1 → OwnL ts vs S2 → (∀ a, S1 a → S a) → (∀ a, S2 a → S a) → Dis S1 S2 → OwnL (t :: ts) (v :: vs) S
end
end

section
variable {K : PySem.W.Frag} {cl : Str → Addr} {H H' : Hp} {Z Z' : PA1}
theorem RpL.len : ∀ {ds vs}, RpL K cl H Z ds vs → ds.length = vs.length
  | _, _, .nil => rfl
  | _, _, .cons _ r => by simp [RpL.len r]
theorem OwnL.len : ∀ {ts vs S}, OwnL K cl H Z ts vs S → ts.length = vs.length
  | _, _, _, .nil => rfl
  | _, _, _, .cons _ r _ _ _ => by simp [OwnL.len r]
mutual
theorem Rp.mono (hz : ∀ a, Z a → Z' a) (hr : ∀ a, Z a → Kept H H' a) : ∀ {d v}, Rp K cl H Z d v → Rp K cl H' Z' d v
  | _, _, .non => .non
  | _, _, .bl b => .bl b
  | _, _, .int i => .int i
  | _, _, .str x => .str x
  | _, _, .ty n => .ty n
  | _, _, .gl a => .gl a
  | _, _, .scr h => .scr (h.imp id fun ⟨h1, o, h2⟩ => ⟨hz _ h1, o, (hr _ h1).ex _ rfl h2⟩)
  | _, _, .kt h r => .kt h (RpL.mono hz hr r)
  | _, _, .tup h1 h2 r => .tup (hz _ h1) ((hr _ h1).ex _ rfl h2) (RpL.mono hz hr r)
  | _, _, .lst h1 h2 r => .lst (hz _ h1) ((hr _ h1).ex _ rfl h2) (RpL.mono hz hr r)
  | _, _, .dct h1 h2 h3 r => .dct (hz _ h1) ((hr _ h1).dk _ h2) h3 (RpL.mono hz hr r)
  | _, _, .dcT h1 h2 h3 r => .dcT (hz _ h1) ((hr _ h1).dt _ h2) h3 (RpL.mono hz hr r)
  | _, _, .ins h1 h2 h3 r => .ins (hz _ h1) ((hr _ h1).ex _ rfl h2) h3 (RpL.mono hz hr r)
theorem RpL.mono (hz : ∀ a, Z a → Z' a) (hr : ∀ a, Z a → Kept H H' a) : ∀ {ds vs}, RpL K cl H Z ds vs → RpL K cl H' Z' ds vs
  | _, _, .nil => .nil
  | _, _, .cons h r => .cons (Rp.mono hz hr h) (RpL.mono hz hr r)
end
mutual
theorem Own.mono (hz : ∀ a, Z a → Z' a) (hr : ∀ a, Z a → Kept H H' a) : ∀ {t v S}, (∀ a o, S a → H a = some o → H' a = some o) → Own K cl H Z t v S → Own K cl H' Z' t v S
  | _, _, _, _, .fz h => .fz (h.mono hz hr)
  | _, _, _, hs, .tup h1 h2 h3 r => .tup (hs _ _ h2 h1) h2 h3 (OwnL.mono hz hr (fun a o q => hs a o (h3 a q).1) r)
  | _, _, _, hs, .lst h1 h2 h3 r => .lst (hs _ _ h2 h1) h2 h3 (OwnL.mono hz hr (fun a o q => hs a o (h3 a q).1) r)
  | _, _, _, hs, .dct h1 h2 h3 h4 r => .dct (hs _ _ h2 h1) h2 h3 h4 (OwnL.mono hz hr (fun a o q => hs a o (h3 a q).1) r)
  | _, _, _, hs, .dcT h1 h2 h3 h4 r => .dcT (hs _ _ h2 h1) h2 h3 h4 (OwnL.mono hz hr (fun a o q => hs a o (h3 a q).1) r)
  | _, _, _, hs, .ins h1 h2 h3 h4 r => .ins (hs _ _ h2 h1) h2 h3 h4 (OwnL.mono hz hr (fun a o q => hs a o (h3 a q).1) r)
theorem OwnL.mono (hz : ∀ a, Z a → Z' a) (hr : ∀ a, Z a → Kept H H' a) : ∀ {ts vs S}, (∀ a o, S a → H a = some o → H' a = some o) → OwnL K cl H Z ts vs S → OwnL K cl H' Z' ts vs S
  | _, _, _, _, .nil => .nil
  | _, _, _, hs, .cons h r a1 a2 d => .cons (Own.mono hz hr (fun a o q => hs a o (a1 a q)) h) (OwnL.mono hz hr (fun a o q => hs a o (a2 a q)) r) a1 a2 d
end
theorem Own.up {t v} {S R : PA1} (h : Own K cl H Z t v S) (u : ∀ a, S a → R a) : Own K cl H Z t v R := by
  cases h with
  | fz h => exact .fz h
  | tup h1 h2 h3 r => exact .tup h1 (u _ h2) (fun b q => ⟨u _ (h3 b q).1, (h3 b q).2⟩) r
  | lst h1 h2 h3 r => exact .lst h1 (u _ h2) (fun b q => ⟨u _ (h3 b q).1, (h3 b q).2⟩) r
  | dct h1 h2 h3 h4 r => exact .dct h1 (u _ h2) (fun b q => ⟨u _ (h3 b q).1, (h3 b q).2⟩) h4 r
  | dcT h1 h2 h3 h4 r => exact .dcT h1 (u _ h2) (fun b q => ⟨u _ (h3 b q).1, (h3 b q).2⟩) h4 r
  | ins h1 h2 h3 h4 r => exact .ins h1 (u _ h2) (fun b q => ⟨u _ (h3 b q).1, (h3 b q).2⟩) h4 r
theorem OwnL.up {ts vs} {S R : PA1} (h : OwnL K cl H Z ts vs S) (u : ∀ a, S a → R a) : OwnL K cl H Z ts vs R := by
  cases h with
  | nil => exact .nil
  | cons h r a1 a2 d => exact .cons h r (fun a q => u a (a1 a q)) (fun a q => u a (a2 a q)) d
theorem frzK_keys (ks : List (Key × T)) : (frzK ks).map (·.1) = ks.map (·.1) ∧ (frzK ks).map (·.2) = frzL (ks.map (·.2)) := by
  rw [frzK_map, frzL_map]; simp
theorem frzQ_keys (ks : List (List Key × T)) : (frzQ ks).map (·.1) = ks.map (·.1) ∧ (frzQ ks).map (·.2) = frzL (ks.map (·.2)) := by
  rw [frzQ_map, frzL_map]; simp
theorem frzF_keys (ks : List (Str × T)) : (frzF ks).map (·.1) = ks.map (·.1) ∧ (frzF ks).map (·.2) = frzL (ks.map (·.2)) := by
  rw [frzF_map, frzL_map]; simp
/-! frozen: what was owned is frozen from now on -/
mutual
theorem Own.frz : ∀ {t v S}, (∀ a, Z a → Z' a) → (∀ a, S a → Z' a) → Own K cl H Z t v S → Rp K cl H Z' (frz t) v
  | _, _, _, hz, _, .fz h => by rw [VL.frz]; exact h.mono hz fun _ _ => .refl
  | _, _, _, hz, hs, .tup h1 h2 h3 r => by rw [VL.frz]; exact .tup (hs _ h2) h1 (OwnL.frz hz (fun a q => hs a (h3 a q).1) r)
  | _, _, _, hz, hs, .lst h1 h2 h3 r => by rw [VL.frz]; exact .lst (hs _ h2) h1 (OwnL.frz hz (fun a q => hs a (h3 a q).1) r)
  | _, _, _, hz, hs, .dct h1 h2 h3 h4 r => by rw [VL.frz]; exact .dct (hs _ h2) (.inl h1) ((frzK_keys _).1.trans h4) (by rw [(frzK_keys _).2]; exact OwnL.frz hz (fun a q => hs a (h3 a q).1) r)
  | _, _, _, hz, hs, .dcT h1 h2 h3 h4 r => by rw [VL.frz]; exact .dcT (hs _ h2) (.inl h1) ((frzQ_keys _).1.trans h4) (by rw [(frzQ_keys _).2]; exact OwnL.frz hz (fun a q => hs a (h3 a q).1) r)
  | _, _, _, hz, hs, .ins h1 h2 h3 h4 r => by rw [VL.frz]; exact .ins (hs _ h2) h1 ((frzF_keys _).1.trans h4) (by rw [(frzF_keys _).2]; exact OwnL.frz hz (fun a q => hs a (h3 a q).1) r)
theorem OwnL.frz : ∀ {ts vs S}, (∀ a, Z a → Z' a) → (∀ a, S a → Z' a) → OwnL K cl H Z ts vs S → RpL K cl H Z' (frzL ts) vs
  | _, _, _, _, _, .nil => by rw [frzL]; exact .nil
  | _, _, _, hz, hs, .cons h r a1 a2 d => by rw [frzL]; exact .cons (Own.frz hz (fun a q => hs a (a1 a q)) h) (OwnL.frz hz (fun a q => hs a (a2 a q)) r)
end

/-! ### the frame's names -/
abbrev En := List (Option T)
end
section
variable (K : PySem.W.Frag) (cl : Str → Addr) (H : Hp) (Z : PA1)
inductive OwnE : En → L2.St → PA1 → Prop
  | nl {S} : OwnE [] [] S
  | no {x E σ S} : OwnE E σ S → OwnE (none :: E) (x :: σ) S
  | so {t v E σ} {S S1 S2 : PA1} : Own K cl H Z t v S1 → OwnE E σ S2 → (∀ a, S1 a → S a) → (∀ a, S2 a → S a) → Dis S1 S2 → OwnE (some t :: E) (some v :: σ) S
end
section
variable {K : PySem.W.Frag} {cl : Str → Addr} {H H' : Hp} {Z Z' : PA1}
theorem OwnE.mono (hz : ∀ a, Z a → Z' a) (hr : ∀ a, Z a → Kept H H' a) : ∀ {E : En} {σ : L2.St} {S}, (∀ a o, S a → H a = some o → H' a = some o) → OwnE K cl H Z E σ S → OwnE K cl H' Z' E σ S
  | _, _, _, _, .nl => .nl
  | _, _, _, hs, .no r => .no (OwnE.mono hz hr hs r)
  | _, _, _, hs, .so h r a1 a2 d => .so (Own.mono hz hr (fun a o q => hs a o (a1 a q)) h) (OwnE.mono hz hr (fun a o q => hs a o (a2 a q)) r) a1 a2 d
theorem OwnE.up {E : En} {σ : L2.St} {S R : PA1} (h : OwnE K cl H Z E σ S) (u : ∀ a, S a → R a) : OwnE K cl H Z E σ R := by
  induction h generalizing R with
  | nl => exact .nl
  | no r ih => exact .no (ih u)
  | so h r a1 a2 d ih => exact .so h r (fun a q => u a (a1 a q)) (fun a q => u a (a2 a q)) d
theorem OwnE.len : ∀ {E : En} {σ : L2.St} {S}, OwnE K cl H Z E σ S → E.length = σ.length
  | _, _, _, .nl => rfl
  | _, _, _, .no r => by simp [OwnE.len r]
  | _, _, _, .so _ r _ _ _ => by simp [OwnE.len r]
/-- one name taken out -/
theorem OwnE.take : ∀ {E : En} {σ : L2.St} {S : PA1} {i : Nat} {t}, OwnE K cl H Z E σ S → E[i]? = some (some t) →
    ∃ v, ∃ Si Sr : PA1, σ[i]? = some (some v) ∧ Own K cl H Z t v Si ∧ OwnE K cl H Z (E.set i none) σ Sr ∧ Dis Si Sr ∧ (∀ a, Si a → S a) ∧ (∀ a, Sr a → S a)
  | _, _, _, i, _, .nl, h => by simp at h
  | _, _, _, 0, _, .no r, h => by simp at h
  | _, _, _, i + 1, _, .no r, h => by
    obtain ⟨v, Si, Sr, h1, h2, h3, h4, h5, h6⟩ := OwnE.take r (by simpa using h)
    exact ⟨v, Si, Sr, by simpa using h1, h2, .no h3, h4, h5, h6⟩
  | _, _, _, 0, _, .so (S1 := S1) (S2 := S2) q r a1 a2 d, h => by
    simp at h; subst h
    exact ⟨_, S1, S2, by simp, q, .no r, d, a1, a2⟩
  | _, _, S, i + 1, _, .so (S1 := S1) (S2 := S2) q r a1 a2 d, h => by
    obtain ⟨v, Si, Sr, h1, h2, h3, h4, h5, h6⟩ := OwnE.take r (by simpa using h)
    refine ⟨v, Si, Uni S1 Sr, by simpa using h1, h2, .so q h3 (fun _ z => .inl z) (fun _ z => .inr z) (fun a z1 z2 => d a z1 (h6 a z2)), fun a z1 z2 => ?_, fun a z => a2 a (h5 a z), fun a z => z.elim (a1 a) fun z => a2 a (h6 a z)⟩
    rcases z2 with z2 | z2
    · exact d a z2 (h5 a z1)
    · exact h4 a z1 z2
/-- one name put in -/
theorem OwnE.put : ∀ {E : En} {σ : L2.St} {Sr : PA1} {i : Nat} {t v} {Si : PA1}, OwnE K cl H Z (E.set i none) σ Sr → i < E.length → Own K cl H Z t v Si → Dis Si Sr →
    OwnE K cl H Z (E.set i (some t)) (σ.set i (some v)) (Uni Si Sr)
  | [], _, _, i, _, _, _, _, h, _, _ => by simp at h
  | e :: E, σ, Sr, 0, t, v, Si, r, _, q, d => by
    simp only [List.set_cons_zero] at r ⊢
    cases r with
    | no r => exact .so q r (fun _ z => .inl z) (fun _ z => .inr z) d
  | e :: E, σ, Sr, i + 1, t, v, Si, r, h, q, d => by
    simp only [List.set_cons_succ] at r ⊢
    cases r with
    | no r =>
      simp only [List.set_cons_succ]
      exact .no (OwnE.put r (by simpa using h) q d)
    | @so _ _ _ _ S1 S2 _ q' r a1 a2 d' =>
      simp only [List.set_cons_succ]
      refine .so q' (OwnE.put r (by simpa using h) q fun a z1 z2 => d a z1 (a2 a z2)) (fun a z => .inr (a1 a z)) (fun a z => z.elim .inl fun z => .inr (a2 a z)) fun a z1 z2 => ?_
      rcases z2 with z2 | z2
      · exact d a z2 (a1 a z1)
      · exact d' a z1 z2
theorem OwnE.drop : ∀ {E : En} {σ : L2.St} {S : PA1} (i : Nat), OwnE K cl H Z E σ S → OwnE K cl H Z (E.set i none) σ S
  | _, _, _, _, .nl => by simp; exact .nl
  | _, _, _, 0, .no r => by simp; exact .no r
  | _, _, _, i + 1, .no r => by simp; exact .no (OwnE.drop i r)
  | _, _, _, 0, .so q r a1 a2 d => by simp; exact .no (r.up a2)
  | _, _, _, i + 1, .so q r a1 a2 d => by simp; exact .so q (OwnE.drop i r) a1 a2 d
/-- a slot whose value is not known may hold anything -/
theorem OwnE.any : ∀ {E : En} {σ : L2.St} {S : PA1} (i : Nat) (x : Option V), OwnE K cl H Z (E.set i none) σ S → OwnE K cl H Z (E.set i none) (σ.set i x) S
  | [], _, _, _, _, r => by simp at r ⊢; cases r; simp; exact .nl
  | e :: E, _, _, 0, _, r => by simp at r ⊢; cases r with | no r => simp; exact .no r
  | e :: E, _, _, i + 1, _, r => by
    simp at r ⊢
    cases r with
    | no r => simp; exact .no (OwnE.any i _ r)
    | so q r a1 a2 d => simp; exact .so q (OwnE.any i _ r) a1 a2 d

/-! ### steps of the heap -/
structure Okk (H : Hp) (Z S : PA1) : Prop where
  dis : Dis S Z
  sa : ∀ a, S a → H a ≠ none
  za : ∀ a, Z a → H a ≠ none
structure Step (H : Hp) (Z S : PA1) (H' : Hp) (Z' S' : PA1) : Prop where
  zz : ∀ a, Z a → Z' a
  zn : ∀ a, Z' a → Z a ∨ S a ∨ H a = none
  sn : ∀ a, S' a → S a ∨ H a = none
  kp : ∀ a o, H a = some o → ¬ S a → H' a = some o
  al : ∀ a, H a ≠ none → H' a ≠ none
theorem Step.refl {S : PA1} : Step H Z S H Z S := ⟨fun _ z => z, fun _ z => .inl z, fun _ z => .inl z, fun _ _ e _ => e, fun _ z => z⟩
theorem Step.trans {H1 H2 : Hp} {Z1 Z2 S S1 S2 : PA1} (a : Step H Z S H1 Z1 S1) (b : Step H1 Z1 S1 H2 Z2 S2) : Step H Z S H2 Z2 S2 where
  zz := fun x z => b.zz x (a.zz x z)
  zn := fun x z => by
    rcases b.zn x z with z | z | z
    · exact a.zn x z
    · exact .inr (a.sn x z)
    · refine .inr (.inr ?_)
      cases e : H x with
      | none => rfl
      | some o => exact absurd z (a.al x (by rw [e]; simp))
  sn := fun x z => by
    rcases b.sn x z with z | z
    · exact a.sn x z
    · refine .inr ?_
      cases e : H x with
      | none => rfl
      | some o => exact absurd z (a.al x (by rw [e]; simp))
  kp := fun x o e n => b.kp x o (a.kp x o e n) fun z => by
    rcases a.sn x z with z | z
    · exact n z
    · rw [e] at z; cases z
  al := fun x z => b.al x (a.al x z)
/-- less is owned behind -/
theorem Step.less {Z1 S S1 S2 : PA1} {H1 : Hp} (a : Step H Z S H1 Z1 S1) (h : ∀ x, S2 x → S1 x) : Step H Z S H1 Z1 S2 := ⟨a.zz, a.zn, fun x z => a.sn x (h x z), a.kp, a.al⟩
theorem Okk.less {S R : PA1} (a : Okk H Z S) (h : ∀ x, R x → S x) : Okk H Z R := ⟨fun x z => a.dis x (h x z), fun x z => a.sa x (h x z), a.za⟩
/-- beside something that is held -/
theorem Step.frame {H1 : Hp} {Z1 S S1 R : PA1} (a : Step H Z S H1 Z1 S1) : Step H Z (Uni R S) H1 Z1 (Uni R S1) :=
  ⟨a.zz, fun x z => (a.zn x z).imp id fun z => z.imp .inr id, fun x z => z.elim (fun z => .inl (.inl z)) fun z => (a.sn x z).imp .inr id, fun x o e n => a.kp x o e fun z => n (.inr z), a.al⟩
/-- more might have been changed -/
theorem Step.more {H1 : Hp} {Z1 S S1 R : PA1} (a : Step H Z S H1 Z1 S1) (h : ∀ x, S x → R x) : Step H Z R H1 Z1 S1 :=
  ⟨a.zz, fun x z => (a.zn x z).imp id fun z => z.imp (h x) id, fun x z => (a.sn x z).imp (h x) id, fun x o e n => a.kp x o e fun z => n (h x z), a.al⟩
theorem Step.okk {H1 : Hp} {Z1 S S1 R : PA1} (a : Step H Z S H1 Z1 S1) (o : Okk H Z (Uni R S)) (o1 : Okk H1 Z1 S1) (d : Dis R S) : Okk H1 Z1 (Uni R S1) where
  dis := fun x z y => by
    rcases z with z | z
    · rcases a.zn x y with q | q | q
      · exact o.dis x (.inl z) q
      · exact d x z q
      · exact o.sa x (.inl z) q
    · exact o1.dis x z y
  sa := fun x z => z.elim (fun z => a.al x (o.sa x (.inl z))) (o1.sa x)
  za := o1.za
theorem Step.dis {H1 : Hp} {Z1 S S1 R : PA1} (a : Step H Z S H1 Z1 S1) (o : ∀ x, R x → H x ≠ none) (d : Dis R S) : Dis R S1 := fun x z y => by
  rcases a.sn x y with q | q
  · exact d x z q
  · exact o x z q
/-- what a step keeps of held things -/
theorem Step.rd {H1 : Hp} {Z1 S S1 : PA1} (a : Step H Z S H1 Z1 S1) (o : Dis S Z) : ∀ x, Z x → Kept H H1 x := fun x z => .of fun u e => a.kp x u e fun q => o x q z
theorem Step.own {H1 : Hp} {Z1 S S1 R : PA1} {t v} (a : Step H Z S H1 Z1 S1) (o : Dis S Z) (d : Dis R S) (h : Own K cl H Z t v R) : Own K cl H1 Z1 t v R :=
  h.mono a.zz (a.rd o) fun x u z e => a.kp x u e fun q => d x z q
theorem Step.ownL {H1 : Hp} {Z1 S S1 R : PA1} {ts vs} (a : Step H Z S H1 Z1 S1) (o : Dis S Z) (d : Dis R S) (h : OwnL K cl H Z ts vs R) : OwnL K cl H1 Z1 ts vs R :=
  h.mono a.zz (a.rd o) fun x u z e => a.kp x u e fun q => d x z q
theorem Step.ownE {H1 : Hp} {Z1 S S1 R : PA1} {E σ} (a : Step H Z S H1 Z1 S1) (o : Dis S Z) (d : Dis R S) (h : OwnE K cl H Z E σ R) : OwnE K cl H1 Z1 E σ R :=
  h.mono a.zz (a.rd o) fun x u z e => a.kp x u e fun q => d x z q
theorem Step.rp {H1 : Hp} {Z1 S S1 : PA1} {d v} (a : Step H Z S H1 Z1 S1) (o : Dis S Z) (h : Rp K cl H Z d v) : Rp K cl H1 Z1 d v := h.mono a.zz (a.rd o)
end
end VL

namespace VL
open PySem PySem.Spec PyProof.Rows L2

/-- an exception: its class, its fields -/
structure Exn where
  c : Str
  fs : List (Str × D)
inductive Out (α : Type) where
  | ok (a : α) (E : En) | ex (x : Exn) (E : En)
abbrev Ev (α : Type) := En → Option (Out α)
def bnd {α β : Type} (r : Option (Out α)) (f : α → En → Option (Out β)) : Option (Out β) :=
  match r with
  | none => none
  | some (.ok a E) => f a E
  | some (.ex x E) => some (.ex x E)
@[simp] theorem bnd_none {α β : Type} (f : α → En → Option (Out β)) : bnd none f = none := rfl
@[simp] theorem bnd_ok {α β : Type} (a : α) (E : En) (f : α → En → Option (Out β)) : bnd (some (.ok a E)) f = f a E := rfl
@[simp] theorem bnd_ex {α β : Type} (x : Exn) (E : En) (f : α → En → Option (Out β)) : bnd (some (.ex x E)) f = some (.ex x E) := rfl
def opt {α : Type} (o : Option α) (E : En) : Option (Out α) := match o with | none => none | some a => some (.ok a E)
@[simp] theorem opt_none {α : Type} (E : En) : opt (none : Option α) E = none := rfl
@[simp] theorem opt_some {α : Type} (a : α) (E : En) : opt (some a) E = some (.ok a E) := rfl

abbrev Emp : PA1 := fun _ => False
def ExR (K : PySem.W.Frag) (cl : Str → Addr) (H : Hp) (Z : PA1) (x : Exn) (c : Value) (d : Option Addr) : Prop :=
  c = .ref (cl x.c) ∧ ((x.fs = [] ∧ d = none) ∨ ∃ da fv, d = some da ∧ Z da ∧ H da = some (.xd fv) ∧ x.fs.map (·.1) = fv.map (·.1) ∧ RpL K cl H Z (x.fs.map (·.2)) (fv.map (·.2)))

section
variable (K : PySem.W.Frag) (cl : Str → Addr) (W : WX) (σ : L2.St) (H : Hp) (Z S : PA1)
/-- an exception's way out -/
def SatX (x : Exn) (E' : En) : Prop := ∀ c d H' Z' (S' : PA1), OwnE K cl H' Z' E' σ S' → ExR K cl H' Z' x c d → Step H Z S H' Z' S' → Okk H' Z' S' → W c d σ H'
def SatV (Q : VK) : Option (Out T) → Prop
  | none => False
  | some (.ok r E') => ∀ v H' Z' (Sr S' : PA1), OwnE K cl H' Z' E' σ S' → Own K cl H' Z' r v Sr → Dis Sr S' → Step H Z S H' Z' (Uni Sr S') → Okk H' Z' (Uni Sr S') → Q v H'
  | some (.ex x E') => SatX K cl W σ H Z S x E'
def SatD (Q : VK) : Option (Out T) → Prop
  | none => False
  | some (.ok r E') => ∀ v H' Z' (S' : PA1), OwnE K cl H' Z' E' σ S' → Rp K cl H' Z' (frz r) v → Step H Z S H' Z' S' → Okk H' Z' S' → Q v H'
  | some (.ex x E') => SatX K cl W σ H Z S x E'
def SatB (Q : Bool → Hp → Prop) : Option (Out Bool) → Prop
  | none => False
  | some (.ok b E') => ∀ H' Z' (S' : PA1), OwnE K cl H' Z' E' σ S' → Step H Z S H' Z' S' → Okk H' Z' S' → Q b H'
  | some (.ex x E') => SatX K cl W σ H Z S x E'
def SatA (Q : List V → Hp → Prop) : Option (Out (List D)) → Prop
  | none => False
  | some (.ok ds E') => ∀ vs H' Z' (S' : PA1), OwnE K cl H' Z' E' σ S' → RpL K cl H' Z' ds vs → Step H Z S H' Z' S' → Okk H' Z' S' → Q vs H'
  | some (.ex x E') => SatX K cl W σ H Z S x E'
end
section
variable {K : PySem.W.Frag} {cl : Str → Addr} {W : WX} {σ : L2.St} {H H1 : Hp} {Z S Z1 S1 : PA1}
theorem SatX.re {x E'} (st : Step H Z S H1 Z1 S1) (h : SatX K cl W σ H Z S x E') : SatX K cl W σ H1 Z1 S1 x E' := fun c d H' Z' S' a b s o => h c d H' Z' S' a b (st.trans s) o
theorem SatV.re {Q : VK} {o} (st : Step H Z S H1 Z1 S1) (h : SatV K cl W σ H Z S Q o) : SatV K cl W σ H1 Z1 S1 Q o := by
  match o with
  | none => exact h
  | some (.ok r E') => exact fun v H' Z' Sr S' a b d s o => h v H' Z' Sr S' a b d (st.trans s) o
  | some (.ex x E') => exact SatX.re st h
theorem SatD.re {Q : VK} {o} (st : Step H Z S H1 Z1 S1) (h : SatD K cl W σ H Z S Q o) : SatD K cl W σ H1 Z1 S1 Q o := by
  match o with
  | none => exact h
  | some (.ok r E') => exact fun v H' Z' S' a b s o => h v H' Z' S' a b (st.trans s) o
  | some (.ex x E') => exact SatX.re st h
theorem SatB.re {Q : Bool → Hp → Prop} {o} (st : Step H Z S H1 Z1 S1) (h : SatB K cl W σ H Z S Q o) : SatB K cl W σ H1 Z1 S1 Q o := by
  match o with
  | none => exact h
  | some (.ok r E') => exact fun H' Z' S' a s o => h H' Z' S' a (st.trans s) o
  | some (.ex x E') => exact SatX.re st h
theorem SatA.re {Q : List V → Hp → Prop} {o} (st : Step H Z S H1 Z1 S1) (h : SatA K cl W σ H Z S Q o) : SatA K cl W σ H1 Z1 S1 Q o := by
  match o with
  | none => exact h
  | some (.ok r E') => exact fun v H' Z' S' a b s o => h v H' Z' S' a b (st.trans s) o
  | some (.ex x E') => exact SatX.re st h
/-- the kinds of end, for what follows a part -/
class Sats (α : Type) (κ : Type) where
  sat : PySem.W.Frag → (Str → Addr) → WX → L2.St → Hp → PA1 → PA1 → κ → Option (Out α) → Prop
  re : ∀ {K cl W σ H Z S H1 Z1 S1 Q o}, Step H Z S H1 Z1 S1 → sat K cl W σ H Z S Q o → sat K cl W σ H1 Z1 S1 Q o
  no : ∀ {K cl W σ H Z S Q}, ¬ sat K cl W σ H Z S Q none
  ex : ∀ {K cl W σ H Z S Q x E}, sat K cl W σ H Z S Q (some (.ex x E)) → SatX K cl W σ H Z S x E
instance : Sats T VK := ⟨SatV, SatV.re, fun h => h, fun h => h⟩
instance : Sats Bool (Bool → Hp → Prop) := ⟨SatB, SatB.re, fun h => h, fun h => h⟩
instance : Sats (List D) (List V → Hp → Prop) := ⟨SatA, SatA.re, fun h => h, fun h => h⟩
variable {β κ : Type} [Sats β κ] {q : κ}
theorem satD_bnd {o : Option (Out T)} {f : T → En → Option (Out β)} {P : VK} (h : Sats.sat K cl W σ H Z S q (bnd o f))
    (k : ∀ r E1, Sats.sat K cl W σ H Z S q (f r E1) → ∀ v H1 Z1 (S1 : PA1), OwnE K cl H1 Z1 E1 σ S1 → Rp K cl H1 Z1 (frz r) v → Step H Z S H1 Z1 S1 → Okk H1 Z1 S1 → P v H1) : SatD K cl W σ H Z S P o := by
  match o with
  | none => exact (Sats.no h).elim
  | some (.ok r E') => exact k r E' h
  | some (.ex x E') => exact Sats.ex h
theorem satV_bnd {o : Option (Out T)} {f : T → En → Option (Out β)} {P : VK} (h : Sats.sat K cl W σ H Z S q (bnd o f))
    (k : ∀ r E1, Sats.sat K cl W σ H Z S q (f r E1) → ∀ v H1 Z1 (Sr S1 : PA1), OwnE K cl H1 Z1 E1 σ S1 → Own K cl H1 Z1 r v Sr → Dis Sr S1 → Step H Z S H1 Z1 (Uni Sr S1) → Okk H1 Z1 (Uni Sr S1) → P v H1) : SatV K cl W σ H Z S P o := by
  match o with
  | none => exact (Sats.no h).elim
  | some (.ok r E') => exact k r E' h
  | some (.ex x E') => exact Sats.ex h
theorem satB_bnd {o : Option (Out Bool)} {f : Bool → En → Option (Out β)} {P : Bool → Hp → Prop} (h : Sats.sat K cl W σ H Z S q (bnd o f))
    (k : ∀ b E1, Sats.sat K cl W σ H Z S q (f b E1) → ∀ H1 Z1 (S1 : PA1), OwnE K cl H1 Z1 E1 σ S1 → Step H Z S H1 Z1 S1 → Okk H1 Z1 S1 → P b H1) : SatB K cl W σ H Z S P o := by
  match o with
  | none => exact (Sats.no h).elim
  | some (.ok r E') => exact k r E' h
  | some (.ex x E') => exact Sats.ex h
theorem satA_bnd {o : Option (Out (List D))} {f : List D → En → Option (Out β)} {P : List V → Hp → Prop} (h : Sats.sat K cl W σ H Z S q (bnd o f))
    (k : ∀ ds E1, Sats.sat K cl W σ H Z S q (f ds E1) → ∀ vs H1 Z1 (S1 : PA1), OwnE K cl H1 Z1 E1 σ S1 → RpL K cl H1 Z1 ds vs → Step H Z S H1 Z1 S1 → Okk H1 Z1 S1 → P vs H1) : SatA K cl W σ H Z S P o := by
  match o with
  | none => exact (Sats.no h).elim
  | some (.ok r E') => exact k r E' h
  | some (.ex x E') => exact Sats.ex h
theorem sat_opt {o : Option β} {E : En} (h : Sats.sat K cl W σ H Z S q (opt o E)) : ∃ b, o = some b ∧ Sats.sat K cl W σ H Z S q (some (.ok b E)) := by
  cases o with
  | none => exact (Sats.no h).elim
  | some b => exact ⟨b, rfl, h⟩
end

/-! ### the judgements -/
structure IE (X : Cx) (cl : Str → Addr) (e : Expr) (t : Ev T) : Prop where
  run : ∀ W, Takes X W → ∃ te, PE X e te ∧ ∀ E σ H Z (S : PA1) Q, OwnE X.K cl H Z E σ S → Okk H Z S → SatV X.K cl W σ H Z S Q (t E) → te σ H Q
structure IB (X : Cx) (cl : Str → Addr) (e : Expr) (t : Ev Bool) : Prop where
  run : ∀ W, Takes X W → ∃ te, PT X e te ∧ ∀ E σ H Z (S : PA1) Q, OwnE X.K cl H Z E σ S → Okk H Z S → SatB X.K cl W σ H Z S Q (t E) → te σ H Q
/-- arguments, frozen -/
structure IA (X : Cx) (cl : Str → Addr) (es : List Expr) (t : Ev (List D)) : Prop where
  run : ∀ W, Takes X W → ∃ te, PA X es te ∧ ∀ E σ H Z (S : PA1) Q, OwnE X.K cl H Z E σ S → Okk H Z S → SatA X.K cl W σ H Z S Q (t E) → te σ H Q

section
variable {X : Cx} {cl : Str → Addr}
/-- the value frozen -/
theorem freezeStep {H : Hp} {Z Sr S : PA1} (o : Okk H Z (Uni Sr S)) (d : Dis Sr S) : Step H Z (Uni Sr S) H (Uni Z Sr) S ∧ Okk H (Uni Z Sr) S :=
  ⟨⟨fun _ z => .inl z, fun _ z => z.imp id fun z => .inl (.inl z), fun _ z => .inl (.inr z), fun _ _ e _ => e, fun _ z => z⟩,
   ⟨fun a z y => y.elim (o.dis a (.inr z)) fun y => d a y z, fun a z => o.sa a (.inr z), fun a z => z.elim (o.za a) fun z => o.sa a (.inl z)⟩⟩
theorem OwnE.zmore {K : PySem.W.Frag} {H : Hp} {Z Z' : PA1} {E : En} {σ : L2.St} {S : PA1} (h : OwnE K cl H Z E σ S) (hz : ∀ a, Z a → Z' a) : OwnE K cl H Z' E σ S := h.mono hz (fun _ _ => .refl) fun _ _ _ e => e
theorem IE.fz {e : Expr} {t : Ev T} (h : IE X cl e t) (W : WX) (tk : Takes X W) : ∃ te, PE X e te ∧ ∀ E σ H Z (S : PA1) Q, OwnE X.K cl H Z E σ S → Okk H Z S → SatD X.K cl W σ H Z S Q (t E) → te σ H Q := by
  obtain ⟨te, pe, hr⟩ := h.run W tk
  refine ⟨te, pe, fun E σ H Z S Q oe ok sat => hr E σ H Z S Q oe ok ?_⟩
  revert sat
  match t E with
  | none => exact fun s => s
  | some (.ex x E') => exact fun s => s
  | some (.ok r E') =>
    intro sat v H' Z' Sr S' a b d s o
    obtain ⟨s2, o2⟩ := freezeStep o d
    exact sat v H' (Uni Z' Sr) S' (a.zmore fun _ z => .inl z) (b.frz (fun _ z => .inl z) fun _ z => .inr z) (s.trans s2) o2

/-! ### names, constants -/
/-- a name whose value is frozen -/
def eVar (i : Nat) : Ev T := fun E => match E[i]? with
  | some (some (.fz d)) => some (.ok (.fz d) E)
  | _ => none
/-- a name, frozen where it stands -/
def eFrz (i : Nat) : Ev T := fun E => match E[i]? with
  | some (some t) => some (.ok (.fz (frz t)) (E.set i (some (.fz (frz t)))))
  | _ => none
/-- a name's value taken out of it -/
def eMov (i : Nat) : Ev T := fun E => match E[i]? with
  | some (some t) => some (.ok t (E.set i none))
  | _ => none
theorem set_get {α : Type} {E : List α} {i : Nat} {x : α} (h : E[i]? = some x) : E.set i x = E := by
  apply List.ext_getElem?
  intro j
  by_cases hj : i = j
  · subst hj
    rw [List.getElem?_set_self (by have := (List.getElem?_eq_some_iff.mp h).1; exact this), h]
  · rw [List.getElem?_set_ne hj]
theorem OwnE.slot {K : PySem.W.Frag} {H : Hp} {Z : PA1} {E : En} {σ : L2.St} {S : PA1} {i : Nat} {t : T} (h : OwnE K cl H Z E σ S) (hi : E[i]? = some (some t)) : i < E.length := (List.getElem?_eq_some_iff.mp hi).1
theorem ie_mov {i : Nat} {x : Str} {pos : Pos} (hN : X.N[i]? = some x) (hv : Vis X.env.scope x) (hd : (x == ("__debug__" : Str)) = false := by decide) (hcd : (x == ("__classdict__" : Str)) = false := by decide) : IE X cl (.Name x pos) (eMov i) := by
  refine ⟨fun W tk => ⟨tVar i, pe_var hN hv hd hcd, fun E σ H Z S Q oe ok sat => ?_⟩⟩
  unfold eMov at sat
  split at sat
  · rename_i t ht
    obtain ⟨v, Si, Sr, h1, h2, h3, h4, h5, h6⟩ := oe.take ht
    exact ⟨v, h1, sat v H Z Si Sr h3 h2 h4 (Step.refl.less fun a z => z.elim (h5 a) (h6 a)) (ok.less fun a z => z.elim (h5 a) (h6 a))⟩
  · exact sat.elim
theorem ie_frz {i : Nat} {x : Str} {pos : Pos} (hN : X.N[i]? = some x) (hv : Vis X.env.scope x) (hd : (x == ("__debug__" : Str)) = false := by decide) (hcd : (x == ("__classdict__" : Str)) = false := by decide) : IE X cl (.Name x pos) (eFrz i) := by
  refine ⟨fun W tk => ⟨tVar i, pe_var hN hv hd hcd, fun E σ H Z S Q oe ok sat => ?_⟩⟩
  unfold eFrz at sat
  split at sat
  · rename_i t ht
    obtain ⟨v, Si, Sr, h1, h2, h3, h4, h5, h6⟩ := oe.take ht
    obtain ⟨s2, o2⟩ := freezeStep (ok.less fun a z => z.elim (h5 a) (h6 a) : Okk H Z (Uni Si Sr)) h4
    have rp := h2.frz (Z' := Uni Z Si) (fun _ z => .inl z) fun _ z => .inr z
    have pe := OwnE.put (i := i) (t := .fz (frz t)) (v := v) (Si := Emp) (h3.zmore (Z' := Uni Z Si) fun _ z => .inl z) (oe.slot ht) (.fz rp) (fun _ z _ => z)
    have e1 : σ.set i (some v) = σ := set_get h1
    rw [e1] at pe
    refine ⟨v, h1, sat v H (Uni Z Si) Emp Sr (pe.up fun a z => z.elim False.elim id) (.fz rp) (fun _ z _ => z) ?_ (o2.less fun a z => z.elim False.elim id)⟩
    exact ((Step.refl.less fun a z => z.elim (h5 a) (h6 a)).trans s2).less fun a z => z.elim False.elim id
  · exact sat.elim
theorem ie_var {i : Nat} {x : Str} {pos : Pos} (hN : X.N[i]? = some x) (hv : Vis X.env.scope x) (hd : (x == ("__debug__" : Str)) = false := by decide) (hcd : (x == ("__classdict__" : Str)) = false := by decide) : IE X cl (.Name x pos) (eVar i) := by
  refine ⟨fun W tk => ⟨tVar i, pe_var hN hv hd hcd, fun E σ H Z S Q oe ok sat => ?_⟩⟩
  unfold eVar at sat
  split at sat
  · rename_i d ht
    obtain ⟨v, Si, Sr, h1, h2, h3, h4, h5, h6⟩ := oe.take ht
    cases h2 with
    | fz rp =>
      exact ⟨v, h1, sat v H Z Emp S oe (.fz rp) (fun _ z _ => z) (Step.refl.less fun a z => z.elim False.elim id) (ok.less fun a z => z.elim False.elim id)⟩
  · exact sat.elim
def eC (d : D) : Ev T := fun E => some (.ok (.fz d) E)
theorem ie_c {e : Expr} {v : V} {d : D} (h : PE X e (tC v)) (r : ∀ H Z, Rp X.K cl H Z d v) : IE X cl e (eC d) := by
  refine ⟨fun W tk => ⟨_, h, fun E σ H Z S Q oe ok sat => ?_⟩⟩
  exact sat v H Z Emp S oe (.fz (r H Z)) (fun _ z _ => z) (Step.refl.less fun a z => z.elim False.elim id) (ok.less fun a z => z.elim False.elim id)
theorem ie_int {i j pos} : IE X cl (.Constant (.int i) j pos) (eC (.int i)) := ie_c pe_int fun _ _ => .int _
theorem ie_bl {b j pos} : IE X cl (.Constant (.bool b) j pos) (eC (.bl b)) := ie_c pe_bl fun _ _ => .bl _
theorem ie_non {j pos} : IE X cl (.Constant .none j pos) (eC .non) := ie_c pe_non fun _ _ => .non
theorem ie_str {x j pos} : IE X cl (.Constant (.str x) j pos) (eC (.str x)) := ie_c pe_str fun _ _ => .str _
/-- a module's constant: an int, a text -/
theorem ie_gint {x : Str} {i : Int} {t : Tok} {pos : Pos} (hm : X.mg x = some (.int i t)) (hg : Gl X x) (hd : (x == ("__debug__" : Str)) = false := by decide) : IE X cl (.Name x pos) (eC (.int i)) := ie_c (v := .int i) (pe_glob hg hm ⟨_, rfl⟩ hd) fun _ _ => .int _
theorem ie_gstr {x : Str} {i : Str} {t : Tok} {pos : Pos} (hm : X.mg x = some (.str i t)) (hg : Gl X x) (hd : (x == ("__debug__" : Str)) = false := by decide) : IE X cl (.Name x pos) (eC (.str i)) := ie_c (v := .str i) (pe_glob hg hm ⟨_, rfl⟩ hd) fun _ _ => .str _
/-- a built-in class -/
theorem ie_ty {x : Str} {n : String} {pos : Pos} (hm : X.mg x = none) (hb : bootBuiltins x = some (.type n)) (hg : Gl X x) (hn : x ≠ "__name__" := by decide) (hd : (x == ("__debug__" : Str)) = false := by decide) : IE X cl (.Name x pos) (eC (.ty n)) := ie_c (v := .ty n) (pe_bltn hg hm hb rfl hn hd) fun _ _ => .ty _
/-- a class, a def of the text -/
theorem ie_gl {x : Str} {a : Addr} {pos : Pos} (hm : X.mg x = some (.ref a)) (hg : Gl X x) (hd : (x == ("__debug__" : Str)) = false := by decide) : IE X cl (.Name x pos) (eC (.gl a)) := ie_c (v := .ref a) (pe_glob hg hm rfl hd) fun _ _ => .gl _

/-! ### operations on data -/
/-- what an operation on values makes of data -/
def OkR (K : PySem.W.Frag) (cl : Str → Addr) (H : Hp) (Z : PA1) (Q : VK) (o : Option T) : Prop :=
  match o with
  | none => False
  | some t => ∀ v' H' Z' (Sr : PA1), Own K cl H' Z' t v' Sr → Step H Z Emp H' Z' Sr → Okk H' Z' Sr → Q v' H'
def OpV (K : PySem.W.Frag) (cl : Str → Addr) (r : R2) (g : D → D → Option T) : Prop :=
  ∀ x y v u H (Z : PA1) Q, (∀ a, Z a → H a ≠ none) → Rp K cl H Z x v → Rp K cl H Z y u → OkR K cl H Z Q (g x y) → r v u H Q
/-- an operation's end beside the frame -/
theorem op_fin {K : PySem.W.Frag} {W : WX} {σ : L2.St} {H : Hp} {Z S : PA1} {Q : VK} {o : Option T} {E : En} (oe : OwnE K cl H Z E σ S) (ok : Okk H Z S) (sat : SatV K cl W σ H Z S Q (opt o E)) : OkR K cl H Z Q o := by
  cases o with
  | none => exact sat
  | some t =>
    intro v' H' Z' Sr ow st ok'
    have sat' : SatV K cl W σ H Z S Q (some (.ok t E)) := sat
    have d : Dis S Sr := st.dis ok.sa fun _ _ z => z
    have st2 : Step H Z S H' Z' (Uni Sr S) := ((st.frame (R := S)).more (R := S) fun a z => z.elim id False.elim).less fun a z => z.elim .inr .inl
    refine sat' v' H' Z' Sr S (st.ownE (fun _ z => z.elim) (fun _ _ z => z) oe) ow (fun a x y => d a y x) st2 ?_
    have o2 := st.okk (R := S) (ok.less fun a z => z.elim id False.elim) ok' fun _ _ z => z
    exact o2.less fun a z => z.elim .inr .inl
def eBin (g : D → D → Option T) (ta tb : Ev T) : Ev T := fun E => bnd (ta E) fun x E1 => bnd (tb E1) fun y E2 => opt (g (frz x) (frz y)) E2
variable {a b : Expr} {ta tb : Ev T} {pos : Pos} {g : D → D → Option T} {r : R2}
theorem two_run {W : WX} {ta' tb' : TE} (ha : ∀ E σ H Z (S : PA1) Q, OwnE X.K cl H Z E σ S → Okk H Z S → SatD X.K cl W σ H Z S Q (ta E) → ta' σ H Q)
    (hb : ∀ E σ H Z (S : PA1) Q, OwnE X.K cl H Z E σ S → Okk H Z S → SatD X.K cl W σ H Z S Q (tb E) → tb' σ H Q) (hg : OpV X.K cl r g)
    (E : En) (σ : L2.St) (H : Hp) (Z S : PA1) (Q : VK) (oe : OwnE X.K cl H Z E σ S) (ok : Okk H Z S) (sat : SatV X.K cl W σ H Z S Q (eBin g ta tb E)) : tOp r ta' tb' σ H Q := by
  refine ha E σ H Z S _ oe ok (satD_bnd (β := T) (κ := VK) (q := Q) sat fun x E1 sat1 v H1 Z1 S1 oe1 rp1 st1 ok1 => ?_)
  refine hb E1 σ H1 Z1 S1 _ oe1 ok1 (satD_bnd (β := T) (κ := VK) (q := Q) (SatV.re st1 sat1) fun y E2 sat2 u H2 Z2 S2 oe2 rp2 st2 ok2 => ?_)
  exact hg _ _ v u H2 Z2 Q ok2.za (st2.rp ok1.dis rp1) rp2 (op_fin oe2 ok2 (SatV.re st2 sat2))
theorem ie_bin {op : Operator} (ho : OpR X (binaryOp op) r) (hg : OpV X.K cl r g) (ha : IE X cl a ta) (hb : IE X cl b tb) : IE X cl (.BinOp a op b pos) (eBin g ta tb) := by
  refine ⟨fun W tk => ?_⟩
  obtain ⟨ta', pa, ha⟩ := ha.fz W tk
  obtain ⟨tb', pb, hb⟩ := hb.fz W tk
  exact ⟨_, pe_op ho pa pb, two_run ha hb hg⟩
theorem ie_cmp {op : CmpOp} (ho : OpR X (compareOp op) r) (hg : OpV X.K cl r g) (ha : IE X cl a ta) (hb : IE X cl b tb) (hm : behindInMarks op b = false) : IE X cl (.Compare a [op] [b] pos) (eBin g ta tb) := by
  refine ⟨fun W tk => ?_⟩
  obtain ⟨ta', pa, ha⟩ := ha.fz W tk
  obtain ⟨tb', pb, hb⟩ := hb.fz W tk
  exact ⟨_, pe_cmpR ho pa pb hm, two_run ha hb hg⟩
/-- a[b] -/
theorem ie_ix (ho : IxR X r) (hg : OpV X.K cl r g) (ha : IE X cl a ta) (hb : IE X cl b tb) (hs : PlainIx b) : IE X cl (.Subscript a b pos) (eBin g ta tb) := by
  refine ⟨fun W tk => ?_⟩
  obtain ⟨ta', pa, ha⟩ := ha.fz W tk
  obtain ⟨tb', pb, hb⟩ := hb.fz W tk
  exact ⟨_, pe_ix ho pa pb hs, two_run ha hb hg⟩
/-- a one-place operation -/
def eUn (g : D → Option T) (ta : Ev T) : Ev T := fun E => bnd (ta E) fun x E1 => opt (g (frz x)) E1
def UnV (K : PySem.W.Frag) (cl : Str → Addr) (r : V → Hp → VK → Prop) (g : D → Option T) : Prop :=
  ∀ x v H (Z : PA1) Q, (∀ a, Z a → H a ≠ none) → Rp K cl H Z x v → OkR K cl H Z Q (g x) → r v H Q
theorem ie_un {op : UnaryOp} {r : V → Hp → VK → Prop} {g : D → Option T} (ho : UnR X (unaryOp op) r) (hg : UnV X.K cl r g) (ha : IE X cl a ta) : IE X cl (.UnaryOp op a pos) (eUn g ta) := by
  refine ⟨fun W tk => ?_⟩
  obtain ⟨ta', pa, ha⟩ := ha.fz W tk
  refine ⟨_, pe_un ho pa, fun E σ H Z S Q oe ok sat => ?_⟩
  refine ha E σ H Z S _ oe ok (satD_bnd (β := T) (κ := VK) (q := Q) sat fun x E1 sat1 v H1 Z1 S1 oe1 rp1 st1 ok1 => ?_)
  exact hg _ v H1 Z1 Q ok1.za rp1 (op_fin oe1 ok1 (SatV.re st1 sat1))

/-! ### arguments -/
def aNil : Ev (List D) := fun E => some (.ok [] E)
def aCons (t : Ev T) (ts : Ev (List D)) : Ev (List D) := fun E => bnd (t E) fun x E1 => bnd (ts E1) fun xs E2 => some (.ok (frz x :: xs) E2)
theorem ia_nil : IA X cl [] aNil := ⟨fun W tk => ⟨_, pa_nil, fun E σ H Z S Q oe ok sat => sat [] H Z S oe .nil Step.refl ok⟩⟩
theorem ia_cons {es : List Expr} {ts : Ev (List D)} (ha : IE X cl a ta) (hs : IA X cl es ts) (hst : starEach (a :: es) X.env = (false, eval a X.env) :: starEach es X.env := by rfl) : IA X cl (a :: es) (aCons ta ts) := by
  refine ⟨fun W tk => ?_⟩
  obtain ⟨ta', pa, ha⟩ := ha.fz W tk
  obtain ⟨ts', ps, hs⟩ := hs.run W tk
  refine ⟨_, pa_cons pa ps hst, fun E σ H Z S Q oe ok sat => ?_⟩
  refine ha E σ H Z S _ oe ok (satD_bnd (β := List D) (κ := List V → Hp → Prop) (q := Q) sat fun x E1 sat1 v H1 Z1 S1 oe1 rp1 st1 ok1 => ?_)
  refine hs E1 σ H1 Z1 S1 _ oe1 ok1 (satA_bnd (β := List D) (κ := List V → Hp → Prop) (q := Q) (SatA.re st1 sat1) fun xs E2 sat2 vs H2 Z2 S2 oe2 rps st2 ok2 => ?_)
  exact (SatA.re st2 sat2 : SatA X.K cl W σ H2 Z2 S2 Q _) (v :: vs) H2 Z2 S2 oe2 (.cons (st2.rp ok1.dis rp1) rps) Step.refl ok2

/-! ### calls of built-ins -/
def CallV (K : PySem.W.Frag) (cl : Str → Addr) (r : List V → Hp → VK → Prop) (g : List D → Option T) : Prop :=
  ∀ xs vs H (Z : PA1) Q, (∀ a, Z a → H a ≠ none) → RpL K cl H Z xs vs → OkR K cl H Z Q (g xs) → r vs H Q
def eCall (g : List D → Option T) (ts : Ev (List D)) : Ev T := fun E => bnd (ts E) fun xs E1 => opt (g xs) E1
theorem one_run {W : WX} {ts : Ev (List D)} {ts' : TA} {r : List V → Hp → VK → Prop} {g : List D → Option T} (hs : ∀ E σ H Z (S : PA1) Q, OwnE X.K cl H Z E σ S → Okk H Z S → SatA X.K cl W σ H Z S Q (ts E) → ts' σ H Q)
    (hg : CallV X.K cl r g) (E : En) (σ : L2.St) (H : Hp) (Z S : PA1) (Q : VK) (oe : OwnE X.K cl H Z E σ S) (ok : Okk H Z S) (sat : SatV X.K cl W σ H Z S Q (eCall g ts E)) : tCB r ts' σ H Q := by
  refine hs E σ H Z S _ oe ok (satA_bnd (β := T) (κ := VK) (q := Q) sat fun xs E1 sat1 vs H1 Z1 S1 oe1 rps st1 ok1 => ?_)
  exact hg _ vs H1 Z1 Q ok1.za rps (op_fin oe1 ok1 (SatV.re st1 sat1))
theorem ie_callB {x : Str} {id : String} {p : Pos} {e : Expr} {es : List Expr} {ts : Ev (List D)} {r : List V → Hp → VK → Prop} {g : List D → Option T} (hc : CallR X (.builtin id) r) (hgv : CallV X.K cl r g) (hm : X.mg x = none) (hv : bootBuiltins x = some (.builtin id)) (ha : IA X cl (e :: es) ts)
    (hg : Gl X x := by rfl) (hn : x ≠ "__name__" := by decide) (hdb : (x == ("__debug__" : Str)) = false := by decide)
    (he : starEach (e :: es) X.env = (false, eval e X.env) :: starEach es X.env := by rfl) (hpl : (backTo pos (starEach es X.env)).any (·.1) = false := by rfl) : IE X cl (.Call (.Name x p) (e :: es) [] pos) (eCall g ts) := by
  refine ⟨fun W tk => ?_⟩
  obtain ⟨ts', ps, hs⟩ := ha.run W tk
  exact ⟨_, pe_callB hc hg hm hv ps hn hdb he hpl, one_run hs hgv⟩
theorem ie_callT {x : Str} {n : String} {p : Pos} {e : Expr} {es : List Expr} {ts : Ev (List D)} {r : List V → Hp → VK → Prop} {g : List D → Option T} (hc : CallR X (.type n) r) (hgv : CallV X.K cl r g) (hm : X.mg x = none) (hv : bootBuiltins x = some (.type n)) (ha : IA X cl (e :: es) ts)
    (hg : Gl X x := by rfl) (hn : x ≠ "__name__" := by decide) (hdb : (x == ("__debug__" : Str)) = false := by decide)
    (he : starEach (e :: es) X.env = (false, eval e X.env) :: starEach es X.env := by rfl) (hpl : (backTo pos (starEach es X.env)).any (·.1) = false := by rfl) : IE X cl (.Call (.Name x p) (e :: es) [] pos) (eCall g ts) := by
  refine ⟨fun W tk => ?_⟩
  obtain ⟨ts', ps, hs⟩ := ha.run W tk
  exact ⟨_, pe_callTy hc hg hm hv ps hn hdb he hpl, one_run hs hgv⟩

/-! ### tests -/
def truD : D → Option Bool
  | .non => some false
  | .bl b => some b
  | .int i => some (i != 0)
  | .str x => if x.length ≤ sizeLine then some ((x.length : Int) != 0) else none
  | .tup xs => some (!xs.isEmpty)
  | .lst xs => some (!xs.isEmpty)
  | _ => none
theorem RpL.emp {K : PySem.W.Frag} {H : Hp} {Z : PA1} {ds vs} (r : RpL K cl H Z ds vs) : vs.isEmpty = ds.isEmpty := by cases r <;> rfl
theorem truD_ok {K : PySem.W.Frag} {H : Hp} {Z : PA1} {d v b} (r : Rp K cl H Z d v) (h : truD d = some b) : TruV K v H b := by
  cases r with
  | non => cases h; rfl
  | bl x => cases h; rfl
  | int i => cases h; rfl
  | str x =>
    simp only [truD] at h
    by_cases hz : x.length ≤ sizeLine
    · rw [if_pos hz] at h
      cases h
      exact ⟨hz, rfl⟩
    · rw [if_neg hz] at h
      cases h
  | tup _ q r => cases h; exact .inr (.inl ⟨_, SqT.of q, by rw [r.emp]⟩)
  | lst _ q r => cases h; exact .inl ⟨_, SqL.of q, by rw [r.emp]⟩
  | ty n => cases h
  | gl n => cases h
  | scr => cases h
  | kt => cases h
  | dct => cases h
  | dcT => cases h
  | ins => cases h
def bTru (t : Ev T) : Ev Bool := fun E => bnd (t E) fun x E1 => opt (truD (frz x)) E1
theorem ib_tru (ha : IE X cl a ta) (he : ∀ whole, isTrue a X.env whole = (do let v ← whole; standAt a.pos; holding [v] (truthy v)) := by exact fun _ => rfl) : IB X cl a (bTru ta) := by
  refine ⟨fun W tk => ?_⟩
  obtain ⟨ta', pa, ha⟩ := ha.fz W tk
  refine ⟨_, pt_truth pa he, fun E σ H Z S Q oe ok sat => ?_⟩
  refine ha E σ H Z S _ oe ok (satD_bnd (β := Bool) (κ := Bool → Hp → Prop) (q := Q) sat fun x E1 sat1 v H1 Z1 S1 oe1 rp1 st1 ok1 => ?_)
  obtain ⟨b, hb, sat2⟩ := sat_opt (β := Bool) (κ := Bool → Hp → Prop) (q := Q) sat1
  exact ⟨b, truD_ok rp1 hb, (SatB.re st1 sat2 : SatB X.K cl W σ H1 Z1 S1 Q _) H1 Z1 S1 oe1 Step.refl ok1⟩
def asB : D → Option Bool
  | .bl b => some b
  | _ => none
/-- a comparison as a test -/
def bBin (g : D → D → Option T) (ta tb : Ev T) : Ev Bool := fun E => bnd (eBin g ta tb E) fun x E1 => opt (asB (frz x)) E1
theorem asB_rp {K : PySem.W.Frag} {H : Hp} {Z : PA1} {d v b} (r : Rp K cl H Z d v) (h : asB d = some b) : v = .bl b := by
  cases r <;> first | (cases h; done) | (cases h; rfl)
theorem ib_cmp {op : CmpOp} (ho : OpR X (compareOp op) r) (hg : OpV X.K cl r g) (ha : IE X cl a ta) (hb : IE X cl b tb) (hm : behindInMarks op b = false) : IB X cl (.Compare a [op] [b] pos) (bBin g ta tb) := by
  refine ⟨fun W tk => ?_⟩
  obtain ⟨ta', pa, ha⟩ := ha.fz W tk
  obtain ⟨tb', pb, hb⟩ := hb.fz W tk
  refine ⟨_, pt_cmpR ho pa pb hm, fun E σ H Z S Q oe ok sat => ?_⟩
  refine two_run ha hb hg E σ H Z S _ oe ok (satV_bnd (β := Bool) (κ := Bool → Hp → Prop) (q := Q) sat fun x E1 sat1 v H1 Z1 Sr S1 oe1 ow1 d1 st1 ok1 => ?_)
  obtain ⟨c, hc, sat2⟩ := sat_opt (β := Bool) (κ := Bool → Hp → Prop) (q := Q) sat1
  obtain ⟨s2, o2⟩ := freezeStep ok1 d1
  refine ⟨c, asB_rp (ow1.frz (Z' := Uni Z1 Sr) (fun _ z => .inl z) fun _ z => .inr z) hc, ?_⟩
  exact (SatB.re (st1.trans s2) sat2 : SatB X.K cl W σ H1 _ S1 Q _) H1 _ S1 (oe1.zmore fun _ z => .inl z) Step.refl o2
def bNot (t : Ev Bool) : Ev Bool := fun E => bnd (t E) fun b E1 => some (.ok (!b) E1)
theorem ib_not {t : Ev Bool} (h : IB X cl a t) : IB X cl (.UnaryOp .Not a pos) (bNot t) := by
  refine ⟨fun W tk => ?_⟩
  obtain ⟨ta', pa, ha⟩ := h.run W tk
  refine ⟨_, pt_not pa, fun E σ H Z S Q oe ok sat => ?_⟩
  refine ha E σ H Z S _ oe ok (satB_bnd (β := Bool) (κ := Bool → Hp → Prop) (q := Q) sat fun x E1 sat1 H1 Z1 S1 oe1 st1 ok1 => ?_)
  exact (SatB.re st1 sat1 : SatB X.K cl W σ H1 Z1 S1 Q _) H1 Z1 S1 oe1 Step.refl ok1
/-- the test of an and, an or: by PW -/
structure IW (X : Cx) (cl : Str → Addr) (e : Expr) (t : Ev Bool) : Prop where
  run : ∀ W, Takes X W → ∃ te, PW X e te ∧ ∀ E σ H Z (S : PA1) Q, OwnE X.K cl H Z E σ S → Okk H Z S → SatB X.K cl W σ H Z S Q (t E) → te σ H Q
theorem IW.ib {e : Expr} {t : Ev Bool} (h : IW X cl e t) : IB X cl e t := ⟨fun W tk => by obtain ⟨te, p, q⟩ := h.run W tk; exact ⟨te, p.pt, q⟩⟩
theorem iw_and1 {t : Ev Bool} (h : IB X cl a t) : IW X cl (.BoolOp .And [a] pos) t := ⟨fun W tk => by obtain ⟨te, p, q⟩ := h.run W tk; exact ⟨te, pw_and1 p, q⟩⟩
theorem iw_or1 {t : Ev Bool} (h : IB X cl a t) : IW X cl (.BoolOp .Or [a] pos) t := ⟨fun W tk => by obtain ⟨te, p, q⟩ := h.run W tk; exact ⟨te, pw_or1 p, q⟩⟩
def bAnd (t u : Ev Bool) : Ev Bool := fun E => bnd (t E) fun c E1 => if c = true then u E1 else some (.ok false E1)
def bOr (t u : Ev Bool) : Ev Bool := fun E => bnd (t E) fun c E1 => if c = true then some (.ok true E1) else u E1
theorem iw_and {rest : List Expr} {t u : Ev Bool} (h : IB X cl a t) (h2 : IW X cl (.BoolOp .And (b :: rest) pos) u) : IW X cl (.BoolOp .And (a :: b :: rest) pos) (bAnd t u) := by
  refine ⟨fun W tk => ?_⟩
  obtain ⟨ta', pa, ha⟩ := h.run W tk
  obtain ⟨tb', pb, hb⟩ := h2.run W tk
  refine ⟨_, pw_and pa pb, fun E σ H Z S Q oe ok sat => ?_⟩
  refine ha E σ H Z S _ oe ok (satB_bnd (β := Bool) (κ := Bool → Hp → Prop) (q := Q) sat fun c E1 sat1 H1 Z1 S1 oe1 st1 ok1 => ?_)
  cases c with
  | true => exact hb E1 σ H1 Z1 S1 Q oe1 ok1 (SatB.re st1 sat1)
  | false => exact (SatB.re st1 sat1 : SatB X.K cl W σ H1 Z1 S1 Q (some (.ok false E1))) H1 Z1 S1 oe1 Step.refl ok1
theorem iw_or {rest : List Expr} {t u : Ev Bool} (h : IB X cl a t) (h2 : IW X cl (.BoolOp .Or (b :: rest) pos) u) : IW X cl (.BoolOp .Or (a :: b :: rest) pos) (bOr t u) := by
  refine ⟨fun W tk => ?_⟩
  obtain ⟨ta', pa, ha⟩ := h.run W tk
  obtain ⟨tb', pb, hb⟩ := h2.run W tk
  refine ⟨_, pw_or pa pb, fun E σ H Z S Q oe ok sat => ?_⟩
  refine ha E σ H Z S _ oe ok (satB_bnd (β := Bool) (κ := Bool → Hp → Prop) (q := Q) sat fun c E1 sat1 H1 Z1 S1 oe1 st1 ok1 => ?_)
  cases c with
  | false => exact hb E1 σ H1 Z1 S1 Q oe1 ok1 (SatB.re st1 sat1)
  | true => exact (SatB.re st1 sat1 : SatB X.K cl W σ H1 Z1 S1 Q (some (.ok true E1))) H1 Z1 S1 oe1 Step.refl ok1
end
end VL

namespace VL
open PySem PySem.Spec PyProof.Rows L2

/-! ### statements -/
inductive Fl where
  | nx | ret (t : T) | bk | ct
/-- the slots that are never stored to -/
abbrev Keep := Nat → Bool
def Kp (kp : Keep) (σ τ : L2.St) : Prop := τ.length = σ.length ∧ ∀ i, kp i = true → τ[i]? = σ[i]?
theorem Kp.refl {kp : Keep} {σ : L2.St} : Kp kp σ σ := ⟨rfl, fun _ _ => rfl⟩
theorem Kp.trans {kp : Keep} {σ τ υ : L2.St} (a : Kp kp σ τ) (b : Kp kp τ υ) : Kp kp σ υ := ⟨b.1.trans a.1, fun i h => (b.2 i h).trans (a.2 i h)⟩
theorem Kp.set {kp : Keep} {σ : L2.St} {i : Nat} {x : Option V} (h : kp i = false) : Kp kp σ (σ.set i x) := ⟨List.length_set, fun j hj => by
  by_cases e : i = j
  · subst e; rw [h] at hj; cases hj
  · rw [List.getElem?_set_ne e]⟩
section
variable (K : PySem.W.Frag) (cl : Str → Addr) (W : WX) (kp : Keep) (σ : L2.St) (H : Hp) (Z S : PA1)
def SatXs (x : Exn) (E' : En) : Prop := ∀ c d τ H' Z' (S' : PA1), OwnE K cl H' Z' E' τ S' → Kp kp σ τ → ExR K cl H' Z' x c d → Step H Z S H' Z' S' → Okk H' Z' S' → W c d τ H'
def SatN (R : L2.St → Hp → Prop) (E' : En) : Prop := ∀ τ H' Z' (S' : PA1), OwnE K cl H' Z' E' τ S' → Kp kp σ τ → Step H Z S H' Z' S' → Okk H' Z' S' → R τ H'
def SatS (D : Ends) : Option (Out Fl) → Prop
  | none => False
  | some (.ok .nx E') => SatN K cl kp σ H Z S D.nx E'
  | some (.ok .bk E') => SatN K cl kp σ H Z S D.bk E'
  | some (.ok .ct E') => SatN K cl kp σ H Z S D.ct E'
  | some (.ok (.ret r) E') => ∀ v τ H' Z' (Sr S' : PA1), OwnE K cl H' Z' E' τ S' → Kp kp σ τ → Own K cl H' Z' r v Sr → Dis Sr S' → Step H Z S H' Z' (Uni Sr S') → Okk H' Z' (Uni Sr S') → D.rt v H'
  | some (.ex x E') => SatXs K cl W kp σ H Z S x E'
end
section
variable {K : PySem.W.Frag} {cl : Str → Addr} {W : WX} {kp : Keep} {σ τ : L2.St} {H H1 : Hp} {Z S Z1 S1 : PA1} {D : Ends}
theorem SatXs.re {x E'} (st : Step H Z S H1 Z1 S1) (k : Kp kp σ τ) (h : SatXs K cl W kp σ H Z S x E') : SatXs K cl W kp τ H1 Z1 S1 x E' := fun c d υ H' Z' S' a kk b s o => h c d υ H' Z' S' a (k.trans kk) b (st.trans s) o
theorem SatN.re {R E'} (st : Step H Z S H1 Z1 S1) (k : Kp kp σ τ) (h : SatN K cl kp σ H Z S R E') : SatN K cl kp τ H1 Z1 S1 R E' := fun υ H' Z' S' a kk s o => h υ H' Z' S' a (k.trans kk) (st.trans s) o
theorem SatS.re {o} (st : Step H Z S H1 Z1 S1) (k : Kp kp σ τ) (h : SatS K cl W kp σ H Z S D o) : SatS K cl W kp τ H1 Z1 S1 D o := by
  match o with
  | none => exact h
  | some (.ok .nx E') => exact SatN.re st k h
  | some (.ok .bk E') => exact SatN.re st k h
  | some (.ok .ct E') => exact SatN.re st k h
  | some (.ok (.ret r) E') => exact fun v υ H' Z' Sr S' a kk b d s o => h v υ H' Z' Sr S' a (k.trans kk) b d (st.trans s) o
  | some (.ex x E') => exact SatXs.re st k h
instance : Sats Fl (Keep × Ends) := ⟨fun K cl W σ H Z S q o => SatS K cl W q.1 σ H Z S q.2 o, fun st h => SatS.re st .refl h, fun h => h, fun h c d H' Z' S' a b s o => h c d _ H' Z' S' a .refl b s o⟩
end

structure IS (X : Cx) (cl : Str → Addr) (kp : Keep) (st : Stmt) (t : Ev Fl) : Prop where
  run : ∀ W, Takes X W → ∃ ts, PS X st ts ∧ ∀ E σ H Z (S : PA1) D, OwnE X.K cl H Z E σ S → Okk H Z S → SatS X.K cl W kp σ H Z S D (t E) → ts D σ H
structure IL (X : Cx) (cl : Str → Addr) (kp : Keep) (sts : List Stmt) (t : Ev Fl) : Prop where
  run : ∀ W, Takes X W → ∃ ts, PSs X sts ts ∧ ∀ E σ H Z (S : PA1) D, OwnE X.K cl H Z E σ S → Okk H Z S → SatS X.K cl W kp σ H Z S D (t E) → ts D σ H

section
variable {X : Cx} {cl : Str → Addr} {kp : Keep} {st : Stmt} {rest : List Stmt} {t u : Ev Fl} {e : Expr} {te : Ev T} {pos : Pos}
def sNx : Ev Fl := fun E => some (.ok .nx E)
def sSeq (t u : Ev Fl) : Ev Fl := fun E => match t E with
  | some (.ok .nx E1) => u E1
  | o => o
theorem il_nil : IL X cl kp [] sNx := ⟨fun W tk => ⟨_, pss_nil, fun E σ H Z S D oe ok sat => sat σ H Z S oe .refl Step.refl ok⟩⟩
theorem il_one (h : IS X cl kp st t) : IL X cl kp [st] t := ⟨fun W tk => by obtain ⟨ts, p, q⟩ := h.run W tk; exact ⟨ts, pss_one p, q⟩⟩
theorem il_cons (h : IS X cl kp st t) (hr : IL X cl kp rest u) : IL X cl kp (st :: rest) (sSeq t u) := by
  refine ⟨fun W tk => ?_⟩
  obtain ⟨ts, p, q⟩ := h.run W tk
  obtain ⟨us, p2, q2⟩ := hr.run W tk
  refine ⟨_, pss_cons p p2, fun E σ H Z S D oe ok sat => ?_⟩
  refine q E σ H Z S { D with nx := us D } oe ok ?_
  unfold sSeq at sat
  match hE : t E, sat with
  | none, sat => exact sat
  | some (.ok .nx E1), sat => exact fun τ H' Z' S' oe' kk st' ok' => q2 E1 τ H' Z' S' D oe' ok' (SatS.re st' kk sat)
  | some (.ok .bk E1), sat => exact sat
  | some (.ok .ct E1), sat => exact sat
  | some (.ok (.ret r) E1), sat => exact sat
  | some (.ex x E1), sat => exact sat
theorem is_pass : IS X cl kp (.Pass pos) sNx := ⟨fun W tk => ⟨_, ps_pass, fun E σ H Z S D oe ok sat => sat σ H Z S oe .refl Step.refl ok⟩⟩
def sBk : Ev Fl := fun E => some (.ok .bk E)
def sCt : Ev Fl := fun E => some (.ok .ct E)
theorem is_break : IS X cl kp (.Break pos) sBk := ⟨fun W tk => ⟨_, ps_break, fun E σ H Z S D oe ok sat => sat σ H Z S oe .refl Step.refl ok⟩⟩
theorem is_continue : IS X cl kp (.Continue pos) sCt := ⟨fun W tk => ⟨_, ps_continue, fun E σ H Z S D oe ok sat => sat σ H Z S oe .refl Step.refl ok⟩⟩
/-- never come to -/
def sNo : Ev Fl := fun _ => none
theorem is_no : IS X cl kp st sNo := ⟨fun W tk => ⟨_, ps_never, fun E σ H Z S D oe ok sat => sat⟩⟩
theorem il_no : IL X cl kp rest sNo := ⟨fun W tk => ⟨_, pss_never, fun E σ H Z S D oe ok sat => sat⟩⟩
def sRet (te : Ev T) : Ev Fl := fun E => bnd (te E) fun r E1 => some (.ok (.ret r) E1)
theorem is_ret (h : IE X cl e te) : IS X cl kp (.Return (some e) pos) (sRet te) := by
  refine ⟨fun W tk => ?_⟩
  obtain ⟨te', p, q⟩ := h.run W tk
  refine ⟨_, ps_ret p, fun E σ H Z S D oe ok sat => ?_⟩
  refine q E σ H Z S _ oe ok (satV_bnd (β := Fl) (κ := Keep × Ends) (q := (kp, D)) sat fun r E1 sat1 v H1 Z1 Sr S1 oe1 ow1 d1 st1 ok1 => ?_)
  have sat2 : SatS X.K cl W kp σ H Z S D (some (.ok (.ret r) E1)) := sat1
  exact sat2 v σ H1 Z1 Sr S1 oe1 .refl ow1 d1 st1 ok1
def sRetN : Ev Fl := fun E => some (.ok (.ret (.fz .non)) E)
theorem is_retN : IS X cl kp (.Return none pos) sRetN := ⟨fun W tk => ⟨_, ps_retN, fun E σ H Z S D oe ok sat =>
  (sat : SatS X.K cl W kp σ H Z S D (some (.ok (.ret (.fz .non)) E))) .non σ H Z Emp S oe .refl (.fz .non) (fun _ z _ => z) (Step.refl.less fun a z => z.elim False.elim id) (ok.less fun a z => z.elim False.elim id)⟩⟩
def sDrop (te : Ev T) : Ev Fl := fun E => bnd (te E) fun _ E1 => some (.ok .nx E1)
theorem is_expr (h : IE X cl e te) (hs : swapsWith e none pos.line X.env = pure false := by rfl) : IS X cl kp (.Expr e pos) (sDrop te) := by
  refine ⟨fun W tk => ?_⟩
  obtain ⟨te', p, q⟩ := h.run W tk
  refine ⟨_, ps_expr p hs, fun E σ H Z S D oe ok sat => ?_⟩
  refine q E σ H Z S _ oe ok (satV_bnd (β := Fl) (κ := Keep × Ends) (q := (kp, D)) sat fun r E1 sat1 v H1 Z1 Sr S1 oe1 ow1 d1 st1 ok1 => ?_)
  have sat2 : SatS X.K cl W kp σ H Z S D (some (.ok .nx E1)) := sat1
  exact sat2 σ H1 Z1 S1 oe1 .refl (st1.less fun _ z => .inr z) (ok1.less fun _ z => .inr z)
def sIf (c : Ev Bool) (t u : Ev Fl) : Ev Fl := fun E => bnd (c E) fun b E1 => if b = true then t E1 else u E1
theorem is_if {c : Expr} {a b : List Stmt} {tc : Ev Bool} (hc : IB X cl c tc) (ha : IL X cl kp a t) (hb : IL X cl kp b u) : IS X cl kp (.If c a b pos) (sIf tc t u) := by
  refine ⟨fun W tk => ?_⟩
  obtain ⟨tc', pc, qc⟩ := hc.run W tk
  obtain ⟨ta', pa, qa⟩ := ha.run W tk
  obtain ⟨tb', pb, qb⟩ := hb.run W tk
  refine ⟨_, ps_if pc pa pb, fun E σ H Z S D oe ok sat => ?_⟩
  refine qc E σ H Z S _ oe ok (satB_bnd (β := Fl) (κ := Keep × Ends) (q := (kp, D)) sat fun b E1 sat1 H1 Z1 S1 oe1 st1 ok1 => ?_)
  have sat2 : SatS X.K cl W kp σ H Z S D (if b = true then t E1 else u E1) := sat1
  cases b with
  | true => exact qa E1 σ H1 Z1 S1 D oe1 ok1 (SatS.re st1 .refl sat2)
  | false => exact qb E1 σ H1 Z1 S1 D oe1 ok1 (SatS.re st1 .refl sat2)

/-! ### stores to names -/
theorem OwnE.into {K : PySem.W.Frag} {H : Hp} {Z : PA1} {E : En} {σ : L2.St} {S Si : PA1} {i : Nat} {t v} (h : OwnE K cl H Z E σ S) (q : Own K cl H Z t v Si) (d : Dis Si S) :
    OwnE K cl H Z (E.set i (some t)) (σ.set i (some v)) (Uni Si S) := by
  by_cases hi : i < E.length
  · exact OwnE.put (h.drop i) hi q d
  · rw [List.set_eq_of_length_le (Nat.le_of_not_lt hi), List.set_eq_of_length_le (by rw [← h.len]; exact Nat.le_of_not_lt hi)]
    exact h.up fun _ z => .inr z
/-- x = e, the value kept as it is: owned by x -/
def sOwn (i : Nat) (te : Ev T) : Ev Fl := fun E => bnd (te E) fun r E1 => some (.ok .nx (E1.set i (some r)))
/-- x = e, the value frozen -/
def sSet (i : Nat) (te : Ev T) : Ev Fl := fun E => bnd (te E) fun r E1 => some (.ok .nx (E1.set i (some (.fz (frz r)))))
theorem is_own (i : Nat) {x : Str} {pos' : Pos} (hN : X.N.Nodup) (he : IE X cl e te) (hi : X.N[i]? = some x := by rfl) (hx : Loc X.env.scope x := by first | exact .inl rfl | exact .inr rfl) (hk : kp i = false := by rfl)
    (hs : swapsWith e (some (.Name x pos')) pos.line X.env = pure false := by rfl) (hf : X.fn x = true ∨ X.env.scope.names.lookup x = some .local := by first | exact .inl rfl | exact .inr rfl) :
    IS X cl kp (.Assign [.Name x pos'] e pos) (sOwn i te) := by
  refine ⟨fun W tk => ?_⟩
  obtain ⟨te', p, q⟩ := he.run W tk
  refine ⟨_, ps_set hN hi hx p hs hf, fun E σ H Z S D oe ok sat => ?_⟩
  refine q E σ H Z S _ oe ok (satV_bnd (β := Fl) (κ := Keep × Ends) (q := (kp, D)) sat fun r E1 sat1 v H1 Z1 Sr S1 oe1 ow1 d1 st1 ok1 => ?_)
  have sat2 : SatS X.K cl W kp σ H Z S D (some (.ok .nx (E1.set i (some r)))) := sat1
  exact sat2 (σ.set i (some v)) H1 Z1 (Uni Sr S1) (oe1.into ow1 d1) (Kp.set hk) st1 ok1
theorem is_set (i : Nat) {x : Str} {pos' : Pos} (hN : X.N.Nodup) (he : IE X cl e te) (hi : X.N[i]? = some x := by rfl) (hx : Loc X.env.scope x := by first | exact .inl rfl | exact .inr rfl) (hk : kp i = false := by rfl)
    (hs : swapsWith e (some (.Name x pos')) pos.line X.env = pure false := by rfl) (hf : X.fn x = true ∨ X.env.scope.names.lookup x = some .local := by first | exact .inl rfl | exact .inr rfl) :
    IS X cl kp (.Assign [.Name x pos'] e pos) (sSet i te) := by
  refine ⟨fun W tk => ?_⟩
  obtain ⟨te', p, q⟩ := he.run W tk
  refine ⟨_, ps_set hN hi hx p hs hf, fun E σ H Z S D oe ok sat => ?_⟩
  refine q E σ H Z S _ oe ok (satV_bnd (β := Fl) (κ := Keep × Ends) (q := (kp, D)) sat fun r E1 sat1 v H1 Z1 Sr S1 oe1 ow1 d1 st1 ok1 => ?_)
  have sat2 : SatS X.K cl W kp σ H Z S D (some (.ok .nx (E1.set i (some (.fz (frz r)))))) := sat1
  obtain ⟨s2, o2⟩ := freezeStep ok1 d1
  have rp := ow1.frz (Z' := Uni Z1 Sr) (fun _ z => .inl z) fun _ z => .inr z
  exact sat2 (σ.set i (some v)) H1 (Uni Z1 Sr) S1 (((oe1.zmore (Z' := Uni Z1 Sr) fun _ z => .inl z).into (Si := Emp) (i := i) (.fz rp) fun _ z _ => z).up fun a z => z.elim False.elim id) (Kp.set hk) (st1.trans s2) o2
end

/-! ### a def's contract -/
/-- the owned parameters behind a run -/
@[simp] def maskE (kp : Keep) : Nat → Nat → En → En
  | _, 0, _ => []
  | i, n + 1, [] => none :: maskE kp (i + 1) n []
  | i, n + 1, e :: E => (if kp i = true then e else none) :: maskE kp (i + 1) n E
def SatF (K : PySem.W.Frag) (cl : Str → Addr) (vs : List V) (H : Hp) (Z S : PA1) (Q : VK) (E : XK) : Option (Out T) → Prop
  | none => False
  | some (.ok r P) => ∀ v H' Z' (Sr S' : PA1), OwnE K cl H' Z' P (vs.map some) S' → Own K cl H' Z' r v Sr → Dis Sr S' → Step H Z S H' Z' (Uni Sr S') → Okk H' Z' (Uni Sr S') → Q v H'
  | some (.ex x P) => ∀ c d H' Z' (S' : PA1), OwnE K cl H' Z' P (vs.map some) S' → ExR K cl H' Z' x c d → Step H Z S H' Z' S' → Okk H' Z' S' → E c d H'
def SpF (K : PySem.W.Frag) (cl : Str → Addr) (n : Nat) (F : List T → Option (Out T)) : Sp := fun vs H Q E =>
  vs.length = n ∧ ∃ (ts : List T) (Z S : PA1), OwnL K cl H Z ts vs S ∧ Okk H Z S ∧ SatF K cl vs H Z S Q E (F ts)
structure FnV (P : Program) (w : World) (K : PySem.W.Frag) (mg : Str → Option Value) (base : Heap) (cl : Str → Addr) (k : Nat) (f : Addr) (fd : FuncData) (ps : List Str) (F : List T → Option (Out T)) : Prop where
  run : ∀ (A : Around) (outer : List Env) (s : Shared) (H : Hp) (args : Args) (us : List Value) (vs : List V) (Q : VK) (E : XK), Room k A → A.guards = some [] → Env0 P w K mg base A outer s H → BindsTo s fd args (ps.zip us) → Vals vs us →
    SpF K cl ps.length F vs H Q E → codeAny (model P w) A (.call (.ref f) args) (CR (L2.CX P w) outer P w H s Q E) s
theorem FnV.mono {P : Program} {w : World} {K : PySem.W.Frag} {mg : Str → Option Value} {base : Heap} {cl : Str → Addr} {j k : Nat} {f : Addr} {fd : FuncData} {ps : List Str} {F : List T → Option (Out T)} (h : FnV P w K mg base cl j f fd ps F) (l : j ≤ k) : FnV P w K mg base cl k f fd ps F :=
  ⟨fun A outer s H args us vs Q E hr => h.run A outer s H args us vs Q E (hr.mono l)⟩
/-- the entry's names -/
def startE (N : List Str) (ts : List T) : En := ts.map some ++ List.replicate (N.length - ts.length) none
/-- a body's run as a function of the arguments -/
def runF (N : List Str) (n : Nat) (kp : Keep) (t : Ev Fl) : List T → Option (Out T) := fun ts =>
  match t (startE N ts) with
  | some (.ok (.ret r) E) => some (.ok r (maskE kp 0 n E))
  | some (.ok .nx E) => some (.ok (.fz .non) (maskE kp 0 n E))
  | some (.ex x E) => some (.ex x (maskE kp 0 n E))
  | _ => none
theorem OwnE.start {K : PySem.W.Frag} {cl : Str → Addr} {H : Hp} {Z : PA1} : ∀ {ts vs} {S : PA1} {n : Nat}, OwnL K cl H Z ts vs S → OwnE K cl H Z (ts.map some ++ List.replicate n none) (vs.map some ++ List.replicate n none) S
  | _, _, _, 0, .nil => .nl
  | _, _, _, n + 1, .nil => .no (OwnE.start (ts := []) (vs := []) (n := n) .nil)
  | _, _, _, n, .cons h r a1 a2 d => .so h (OwnE.start r) a1 a2 d
theorem OwnE.mask {K : PySem.W.Frag} {cl : Str → Addr} {H : Hp} {Z : PA1} {kp : Keep} : ∀ {vs : List V} {E : En} {τ : L2.St} {S : PA1} {i : Nat}, OwnE K cl H Z E τ S → (∀ j, kp (i + j) = true → j < vs.length → τ[j]? = (vs.map some)[j]?) →
    OwnE K cl H Z (maskE kp i vs.length E) (vs.map some) S
  | [], _, _, _, _, _, _ => by simp only [List.length_nil, maskE, List.map_nil]; exact .nl
  | v :: vs, [], τ, S, i, h, hk => by
    simp only [List.length_cons, List.map_cons, maskE]
    cases h
    exact .no (OwnE.mask (i := i + 1) (E := []) (τ := []) .nl fun j q hj => by
      have := hk (j + 1) (by rw [show i + (j + 1) = i + 1 + j by omega]; exact q) (by simpa using hj)
      simpa using this)
  | v :: vs, e :: E, τ, S, i, h, hk => by
    simp only [List.length_cons, List.map_cons, maskE]
    have hk' : ∀ {y : Option V} {τ' : L2.St}, τ = y :: τ' → ∀ j, kp (i + 1 + j) = true → j < vs.length → τ'[j]? = (vs.map some)[j]? := fun {y τ'} e j q hj => by
      have := hk (j + 1) (by rw [show i + (j + 1) = i + 1 + j by omega]; exact q) (by simpa using hj)
      rw [e] at this
      simpa using this
    cases h with
    | @no x _ σ _ r =>
      have ih := OwnE.mask (vs := vs) (i := i + 1) r (hk' rfl)
      split <;> exact .no ih
    | @so t v' _ σ _ S1 S2 q r a1 a2 d =>
      have ih := OwnE.mask (vs := vs) (i := i + 1) r (hk' rfl)
      split
      · rename_i hi
        have e := hk 0 (by simpa using hi) (by simp)
        simp at e
        subst e
        exact .so q ih a1 a2 d
      · exact .no (ih.up a2)
section
variable {P : Program} {w : World} {K : PySem.W.Frag} {mg : Str → Option Value} {base : Heap} {cl : Str → Addr}
/-- a def by its body's evaluator -/
theorem fnv_of {x qual : Str} {params : Arguments} {body : List Stmt} {scope : Scope} {dvs : List V} {kws : List (Str × V)} {f : Addr} {fd : FuncData} {N ps : List Str} {k : Nat} {kp : Keep} {t : Ev Fl}
    (F : FunD K x qual params body scope dvs kws f fd) (Sc : FnScope N ps scope)
    (hb : ∀ (cdv : Value) (A : Around) (outer : List Env) (s : Shared) (H : Hp) (E : XK), Room k (A.deeper (envOfC qual scope s.heap.objs.size f cdv)) → (A.deeper (envOfC qual scope s.heap.objs.size f cdv)).guards = some [] →
      IL (cxOf (L2.CX P w) P w K mg base N qual scope f cdv A outer s H E) cl kp body t) : FnV P w K mg base cl (k + 1) f fd ps (runF N ps.length kp t) := by
  obtain ⟨oc, od, dV, kV, doc, pm, an, cdv, ct, osl, rfl, lk, hcd, _, _⟩ := F.ex
  refine ⟨fun A outer s H args us vs Q E hr hg e0 hbd rv sp => ?_⟩
  obtain ⟨hl, ts, Z, S, ow, ok, sat⟩ := sp
  have kin : K.In s.heap := e0.mod.kin.keeps fun b o e => (e0.bs b o e).1
  refine codeAny_call_function hr.depth (kin _ _ lk) rfl Sc.co Sc.gen rfl (PySem.W.codeRec_of kin hcd) (hbd _ _ _ _ ?_)
  have named : ∀ y ∈ ps.zip us, scope.names.lookup y.1 = some .local ∨ (scope.names.lookup y.1 = some .cell ∧ ((cellsFrom (s.heap.objs.size + 1) scope.names []).lookup y.1).isSome = true) := by
    rintro ⟨n, v⟩ hy
    exact (Sc.par n (List.of_mem_zip hy).1).imp id fun q => ⟨q, PySem.W.cellsFrom_some _ _ _ (.inl q)⟩
  refine wpAny_newFunctionEnv_cells Sc.kind named fun env he s1 x1 => ?_
  cases he
  refine ⟨(e0.mod.nolimit.keeps fun b o e => (e0.bs b o e).1).keeps x1.toInCall.keep, codeAny_func ?_⟩
  have I := inv_start (CX := L2.CX P w) (E := E) Sc hr.hd e0 hl rv x1
  obtain ⟨ts', pss, hrun⟩ := (hb cdv A outer s H E (hr.deeper _) hg).run (fun c d _ H' => E c d H') (takes_of rfl rfl rfl rfl)
  have hts : ts.length = vs.length := ow.len
  have hNl : ps.length ≤ N.length := by
    have := congrArg List.length Sc.pre
    rw [List.length_take] at this
    omega
  have start0 : OwnE K cl H Z (startE N ts) (start N vs) S := by
    unfold startE L2.start
    rw [hts]
    exact OwnE.start ow
  -- the parameters behind the run
  have back : ∀ {E' : En} {τ : L2.St} {H' : Hp} {Z' S' : PA1}, OwnE K cl H' Z' E' τ S' → Kp kp (start N vs) τ → OwnE K cl H' Z' (maskE kp 0 ps.length E') (vs.map some) S' := by
    intro E' τ H' Z' S' oe kk
    rw [← hl]
    refine OwnE.mask (i := 0) oe fun j hj hlt => ?_
    rw [kk.2 j (by simpa using hj)]
    unfold L2.start
    rw [List.getElem?_append_left (by rw [List.length_map]; exact hlt)]
  refine wpAny_mono (pss.run [] s1 (start N vs) H { nx := fun _ H' => Q .non H', rt := Q } I (hrun _ _ _ Z S _ start0 ok ?_)) (fun fl s' hs => ?_) fun e s' hs => hs
  · unfold runF at sat
    match hE : t (startE N ts), sat with
    | some (.ok .nx E'), sat =>
      intro τ H' Z' S' oe kk st' ok'
      exact sat .non H' Z' Emp S' (back oe kk) (.fz .non) (fun _ z _ => z) (st'.less fun a z => z.elim False.elim id) (ok'.less fun a z => z.elim False.elim id)
    | some (.ok (.ret r) E'), sat =>
      intro v τ H' Z' Sr S' oe kk ow' d' st' ok'
      exact sat v H' Z' Sr S' (back oe kk) ow' d' st' ok'
    | some (.ex x E'), sat =>
      intro c d τ H' Z' S' oe kk xr st' ok'
      exact sat c d H' Z' S' (back oe kk) xr st' ok'
    | some (.ok .bk E'), sat => exact sat.elim
    | some (.ok .ct E'), sat => exact sat.elim
    | none, sat => exact sat.elim
  · have fin : ∀ {τ : L2.St} {H' : Hp} {v : V} {u : Value}, Inv (cxOf (L2.CX P w) P w K mg base N qual scope f cdv A outer s H E) [] τ H' s' → RelV v u → Q v H' → CE outer P w H s Q u s' :=
      fun {τ H' v u} J r q => ⟨v, H', J.os, J.bare, J.base, J.hok, r, q⟩
    cases fl with
    | ret u =>
      obtain ⟨v, τ, H', J, r, q⟩ := hs
      exact fin J r q
    | next =>
      obtain ⟨τ, H', J, q⟩ := hs
      exact fin (v := V.non) (u := Value.none) J rfl q
    | brk =>
      obtain ⟨_, _, _, q⟩ := hs
      exact q.elim
    | cont =>
      obtain ⟨_, _, _, q⟩ := hs
      exact q.elim
end
end VL

namespace VL
open PySem PySem.Spec PyProof.Rows L2

/-! ### arguments that may be handed over for the time of the call -/
inductive Mv (σ : L2.St) : List (Option Nat) → List V → Prop
  | nil : Mv σ [] []
  | no {ms v vs} : Mv σ ms vs → Mv σ (none :: ms) (v :: vs)
  | so {i ms v vs} : σ[i]? = some (some v) → Mv σ ms vs → Mv σ (some i :: ms) (v :: vs)
theorem Mv.len {σ : L2.St} {ms vs} (m : Mv σ ms vs) : vs.length = ms.length := by
  induction m with
  | nil => rfl
  | no _ ih => simp [ih]
  | so _ _ ih => simp [ih]
def SatM (K : PySem.W.Frag) (cl : Str → Addr) (W : WX) (ms : List (Option Nat)) (σ : L2.St) (H : Hp) (Z S : PA1) (Q : List V → Hp → Prop) : Option (Out (List T)) → Prop
  | none => False
  | some (.ok ts E') => ∀ vs H' Z' (St S' : PA1), OwnE K cl H' Z' E' σ S' → OwnL K cl H' Z' ts vs St → Dis St S' → Mv σ ms vs → Step H Z S H' Z' (Uni St S') → Okk H' Z' (Uni St S') → Q vs H'
  | some (.ex x E') => SatX K cl W σ H Z S x E'
theorem SatM.re {K : PySem.W.Frag} {cl : Str → Addr} {W : WX} {ms : List (Option Nat)} {σ : L2.St} {H H1 : Hp} {Z S Z1 S1 : PA1} {Q : List V → Hp → Prop} {o} (st : Step H Z S H1 Z1 S1) (h : SatM K cl W ms σ H Z S Q o) : SatM K cl W ms σ H1 Z1 S1 Q o := by
  match o with
  | none => exact h
  | some (.ok r E') => exact fun v H' Z' St S' a b d m s o => h v H' Z' St S' a b d m (st.trans s) o
  | some (.ex x E') => exact SatX.re st h
instance : Sats (List T) (List (Option Nat) × (List V → Hp → Prop)) := ⟨fun K cl W σ H Z S q o => SatM K cl W q.1 σ H Z S q.2 o, fun st h => SatM.re st h, fun h => h, fun h => h⟩
structure IM (X : Cx) (cl : Str → Addr) (es : List Expr) (ms : List (Option Nat)) (t : Ev (List T)) : Prop where
  run : ∀ W, Takes X W → ∃ ta, PA X es ta ∧ ∀ E σ H Z (S : PA1) Q, OwnE X.K cl H Z E σ S → Okk H Z S → SatM X.K cl W ms σ H Z S Q (t E) → ta σ H Q
section
variable {X : Cx} {cl : Str → Addr} {a : Expr} {es : List Expr} {ta : Ev T} {ts : Ev (List T)} {ms : List (Option Nat)} {pos : Pos}
def mNil : Ev (List T) := fun E => some (.ok [] E)
theorem im_nil : IM X cl [] [] mNil := ⟨fun W tk => ⟨_, pa_nil, fun E σ H Z S Q oe ok sat =>
  (sat : SatM X.K cl W [] σ H Z S Q (some (.ok [] E))) [] H Z Emp S oe .nil (fun _ z _ => z) .nil (Step.refl.less fun _ z => z.elim False.elim id) (ok.less fun _ z => z.elim False.elim id)⟩⟩
/-- an argument's value, owned by the callee -/
def mOwn (t : Ev T) (ts : Ev (List T)) : Ev (List T) := fun E => bnd (t E) fun x E1 => bnd (ts E1) fun xs E2 => some (.ok (x :: xs) E2)
/-- an argument's value, frozen -/
def mVal (t : Ev T) (ts : Ev (List T)) : Ev (List T) := fun E => bnd (t E) fun x E1 => bnd (ts E1) fun xs E2 => some (.ok (.fz (frz x) :: xs) E2)
theorem im_go {W : WX} {ta' : TE} {ts' : TA} {m : Option Nat} (f : T → T)
    (ha : ∀ E σ H Z (S : PA1) Q, OwnE X.K cl H Z E σ S → Okk H Z S → (match ta E with
      | none => False
      | some (.ok r E') => ∀ v H' Z' (Sr S' : PA1), OwnE X.K cl H' Z' E' σ S' → Own X.K cl H' Z' (f r) v Sr → Dis Sr S' → (∀ i, m = some i → σ[i]? = some (some v)) → Step H Z S H' Z' (Uni Sr S') → Okk H' Z' (Uni Sr S') → Q v H'
      | some (.ex x E') => SatX X.K cl W σ H Z S x E') → ta' σ H Q)
    (hs : ∀ E σ H Z (S : PA1) Q, OwnE X.K cl H Z E σ S → Okk H Z S → SatM X.K cl W ms σ H Z S Q (ts E) → ts' σ H Q)
    (E : En) (σ : L2.St) (H : Hp) (Z S : PA1) (Q : List V → Hp → Prop) (oe : OwnE X.K cl H Z E σ S) (ok : Okk H Z S)
    (sat : SatM X.K cl W (m :: ms) σ H Z S Q (bnd (ta E) fun x E1 => bnd (ts E1) fun xs E2 => some (.ok (f x :: xs) E2))) : tCons ta' ts' σ H Q := by
  refine ha E σ H Z S _ oe ok ?_
  match hE : ta E, sat with
  | none, sat => exact sat
  | some (.ex x E1), sat => exact sat
  | some (.ok r E1), sat =>
    intro v H1 Z1 Sr S1 oe1 ow1 d1 mv st1 ok1
    have ok1' : Okk H1 Z1 S1 := ok1.less fun _ z => .inr z
    refine hs E1 σ H1 Z1 S1 _ oe1 ok1' ?_
    simp only [bnd_ok] at sat
    match hE2 : ts E1, sat with
    | none, sat => exact sat
    | some (.ex x E2), sat => exact SatX.re (st1.less fun _ z => .inr z) sat
    | some (.ok xs E2), sat =>
      intro vs H2 Z2 St S2 oe2 ow2 d2 mv2 st2 ok2
      have sat2 : SatM X.K cl W (m :: ms) σ H Z S Q (some (.ok (f r :: xs) E2)) := sat
      have dd := st2.dis (R := Sr) (fun x z => ok1.sa x (.inl z)) d1
      have ow3 := st2.own ok1'.dis d1 ow1
      have st3 := st1.trans (st2.frame (R := Sr))
      have ok3 := st2.okk (R := Sr) ok1 ok2 d1
      have sub : ∀ x, Uni (Uni Sr St) S2 x → Uni Sr (Uni St S2) x := fun x z => z.elim (fun z => z.elim .inl fun z => .inr (.inl z)) fun z => .inr (.inr z)
      refine sat2 (v :: vs) H2 Z2 (Uni Sr St) S2 oe2 (.cons ow3 ow2 (fun _ z => .inl z) (fun _ z => .inr z) fun x z y => dd x z (.inl y)) (fun x z y => z.elim (fun z => dd x z (.inr y)) fun z => d2 x z y) ?_ (st3.less sub) (ok3.less sub)
      cases m with
      | none => exact .no mv2
      | some i => exact .so (mv i rfl) mv2
theorem im_own (ha : IE X cl a ta) (hs : IM X cl es ms ts) (hst : starEach (a :: es) X.env = (false, eval a X.env) :: starEach es X.env := by rfl) : IM X cl (a :: es) (none :: ms) (mOwn ta ts) := by
  refine ⟨fun W tk => ?_⟩
  obtain ⟨ta', pa, qa⟩ := ha.run W tk
  obtain ⟨ts', ps, qs⟩ := hs.run W tk
  refine ⟨_, pa_cons pa ps hst, im_go (m := none) (fun x => x) (fun E σ H Z S Q oe ok sat => qa E σ H Z S Q oe ok ?_) qs⟩
  match hE : ta E, sat with
  | none, sat => exact sat
  | some (.ex x E1), sat => exact sat
  | some (.ok r E1), sat => exact fun v H' Z' Sr S' b c d s o => sat v H' Z' Sr S' b c d (fun _ q => nomatch q) s o
theorem im_val (ha : IE X cl a ta) (hs : IM X cl es ms ts) (hst : starEach (a :: es) X.env = (false, eval a X.env) :: starEach es X.env := by rfl) : IM X cl (a :: es) (none :: ms) (mVal ta ts) := by
  refine ⟨fun W tk => ?_⟩
  obtain ⟨ta', pa, qa⟩ := ha.fz W tk
  obtain ⟨ts', ps, qs⟩ := hs.run W tk
  refine ⟨_, pa_cons pa ps hst, im_go (m := none) (fun x => .fz (frz x)) (fun E σ H Z S Q oe ok sat => qa E σ H Z S Q oe ok ?_) qs⟩
  match hE : ta E, sat with
  | none, sat => exact sat
  | some (.ex x E1), sat => exact sat
  | some (.ok r E1), sat => exact fun v H' Z' S' b c s o => sat v H' Z' Emp S' b (.fz c) (fun _ z _ => z) (fun _ q => nomatch q) (s.less fun _ z => z.elim False.elim id) (o.less fun _ z => z.elim False.elim id)
/-- a name's value handed over -/
theorem im_mov (i : Nat) {x : Str} {pos' : Pos} (hs : IM X cl es ms ts) (hN : X.N[i]? = some x := by rfl) (hv : Vis X.env.scope x := by first | exact Or.inl rfl | exact Or.inr (Or.inl rfl) | exact Or.inr (Or.inr rfl)) (hd : (x == ("__debug__" : Str)) = false := by decide) (hcd : (x == ("__classdict__" : Str)) = false := by decide)
    (hst : starEach (.Name x pos' :: es) X.env = (false, eval (.Name x pos') X.env) :: starEach es X.env := by rfl) : IM X cl (.Name x pos' :: es) (some i :: ms) (mOwn (eMov i) ts) := by
  refine ⟨fun W tk => ?_⟩
  obtain ⟨ts', ps, qs⟩ := hs.run W tk
  refine ⟨_, pa_cons (pe_var hN hv hd hcd) ps hst, im_go (m := some i) (fun x => x) (fun E σ H Z S Q oe ok sat => ?_) qs⟩
  unfold eMov at sat
  match hE : E[i]? with
  | none => rw [hE] at sat; exact sat.elim
  | some none => rw [hE] at sat; exact sat.elim
  | some (some t) =>
    rw [hE] at sat
    obtain ⟨v, Si, Sr, h1, h2, h3, h4, h5, h6⟩ := oe.take hE
    refine ⟨v, h1, sat v H Z Si Sr h3 h2 h4 (fun j q => ?_) (Step.refl.less fun a z => z.elim (h5 a) (h6 a)) (ok.less fun a z => z.elim (h5 a) (h6 a))⟩
    cases q
    exact h1

/-- a name's value handed over, taken behind the other arguments -/
def mLate (i : Nat) (ts : Ev (List T)) : Ev (List T) := fun E => match E[i]? with
  | some (some _) => bnd (ts E) fun xs E1 => match E1[i]? with
    | some (some t) => some (.ok (t :: xs) (E1.set i none))
    | _ => none
  | _ => none
theorem im_late (i : Nat) {x : Str} {pos' : Pos} (hs : IM X cl es ms ts) (hN : X.N[i]? = some x := by rfl) (hv : Vis X.env.scope x := by first | exact Or.inl rfl | exact Or.inr (Or.inl rfl) | exact Or.inr (Or.inr rfl)) (hd : (x == ("__debug__" : Str)) = false := by decide) (hcd : (x == ("__classdict__" : Str)) = false := by decide)
    (hst : starEach (.Name x pos' :: es) X.env = (false, eval (.Name x pos') X.env) :: starEach es X.env := by rfl) : IM X cl (.Name x pos' :: es) (some i :: ms) (mLate i ts) := by
  refine ⟨fun W tk => ?_⟩
  obtain ⟨ts', ps, qs⟩ := hs.run W tk
  refine ⟨_, pa_cons (pe_var hN hv hd hcd) ps hst, fun E σ H Z S Q oe ok sat => ?_⟩
  unfold mLate at sat
  match hE : E[i]?, sat with
  | none, sat => exact sat.elim
  | some none, sat => exact sat.elim
  | some (some t0), sat =>
    obtain ⟨v, Si, Sr, h1, h2, h3, h4, h5, h6⟩ := oe.take hE
    refine ⟨v, h1, ?_⟩
    refine qs E σ H Z S _ oe ok ?_
    dsimp only at sat
    match hT : ts E, sat with
    | none, sat => exact sat.elim
    | some (.ex x E1), sat => exact sat
    | some (.ok xs E1), sat =>
      intro vs H1 Z1 Sq S1 oe1 ow1 d1 mv st1 ok1
      simp only [bnd_ok] at sat
      match hE1 : E1[i]?, sat with
      | none, sat => exact sat.elim
      | some none, sat => exact sat.elim
      | some (some t), sat =>
        obtain ⟨v', Si', Sr', g1, g2, g3, g4, g5, g6⟩ := oe1.take hE1
        rw [h1] at g1
        cases g1
        have sat2 : SatM X.K cl W (some i :: ms) σ H Z S Q (some (.ok (t :: xs) (E1.set i none))) := sat
        have sub : ∀ a, Uni (Uni Si' Sq) Sr' a → Uni Sq S1 a := fun a z => z.elim (fun z => z.elim (fun z => .inr (g5 a z)) .inl) fun z => .inr (g6 a z)
        exact sat2 (v :: vs) H1 Z1 (Uni Si' Sq) Sr' g3 (.cons g2 ow1 (fun _ z => .inl z) (fun _ z => .inr z) fun a x y => d1 a y (g5 a x)) (fun a x y => x.elim (fun x => g4 a x y) fun x => d1 a x (g6 a y)) (.so h1 mv) (st1.less sub) (ok1.less sub)

/-- what was handed over comes back -/
def putB : List (Option Nat) → En → En → En
  | some i :: ms, p :: P, E => putB ms P (E.set i p)
  | none :: ms, _ :: P, E => putB ms P E
  | _, _, E => E
theorem OwnE.putB {K : PySem.W.Frag} {H : Hp} {Z : PA1} : ∀ {ms : List (Option Nat)} {P : En} {vs : List V} {E : En} {σ : L2.St} {S R : PA1}, OwnE K cl H Z P (vs.map some) R → OwnE K cl H Z E σ S → Dis R S → Mv σ ms vs → OwnE K cl H Z (VL.putB ms P E) σ (Uni R S)
  | [], P, _, E, _, _, _, _, q, _, _ => by
    have e : VL.putB [] P E = E := by cases P <;> rfl
    rw [e]; exact q.up fun _ z => .inr z
  | none :: ms, [], _, E, _, _, _, _, q, _, _ => by
    have e : VL.putB (none :: ms) [] E = E := rfl
    rw [e]; exact q.up fun _ z => .inr z
  | some i :: ms, [], _, E, _, _, _, _, q, _, _ => by
    have e : VL.putB (some i :: ms) [] E = E := rfl
    rw [e]; exact q.up fun _ z => .inr z
  | none :: ms, p :: P, v :: vs, E, σ, S, R, h, q, d, m => by
    cases m with
    | no m =>
      cases h with
      | no r =>
        show OwnE K cl H Z (VL.putB ms P E) σ _
        exact OwnE.putB r q d m
      | so h r a1 a2 d2 =>
        show OwnE K cl H Z (VL.putB ms P E) σ _
        exact (OwnE.putB r q (fun x z y => d x (a2 x z) y) m).up fun x z => z.imp (a2 x) id
  | some i :: ms, none :: P, v :: vs, E, σ, S, R, h, q, d, m => by
    cases m with
    | so e m =>
      cases h with
      | no r =>
        show OwnE K cl H Z (VL.putB ms P (E.set i none)) σ _
        exact OwnE.putB r (q.drop i) d m
  | some i :: ms, some t :: P, v :: vs, E, σ, S, R, h, q, d, m => by
    cases m with
    | so e m =>
      cases h with
      | @so _ _ _ _ _ S1 S2 h r a1 a2 d2 =>
        have q1 := q.into (i := i) h fun x z y => d x (a1 x z) y
        rw [set_get e] at q1
        show OwnE K cl H Z (VL.putB ms P (E.set i (some t))) σ _
        exact (OwnE.putB r q1 (fun x z y => y.elim (fun y => d2 x y z) fun y => d x (a2 x z) y) m).up fun x z => z.elim (fun z => .inl (a2 x z)) fun z => z.imp (a1 x) id

/-! ### calls of the text's own defs -/
def eFn (F : List T → Option (Out T)) (ms : List (Option Nat)) (t : Ev (List T)) : Ev T := fun E => bnd (t E) fun ts E1 => match F ts with
  | none => none
  | some (.ok r P) => some (.ok r (putB ms P E1))
  | some (.ex x P) => some (.ex x (putB ms P E1))
/-- a promise, wished at the slots -/
theorem call_fin {W : WX} {F : List T → Option (Out T)} {n : Nat} {ts' : TA} (hs : ∀ E σ H Z (S : PA1) Q, OwnE X.K cl H Z E σ S → Okk H Z S → SatM X.K cl W ms σ H Z S Q (ts E) → ts' σ H Q)
    (E : En) (σ : L2.St) (H : Hp) (Z S : PA1) (Q : VK) (oe : OwnE X.K cl H Z E σ S) (ok : Okk H Z S) (sat : SatV X.K cl W σ H Z S Q (eFn F ms ts E)) (hn : ms.length = n) :
    ts' σ H fun vs H1 => SpF X.K cl n F vs H1 Q fun c d H' => W c d σ H' := by
  refine hs E σ H Z S _ oe ok ?_
  unfold eFn at sat
  match hE : ts E, sat with
  | none, sat => exact sat
  | some (.ex x E1), sat => exact sat
  | some (.ok xs E1), sat =>
    intro vs H1 Z1 St S1 oe1 ow1 d1 mv st1 ok1
    simp only [bnd_ok] at sat
    have hlen : vs.length = n := by
      rw [← hn]
      exact mv.len
    have okT : Okk H1 Z1 St := ok1.less fun _ z => .inl z
    have okS : Okk H1 Z1 S1 := ok1.less fun _ z => .inr z
    have d1' : Dis S1 St := fun x y z => d1 x z y
    refine ⟨hlen, xs, Z1, St, ow1, okT, ?_⟩
    match hF : F xs, sat with
    | none, sat => exact sat
    | some (.ok r P), sat =>
      intro v H2 Z2 Sr S2 oP owr d2 st2 ok2
      have sat2 : SatV X.K cl W σ H Z S Q (some (.ok r (VL.putB ms P E1))) := sat
      have dd := st2.dis okS.sa d1'
      have oe2 := st2.ownE okT.dis d1' oe1
      have st3 := st2.frame (R := S1)
      have ok3 := st2.okk (R := S1) (ok1.less fun _ z => z.elim .inr .inl) ok2 d1'
      have sub : ∀ x, Uni Sr (Uni S2 S1) x → Uni S1 (Uni Sr S2) x := fun x z => z.elim (fun z => .inr (.inl z)) fun z => z.elim (fun z => .inr (.inr z)) .inl
      refine sat2 v H2 Z2 Sr (Uni S2 S1) (oP.putB oe2 (fun x y z => dd x z (.inr y)) mv) owr (fun x y z => z.elim (d2 x y) fun z => dd x z (.inl y)) ?_ (ok3.less sub)
      exact ((st1.trans ((st3.more (R := Uni St S1) fun x z => z.elim .inr .inl))).less sub)
    | some (.ex x P), sat =>
      intro c d H2 Z2 S2 oP xr st2 ok2
      have sat2 : SatX X.K cl W σ H Z S x (VL.putB ms P E1) := sat
      have dd := st2.dis okS.sa d1'
      have oe2 := st2.ownE okT.dis d1' oe1
      have st3 := st2.frame (R := S1)
      have ok3 := st2.okk (R := S1) (ok1.less fun _ z => z.elim .inr .inl) ok2 d1'
      have sub : ∀ x, Uni S2 S1 x → Uni S1 S2 x := fun x z => z.elim .inr .inl
      refine sat2 c d H2 Z2 (Uni S2 S1) (oP.putB oe2 (fun x y z => dd x z y) mv) xr ?_ (ok3.less sub)
      exact ((st1.trans ((st3.more (R := Uni St S1) fun x z => z.elim .inr .inl))).less sub)
theorem run_fv {W : WX} {k : Nat} {f : Addr} {fd : FuncData} {ps : List Str} {F : List T → Option (Out T)} {pins : List (Addr × Obj)} {σ : L2.St} {H : Hp} {s : Shared} {Q : VK} {us : List Value} {vs : List V} (tk : Takes X W) (hF : FnV X.prog X.w X.K X.mg X.base cl k f fd ps F)
    (hr : Room k X.A) (hg : X.A.guards = some []) (hb : Binds X.K fd ps []) (I : Inv X pins σ H s) (r : Vals vs us) (h : SpF X.K cl ps.length F vs H Q fun c d H' => W c d σ H') : wpAny (model X.prog X.w) X.A (call (.ref f) us) (EP X pins σ Q) X.xe s := by
  have hl : us.length = ps.length := by rw [← r.length]; exact h.1
  have hbd := hb s us I.kIn (by rw [List.append_nil]; exact hl)
  rw [List.append_nil] at hbd
  refine wpAny_call (codeAny_mono (hF.run X.A X.stack s H ⟨us, []⟩ us vs Q _ hr hg I.env0 hbd r h) fun r s' hq => ?_)
  match r, hq with
  | .error e, hq => exact passAt tk σ pins H s e s' I hq
  | .ok (.ret u), hq => exact I.after hq
  | .ok .next, hq => exact hq.elim
  | .ok .brk, hq => exact hq.elim
  | .ok .cont, hq => exact hq.elim
theorem ie_call {x : Str} {p : Pos} {e : Expr} {k : Nat} {f : Addr} {fd : FuncData} {ps : List Str} {F : List T → Option (Out T)} (hF : FnV X.prog X.w X.K X.mg X.base cl k f fd ps F) (hr : Room k X.A) (hg : X.A.guards = some []) (hb : Binds X.K fd ps [])
    (hm : X.mg x = some (.ref f)) (hk : PySem.W.keepIn X.K (.ref f) = true) (ha : IM X cl (e :: es) ms ts) (hn : ms.length = ps.length := by rfl) (hgl : Gl X x := by rfl)
    (hdb : (x == ("__debug__" : Str)) = false := by decide) (he : starEach (e :: es) X.env = (false, eval e X.env) :: starEach es X.env := by rfl) (hpl : (backTo pos (starEach es X.env)).any (·.1) = false := by rfl) :
    IE X cl (.Call (.Name x p) (e :: es) [] pos) (eFn F ms ts) := by
  refine ⟨fun W tk => ?_⟩
  obtain ⟨ta, pa, qa⟩ := ha.run W tk
  refine ⟨fun σ H Q => ta σ H fun vs H1 => SpF X.K cl ps.length F vs H1 Q fun c d H' => W c d σ H', ⟨fun pins s σ H Q I h => ?_⟩, fun E σ H Z S Q oe ok sat => call_fin qa E σ H Z S Q oe ok sat hn⟩
  refine wpAny_Call_Name_kw (ld_glob I hgl hm ?_ hdb)
  refine PySem.W.callWith_K (h₀ := X.base) I.ok.mod.kin hk (thn (pa.run pos pins s σ H _ I h) fun us s1 ⟨vs, H1, I1, r, q⟩ => ⟨I1.kIn, ?_⟩) he hpl
  exact run_fv tk hF hr hg hb I1 r q
theorem ie_call0 {x : Str} {p : Pos} {k : Nat} {f : Addr} {fd : FuncData} {ps : List Str} {F : List T → Option (Out T)} (hF : FnV X.prog X.w X.K X.mg X.base cl k f fd ps F) (hr : Room k X.A) (hg : X.A.guards = some []) (hb : Binds X.K fd ps [])
    (hm : X.mg x = some (.ref f)) (hk : PySem.W.keepIn X.K (.ref f) = true) (hn : ps.length = 0 := by rfl) (hgl : Gl X x := by rfl) (hdb : (x == ("__debug__" : Str)) = false := by decide) :
    IE X cl (.Call (.Name x p) [] [] pos) (eFn F [] mNil) := by
  refine ⟨fun W tk => ?_⟩
  obtain ⟨ta, pa, qa⟩ := (im_nil (X := X) (cl := cl)).run W tk
  refine ⟨fun σ H Q => SpF X.K cl ps.length F [] H Q fun c d H' => W c d σ H', ⟨fun pins s σ H Q I h => ?_⟩, fun E σ H Z S Q oe ok sat => ?_⟩
  · refine wpAny_Call_Name_kw (ld_glob I hgl hm ?_ hdb)
    exact PySem.W.callWith_K0 I.kIn hk (run_fv (us := []) tk hF hr hg hb I .nil h)
  · exact call_fin (X := X) (ts := mNil) (ts' := fun _ H Q => Q [] H) (fun E σ H Z S Q oe ok sat => (sat : SatM X.K cl W [] σ H Z S Q (some (.ok [] E))) [] H Z Emp S oe .nil (fun _ z _ => z) .nil (Step.refl.less fun _ z => z.elim False.elim id) (ok.less fun _ z => z.elim False.elim id)) E σ H Z S Q oe ok sat hn.symm
end
end VL

namespace VL
open PySem PySem.Spec PyProof.Rows L2

/-! ### what is walked -/
def ItOk (K : PySem.W.Frag) (cl : Str → Addr) (J : It) (ds : List D) (H0 : Hp) (Z0 : PA1) : Prop :=
  ∀ i H (Z : PA1), (∀ a, Z0 a → Z a) → (∀ a, Z0 a → Kept H0 H a) → (∀ a, Z a → H a ≠ none) →
    (∀ d, ds[i]? = some d → J.go i H ∧ ∀ x H2, J.yld i H x H2 → ∃ Z2 : PA1, Step H Z Emp H2 Z2 Emp ∧ (∀ a, Z2 a → H2 a ≠ none) ∧ Rp K cl H2 Z2 d x) ∧ (i = ds.length → J.stop i H)
def SatI (K : PySem.W.Frag) (cl : Str → Addr) (W : WX) (σ : L2.St) (H : Hp) (Z S : PA1) (R : It → Hp → Prop) : Option (Out (List D)) → Prop
  | none => False
  | some (.ok ds E') => ∀ J H' Z' (S' : PA1), OwnE K cl H' Z' E' σ S' → ItOk K cl J ds H' Z' → Step H Z S H' Z' S' → Okk H' Z' S' → R J H'
  | some (.ex x E') => SatX K cl W σ H Z S x E'
structure II (X : Cx) (cl : Str → Addr) (tg iter : Expr) (t : Ev (List D)) : Prop where
  run : ∀ W, Takes X W → ∃ wi, PI X tg iter wi ∧ ∀ E σ H Z (S : PA1) R, OwnE X.K cl H Z E σ S → Okk H Z S → SatI X.K cl W σ H Z S R (t E) → wi σ H R
theorem satI_bnd {K : PySem.W.Frag} {cl : Str → Addr} {W : WX} {σ : L2.St} {H : Hp} {Z S : PA1} {β κ : Type} [Sats β κ] {q : κ} {o : Option (Out (List D))} {f : List D → En → Option (Out β)} {P : It → Hp → Prop} (h : Sats.sat K cl W σ H Z S q (bnd o f))
    (k : ∀ ds E1, Sats.sat K cl W σ H Z S q (f ds E1) → ∀ J H1 Z1 (S1 : PA1), OwnE K cl H1 Z1 E1 σ S1 → ItOk K cl J ds H1 Z1 → Step H Z S H1 Z1 S1 → Okk H1 Z1 S1 → P J H1) : SatI K cl W σ H Z S P o := by
  match o with
  | none => exact (Sats.no h).elim
  | some (.ok r E') => exact k r E' h
  | some (.ex x E') => exact Sats.ex h
theorem RpL.get {K : PySem.W.Frag} {cl : Str → Addr} {H : Hp} {Z : PA1} : ∀ {ds vs} {i : Nat} {d : D}, RpL K cl H Z ds vs → ds[i]? = some d → ∃ v, vs[i]? = some v ∧ Rp K cl H Z d v
  | _, _, _, _, .nil, h => by simp at h
  | _, _, 0, _, .cons q r, h => by simp at h; subst h; exact ⟨_, rfl, q⟩
  | _, _, i + 1, _, .cons q r, h => by
    obtain ⟨v, h1, h2⟩ := RpL.get r (i := i) (by simpa using h)
    exact ⟨v, by simpa using h1, h2⟩
section
variable {X : Cx} {cl : Str → Addr} {kp : Keep}
theorem itok_list {K : PySem.W.Frag} {H : Hp} {Z : PA1} {ds : List D} {a : Addr} (r : Rp K cl H Z (.lst ds) (.ref a)) : ItOk K cl (Itl K a) ds H Z := by
  intro i H1 Z1 hz hr hza
  have r1 := r.mono hz hr
  cases r1 with
  | @lst _ vs _ _ q rl =>
    refine ⟨fun d hd => ?_, fun e => ?_⟩
    · obtain ⟨v, hv, rv⟩ := rl.get hd
      refine ⟨⟨vs, v, SqL.of q, hv⟩, fun x H2 y => ?_⟩
      obtain ⟨e, y⟩ := y
      subst e
      have := y vs (SqL.of q)
      rw [hv] at this; cases this
      exact ⟨Z1, Step.refl, hza, rv⟩
    · exact ⟨vs, SqL.of q, by rw [e, rl.len]; exact Nat.le_refl _⟩
theorem itok_tup {K : PySem.W.Frag} {H : Hp} {Z : PA1} {ds : List D} {a : Addr} (r : Rp K cl H Z (.tup ds) (.ref a)) : ItOk K cl (Itt K a) ds H Z := by
  intro i H1 Z1 hz hr hza
  have r1 := r.mono hz hr
  cases r1 with
  | @tup _ vs _ _ q rl =>
    refine ⟨fun d hd => ?_, fun e => ?_⟩
    · obtain ⟨v, hv, rv⟩ := rl.get hd
      refine ⟨⟨vs, v, SqT.of q, hv⟩, fun x H2 y => ?_⟩
      obtain ⟨e, y⟩ := y
      subst e
      have := y vs (SqT.of q)
      rw [hv] at this; cases this
      exact ⟨Z1, Step.refl, hza, rv⟩
    · exact ⟨vs, SqT.of q, by rw [e, rl.len]; exact Nat.le_refl _⟩
def rngD (lo : Int) (n : Nat) : List D := (List.range n).map fun (i : Nat) => D.int (lo + (i : Int))
theorem itok_range {K : PySem.W.Frag} {H : Hp} {Z : PA1} {lo : Int} {n : Nat} : ItOk K cl (Itr lo n) (rngD lo n) H Z := by
  intro i H1 Z1 hz hr hza
  refine ⟨fun d hd => ?_, fun e => ?_⟩
  · unfold rngD at hd
    rw [List.getElem?_map] at hd
    by_cases hi : i < n
    · rw [List.getElem?_range hi] at hd
      cases hd
      refine ⟨hi, fun x H2 y => ?_⟩
      obtain ⟨e, y⟩ := y
      subst e
      subst y
      exact ⟨Z1, Step.refl, hza, .int _⟩
    · rw [List.getElem?_eq_none (by simpa using hi)] at hd; cases hd
  · unfold rngD at e
    simp at e
    show n ≤ i
    omega

/-- a list is walked -/
def iLst (t : Ev T) : Ev (List D) := fun E => bnd (t E) fun r E1 => match frz r with | .lst ds => some (.ok ds E1) | _ => none
def iTup' (t : Ev T) : Ev (List D) := fun E => bnd (t E) fun r E1 => match frz r with | .tup ds => some (.ok ds E1) | _ => none
theorem ii_list {tg l : Expr} {t : Ev T} (h : IE X cl l t) : II X cl tg l (iLst t) := by
  refine ⟨fun W tk => ?_⟩
  obtain ⟨te, p, q⟩ := h.fz W tk
  refine ⟨_, pi_list p, fun E σ H Z S R oe ok sat => ?_⟩
  refine q E σ H Z S _ oe ok ?_
  unfold iLst at sat
  match hE : t E, sat with
  | none, sat => exact sat
  | some (.ex x E1), sat => exact sat
  | some (.ok r E1), sat =>
    intro v H1 Z1 S1 oe1 rp st1 ok1
    simp only [bnd_ok] at sat
    match hf : frz r, sat with
    | .lst ds, sat =>
      rw [hf] at rp
      cases rp with
      | @lst a vs _ q0 q1 rl => exact ⟨a, rfl, ⟨vs, SqL.of q1⟩, sat _ H1 Z1 S1 oe1 (itok_list (.lst q0 q1 rl)) st1 ok1⟩
theorem ii_tup {tg l : Expr} {t : Ev T} (h : IE X cl l t) : II X cl tg l (iTup' t) := by
  refine ⟨fun W tk => ?_⟩
  obtain ⟨te, p, q⟩ := h.fz W tk
  refine ⟨_, pi_tup p, fun E σ H Z S R oe ok sat => ?_⟩
  refine q E σ H Z S _ oe ok ?_
  unfold iTup' at sat
  match hE : t E, sat with
  | none, sat => exact sat
  | some (.ex x E1), sat => exact sat
  | some (.ok r E1), sat =>
    intro v H1 Z1 S1 oe1 rp st1 ok1
    simp only [bnd_ok] at sat
    match hf : frz r, sat with
    | .tup ds, sat =>
      rw [hf] at rp
      cases rp with
      | @tup a vs _ q0 q1 rl => exact ⟨a, rfl, ⟨vs, SqT.of q1⟩, sat _ H1 Z1 S1 oe1 (itok_tup (.tup q0 q1 rl)) st1 ok1⟩
def iRange1 (ts : Ev (List D)) : Ev (List D) := fun E => bnd (ts E) fun xs E1 => match xs with
  | [.int j] => if -(2 ^ 62) ≤ j ∧ j < 2 ^ 62 then some (.ok (rngD 0 j.toNat) E1) else none
  | _ => none
def iRange2 (ts : Ev (List D)) : Ev (List D) := fun E => bnd (ts E) fun xs E1 => match xs with
  | [.int i, .int j] => if (-(2 ^ 62) ≤ i ∧ i < 2 ^ 62) ∧ (-(2 ^ 62) ≤ j ∧ j < 2 ^ 62) then some (.ok (rngD i (j - i).toNat) E1) else none
  | _ => none
theorem ii_range1 {tg a : Expr} {p pos : Pos} {ts : Ev (List D)} (hm : X.mg "range" = none) (ha : IA X cl [a] ts) (hg : Gl X "range" := by rfl) (hs : starEach [a] X.env = [(false, eval a X.env)] := by rfl) : II X cl tg (.Call (.Name "range" p) [a] [] pos) (iRange1 ts) := by
  refine ⟨fun W tk => ?_⟩
  obtain ⟨ta, pa, q⟩ := ha.run W tk
  refine ⟨_, pi_range1 hg hm pa hs, fun E σ H Z S R oe ok sat => ?_⟩
  refine q E σ H Z S _ oe ok ?_
  unfold iRange1 at sat
  match hE : ts E, sat with
  | none, sat => exact sat
  | some (.ex x E1), sat => exact sat
  | some (.ok xs E1), sat =>
    intro vs H1 Z1 S1 oe1 rps st1 ok1
    simp only [bnd_ok] at sat
    match xs, rps, sat with
    | [.int j], .cons (.int _) .nil, sat =>
      dsimp only at sat
      by_cases c : -(2 ^ 62) ≤ j ∧ j < 2 ^ 62
      · rw [if_pos c] at sat
        exact ⟨j, rfl, c.1, c.2, sat _ H1 Z1 S1 oe1 itok_range st1 ok1⟩
      · rw [if_neg c] at sat; exact sat.elim
theorem ii_range2 {tg a b : Expr} {p pos : Pos} {ts : Ev (List D)} (hm : X.mg "range" = none) (ha : IA X cl [a, b] ts) (hg : Gl X "range" := by rfl) (hs : starEach [a, b] X.env = [(false, eval a X.env), (false, eval b X.env)] := by rfl) (hs2 : starEach [b] X.env = [(false, eval b X.env)] := by rfl) : II X cl tg (.Call (.Name "range" p) [a, b] [] pos) (iRange2 ts) := by
  refine ⟨fun W tk => ?_⟩
  obtain ⟨ta, pa, q⟩ := ha.run W tk
  refine ⟨_, pi_range2 hg hm pa hs hs2, fun E σ H Z S R oe ok sat => ?_⟩
  refine q E σ H Z S _ oe ok ?_
  unfold iRange2 at sat
  match hE : ts E, sat with
  | none, sat => exact sat
  | some (.ex x E1), sat => exact sat
  | some (.ok xs E1), sat =>
    intro vs H1 Z1 S1 oe1 rps st1 ok1
    simp only [bnd_ok] at sat
    match xs, rps, sat with
    | [.int i, .int j], .cons (.int _) (.cons (.int _) .nil), sat =>
      dsimp only at sat
      by_cases c : (-(2 ^ 62) ≤ i ∧ i < 2 ^ 62) ∧ (-(2 ^ 62) ≤ j ∧ j < 2 ^ 62)
      · rw [if_pos c] at sat
        exact ⟨i, j, rfl, ⟨c.1.1, c.1.2, c.2.1, c.2.2⟩, sat _ H1 Z1 S1 oe1 itok_range st1 ok1⟩
      · rw [if_neg c] at sat; exact sat.elim

/-! ### targets -/
def SatG (K : PySem.W.Frag) (cl : Str → Addr) (kp : Keep) (σ : L2.St) (H : Hp) (Z S : PA1) (Q : L2.St → Hp → Prop) : Option En → Prop
  | none => False
  | some E' => ∀ τ H' Z' (S' : PA1), OwnE K cl H' Z' E' τ S' → Kp kp σ τ → Step H Z S H' Z' S' → Okk H' Z' S' → Q τ H'
structure IG (X : Cx) (cl : Str → Addr) (kp : Keep) (tg : Expr) (g : T → En → Option En) : Prop where
  run : ∃ g', PG X tg g' ∧ ∀ t v E σ H Z (St S : PA1) Q, OwnE X.K cl H Z E σ S → Own X.K cl H Z t v St → Dis St S → Okk H Z (Uni St S) → SatG X.K cl kp σ H Z (Uni St S) Q (g t E) → g' v σ H Q
/-- frozen into a name -/
def gSet (i : Nat) : T → En → Option En := fun t E => some (E.set i (some (.fz (frz t))))
/-- kept by a name -/
def gOwn (i : Nat) : T → En → Option En := fun t E => some (E.set i (some t))
theorem ig_set (i : Nat) {x : Str} {pos : Pos} (hN : X.N.Nodup) (hi : X.N[i]? = some x := by rfl) (hx : Loc X.env.scope x := by first | exact .inl rfl | exact .inr rfl) (hk : kp i = false := by rfl)
    (hf : X.fn x = true ∨ X.env.scope.names.lookup x = some .local := by first | exact .inl rfl | exact .inr rfl) : IG X cl kp (.Name x pos) (gSet i) := by
  refine ⟨_, pg_name hN hi hx hf, fun t v E σ H Z St S Q oe ow d ok sat => ?_⟩
  have sat2 : SatG X.K cl kp σ H Z (Uni St S) Q (some (E.set i (some (.fz (frz t))))) := sat
  obtain ⟨s2, o2⟩ := freezeStep ok d
  have rp := ow.frz (Z' := Uni Z St) (fun _ z => .inl z) fun _ z => .inr z
  exact sat2 (σ.set i (some v)) H (Uni Z St) S (((oe.zmore (Z' := Uni Z St) fun _ z => .inl z).into (Si := Emp) (i := i) (.fz rp) fun _ z _ => z).up fun a z => z.elim False.elim id) (Kp.set hk) s2 o2
theorem ig_own (i : Nat) {x : Str} {pos : Pos} (hN : X.N.Nodup) (hi : X.N[i]? = some x := by rfl) (hx : Loc X.env.scope x := by first | exact .inl rfl | exact .inr rfl) (hk : kp i = false := by rfl)
    (hf : X.fn x = true ∨ X.env.scope.names.lookup x = some .local := by first | exact .inl rfl | exact .inr rfl) : IG X cl kp (.Name x pos) (gOwn i) := by
  refine ⟨_, pg_name hN hi hx hf, fun t v E σ H Z St S Q oe ow d ok sat => ?_⟩
  have sat2 : SatG X.K cl kp σ H Z (Uni St S) Q (some (E.set i (some t))) := sat
  exact sat2 (σ.set i (some v)) H Z (Uni St S) (oe.into ow d) (Kp.set hk) Step.refl ok
/-- several names -/
structure IGs (X : Cx) (cl : Str → Addr) (kp : Keep) (tgs : List Expr) (g : List T → En → Option En) : Prop where
  run : ∃ g', PGs X tgs g' ∧ ∀ ts vs E σ H Z (St S : PA1) Q, OwnE X.K cl H Z E σ S → OwnL X.K cl H Z ts vs St → Dis St S → Okk H Z (Uni St S) → SatG X.K cl kp σ H Z (Uni St S) Q (g ts E) → g' vs σ H Q
def gNil' : List T → En → Option En := fun ts E => match ts with | [] => some E | _ => none
def gCons' (g : T → En → Option En) (gs : List T → En → Option En) : List T → En → Option En := fun ts E => match ts with
  | [] => none
  | t :: r => match g t E with | none => none | some E1 => gs r E1
theorem igs_nil : IGs X cl kp [] gNil' := by
  refine ⟨_, pgs_nil, fun ts vs E σ H Z St S Q oe ow d ok sat => ?_⟩
  match ts, vs, ow, sat with
  | [], [], _, sat => exact ⟨rfl, sat σ H Z S oe .refl (Step.refl.less fun _ z => .inr z) (ok.less fun _ z => .inr z)⟩
theorem igs_cons {tg : Expr} {tgs : List Expr} {g : T → En → Option En} {gs : List T → En → Option En} (h : IG X cl kp tg g) (hs : IGs X cl kp tgs gs)
    (he : (assignEach (tg :: tgs) X.env).map (·.2) = assign tg X.env :: (assignEach tgs X.env).map (·.2) := by rfl) : IGs X cl kp (tg :: tgs) (gCons' g gs) := by
  obtain ⟨g1, p1, q1⟩ := h.run
  obtain ⟨g2, p2, q2⟩ := hs.run
  refine ⟨_, pgs_cons p1 p2 he, fun ts vs E σ H Z St S Q oe ow d ok sat => ?_⟩
  match ts, vs, ow, sat with
  | t :: r, v :: vr, .cons (S1 := S1) (S2 := S2) q qr a1 a2 dd, sat =>
    refine ⟨v, vr, rfl, ?_⟩
    have dS : Dis S1 (Uni S2 S) := fun x y z => z.elim (dd x y) (d x (a1 x y))
    have ok1 : Okk H Z (Uni S1 S) := ok.less fun x z => z.imp (a1 x) id
    refine q1 t v E σ H Z S1 S _ oe q (fun x y z => d x (a1 x y) z) ok1 ?_
    simp only [gCons'] at sat
    match hE : g t E, sat with
    | none, sat => exact sat
    | some E1, sat =>
      dsimp only at sat
      intro τ H1 Z1 S1' oe1 kk st1 okk1
      have dd2 : Dis S2 (Uni S1 S) := fun x y z => z.elim (fun z => dd x z y) (d x (a2 x y))
      have okS2 : Okk H Z (Uni S2 (Uni S1 S)) := ok.less fun x z => z.elim (fun z => .inl (a2 x z)) fun z => z.imp (a1 x) id
      have ow2 := st1.ownL ok1.dis dd2 qr
      have d3 := st1.dis (R := S2) (fun x z => ok.sa x (.inl (a2 x z))) dd2
      have ok3 := st1.okk (R := S2) okS2 okk1 dd2
      refine q2 r vr E1 τ H1 Z1 S2 S1' Q oe1 ow2 d3 ok3 ?_
      have st2 : Step H Z (Uni St S) H1 Z1 (Uni S2 S1') := (st1.frame (R := S2)).more fun x z => z.elim (fun z => .inl (a2 x z)) fun z => z.imp (a1 x) id
      match hE2 : gs r E1, sat with
      | none, sat => exact sat
      | some E2, sat => exact fun υ H2 Z2 S2' oe2 kk2 st3 okk3 => sat υ H2 Z2 S2' oe2 (kk.trans kk2) (st2.trans st3) okk3
/-- (a, b, ..) -/
def gTup' (n : Nat) (gs : List T → En → Option En) : T → En → Option En := fun t E => match t with
  | .tup ts => if ts.length = n then gs ts E else none
  | .fz (.tup ds) => if ds.length = n then gs (ds.map .fz) E else none
  | _ => none
theorem OwnL.fzs {K : PySem.W.Frag} {H : Hp} {Z : PA1} : ∀ {ds vs} {S : PA1}, RpL K cl H Z ds vs → OwnL K cl H Z (ds.map .fz) vs S
  | _, _, _, .nil => .nil
  | _, _, S, .cons q r => .cons (S1 := Emp) (S2 := Emp) (.fz q) (OwnL.fzs r) (fun _ z => z.elim) (fun _ z => z.elim) fun _ z _ => z
theorem ig_tup {es : List Expr} {k : Nat} {gs : List T → En → Option En} {n : Nat} {pos : Pos} (hc : X.calm = true) (h : IGs X cl kp es gs)
    (hn : (assignEach es X.env).length = n := by rfl) (hst : (assignEach es X.env).findIdx? (·.1) = none := by rfl) : IG X cl kp (.Tuple es k pos) (gTup' n gs) := by
  obtain ⟨g', p, q⟩ := h.run
  refine ⟨_, pg_tup hc p hn hst, fun t v E σ H Z St S Q oe ow d ok sat => ?_⟩
  match t, ow, sat with
  | .tup ts, .tup (a := a) (vs := vs) (R := R) h1 h2 h3 r, sat =>
    simp only [gTup'] at sat
    by_cases c : ts.length = n
    · rw [if_pos c] at sat
      refine ⟨a, vs, rfl, SqT.of h1, by rw [← r.len]; exact c, q ts vs E σ H Z R S Q oe r (fun x y z => d x (h3 x y).1 z) (ok.less fun x z => z.imp (fun z => (h3 x z).1) id) ?_⟩
      match hE : gs ts E, sat with
      | none, sat => exact sat
      | some E1, sat => exact fun τ H1 Z1 S1 oe1 kk st1 ok1 => sat τ H1 Z1 S1 oe1 kk (st1.more fun x z => z.imp (fun z => (h3 x z).1) id) ok1
    · rw [if_neg c] at sat; exact sat.elim
  | .fz (.tup ds), .fz (.tup (a := a) (vs := vs) q0 q1 rl), sat =>
    simp only [gTup'] at sat
    by_cases c : ds.length = n
    · rw [if_pos c] at sat
      refine ⟨a, vs, rfl, SqT.of q1, by rw [← rl.len]; exact c, q (ds.map .fz) vs E σ H Z St S Q oe (OwnL.fzs rl) d ok sat⟩
    · rw [if_neg c] at sat; exact sat.elim
/-- target = value -/
def sAsg (te : Ev T) (g : T → En → Option En) : Ev Fl := fun E => bnd (te E) fun r E1 => match g r E1 with | none => none | some E2 => some (.ok .nx E2)
theorem is_asg {tg e : Expr} {te : Ev T} {g : T → En → Option En} {pos : Pos} (he : IE X cl e te) (hg : IG X cl kp tg g) (hs : swapsWithSole [tg] e pos.line X.env = pure false := by rfl) (hw : swappedStores [tg] e X.env = pure none := by rfl)
    (h1 : (assignEach [tg] X.env).map (·.2) = [assign tg X.env] := by rfl) : IS X cl kp (.Assign [tg] e pos) (sAsg te g) := by
  refine ⟨fun W tk => ?_⟩
  obtain ⟨te', p, q⟩ := he.run W tk
  obtain ⟨g', pg, qg⟩ := hg.run
  refine ⟨_, ps_asg p pg hs hw h1, fun E σ H Z S D oe ok sat => ?_⟩
  refine q E σ H Z S _ oe ok (satV_bnd (β := Fl) (κ := Keep × Ends) (q := (kp, D)) sat fun r E1 sat1 v H1 Z1 Sr S1 oe1 ow1 d1 st1 ok1 => ?_)
  refine qg r v E1 σ H1 Z1 Sr S1 _ oe1 ow1 d1 ok1 ?_
  match hE : g r E1 with
  | none => rw [hE] at sat1; exact sat1.elim
  | some E2 =>
    rw [hE] at sat1
    have sat2 : SatS X.K cl W kp σ H Z S D (some (.ok .nx E2)) := sat1
    exact fun τ H2 Z2 S2 oe2 kk st2 ok2 => sat2 τ H2 Z2 S2 oe2 kk (st1.trans st2) ok2

/-! ### for -/
def forE (g : T → En → Option En) (tb : Ev Fl) : List D → En → Option (Out Fl)
  | [], E => some (.ok .nx E)
  | d :: ds, E => match g (.fz d) E with
    | none => none
    | some E1 => match tb E1 with
      | some (.ok .nx E2) => forE g tb ds E2
      | some (.ok .ct E2) => forE g tb ds E2
      | some (.ok .bk E2) => some (.ok .nx E2)
      | some (.ok (.ret r) E2) => some (.ok (.ret r) E2)
      | some (.ex x E2) => some (.ex x E2)
      | none => none
def sFor (ti : Ev (List D)) (g : T → En → Option En) (tb : Ev Fl) : Ev Fl := fun E => bnd (ti E) fun ds E1 => forE g tb ds E1
theorem is_for {tg iter : Expr} {body : List Stmt} {ti : Ev (List D)} {g : T → En → Option En} {tb : Ev Fl} {pos : Pos} (hp : PassesOwn (model X.prog X.w) X.A X.env X.xe) (hc : X.calm = true) (hi : II X cl tg iter ti) (hg : IG X cl kp tg g) (hb : IL X cl kp body tb)
    (hs : ∀ x, foldedSetIterable iter X.env x = pure x := by intro _; rfl) : IS X cl kp (.For tg iter body [] pos) (sFor ti g tb) := by
  refine ⟨fun W tk => ?_⟩
  obtain ⟨wi, pi, qi⟩ := hi.run W tk
  obtain ⟨g', pg, qg⟩ := hg.run
  obtain ⟨tb', pb, qb⟩ := hb.run W tk
  refine ⟨_, ps_for hp hc pi pg pb hs, fun E σ H Z S D oe ok sat => ?_⟩
  refine qi E σ H Z S _ oe ok (satI_bnd (β := Fl) (κ := Keep × Ends) (q := (kp, D)) sat fun ds E1 sat1 J H1 Z1 S1 oe1 it st1 ok1 => ?_)
  have sat2 : SatS X.K cl W kp σ H1 Z1 S1 D (forE g tb ds E1) := SatS.re st1 .refl sat1
  refine ⟨fun i m σ' H' => i ≤ ds.length ∧ m = ds.length - i ∧ ∃ E' Z' S', OwnE X.K cl H' Z' E' σ' S' ∧ Kp kp σ σ' ∧ Step H1 Z1 S1 H' Z' S' ∧ Okk H' Z' S' ∧ SatS X.K cl W kp σ' H' Z' S' D (forE g tb (ds.drop i) E'),
    ⟨_, Nat.zero_le _, rfl, E1, Z1, S1, oe1, .refl, Step.refl, ok1, by simpa using sat2⟩, ?_⟩
  rintro i m σ' H' ⟨hle, rfl, E', Z', S', oe', kk', st', ok', sat'⟩
  obtain ⟨go, stop⟩ := it i H' Z' st'.zz (st'.rd ok1.dis) ok'.za
  by_cases hlt : i < ds.length
  · obtain ⟨d, hd⟩ : ∃ d, ds[i]? = some d := ⟨ds[i], by simp [hlt]⟩
    have hdrop : ds.drop i = d :: ds.drop (i + 1) := by
      rw [List.drop_eq_getElem_cons hlt]
      have : ds[i]? = some ds[i] := by simp [hlt]
      rw [hd] at this; cases this; rfl
    rw [hdrop] at sat'
    obtain ⟨hgo, yl⟩ := go d hd
    refine .inr ⟨hgo, fun σ'' H'' => ∃ E'' Z'' S'', OwnE X.K cl H'' Z'' E'' σ'' S'' ∧ Kp kp σ σ'' ∧ Step H1 Z1 S1 H'' Z'' S'' ∧ Okk H'' Z'' S'' ∧ SatS X.K cl W kp σ'' H'' Z'' S'' D (forE g tb (ds.drop (i + 1)) E''), fun σ'' H'' q => ⟨ds.length - (i + 1), by omega, hlt, rfl, q⟩, fun x H2 y => ?_⟩
    obtain ⟨Z2, st2, za2, rp2⟩ := yl x H2 y
    -- the item has come
    have oe2 := st2.ownE (fun _ z => z.elim) (fun _ _ z => z) oe'
    have st2' : Step H' Z' S' H2 Z2 S' := ((st2.frame (R := S')).more fun a z => z.elim id False.elim).less fun a z => .inl z
    have ok2 : Okk H2 Z2 S' := (st2.okk (R := S') (ok'.less fun a z => z.elim id False.elim) ⟨fun _ z => z.elim, fun _ z => z.elim, za2⟩ fun _ _ z => z).less fun a z => .inl z
    refine qg (.fz d) x E' σ' H2 Z2 Emp S' _ oe2 (.fz rp2) (fun _ z _ => z) (ok2.less fun a z => z.elim False.elim id) ?_
    simp only [forE] at sat'
    match hE : g (.fz d) E', sat' with
    | none, sat' => exact sat'
    | some E3, sat' =>
      dsimp only at sat'
      intro τ H3 Z3 S3 oe3 kk3 st3 ok3
      have st3' : Step H' Z' S' H3 Z3 S3 := st2'.trans (st3.more fun a z => z.elim False.elim id)
      refine qb E3 τ H3 Z3 S3 _ oe3 ok3 ?_
      match hE2 : tb E3, sat' with
      | none, sat' => exact sat'
      | some (.ok .nx E4), sat' => exact fun υ H4 Z4 S4 oe4 kk4 st4 ok4 => ⟨E4, Z4, S4, oe4, (kk'.trans kk3).trans kk4, (st'.trans st3').trans st4, ok4, SatS.re (st3'.trans st4) (kk3.trans kk4) sat'⟩
      | some (.ok .ct E4), sat' => exact fun υ H4 Z4 S4 oe4 kk4 st4 ok4 => ⟨E4, Z4, S4, oe4, (kk'.trans kk3).trans kk4, (st'.trans st3').trans st4, ok4, SatS.re (st3'.trans st4) (kk3.trans kk4) sat'⟩
      | some (.ok .bk E4), sat' => exact fun υ H4 Z4 S4 oe4 kk4 st4 ok4 => sat' υ H4 Z4 S4 oe4 (kk3.trans kk4) (st3'.trans st4) ok4
      | some (.ok (.ret r) E4), sat' => exact fun v υ H4 Z4 Sr S4 oe4 kk4 ow4 d4 st4 ok4 => sat' v υ H4 Z4 Sr S4 oe4 (kk3.trans kk4) ow4 d4 (st3'.trans st4) ok4
      | some (.ex e E4), sat' => exact fun c d υ H4 Z4 S4 oe4 kk4 xr st4 ok4 => sat' c d υ H4 Z4 S4 oe4 (kk3.trans kk4) xr (st3'.trans st4) ok4
  · have e : i = ds.length := by omega
    subst e
    rw [List.drop_length] at sat'
    exact .inl ⟨stop rfl, sat' σ' H' Z' S' oe' .refl Step.refl ok'⟩

/-! ### while -/
def whileN (c : Ev Bool) (tb : Ev Fl) : Nat → En → Option (Out Fl)
  | 0, _ => none
  | n + 1, E => bnd (c E) fun b E1 => if b = true then (match tb E1 with
      | some (.ok .nx E2) => whileN c tb n E2
      | some (.ok .ct E2) => whileN c tb n E2
      | some (.ok .bk E2) => some (.ok .nx E2)
      | some (.ok (.ret r) E2) => some (.ok (.ret r) E2)
      | some (.ex x E2) => some (.ex x E2)
      | none => none) else some (.ok .nx E1)
open Classical in
noncomputable def sWhile (c : Ev Bool) (tb : Ev Fl) : Ev Fl := fun E => if h : ∃ n o, whileN c tb n E = some o then whileN c tb h.choose E else none
theorem whileN_succ {c : Ev Bool} {tb : Ev Fl} : ∀ {n : Nat} {E : En} {o}, whileN c tb n E = some o → whileN c tb (n + 1) E = some o
  | 0, _, _, h => by simp [whileN] at h
  | n + 1, E, o, h => by
    rw [whileN] at h ⊢
    match hE : c E, h with
    | some (.ok b E1), h =>
      simp only [bnd_ok] at h ⊢
      cases b with
      | false => exact h
      | true =>
        simp only [if_true] at h ⊢
        match hE2 : tb E1, h with
        | some (.ok .nx E2), h => exact whileN_succ h
        | some (.ok .ct E2), h => exact whileN_succ h
        | some (.ok .bk E2), h => exact h
        | some (.ok (.ret r) E2), h => exact h
        | some (.ex x E2), h => exact h
    | some (.ex x E1), h => exact h
theorem whileN_le {c : Ev Bool} {tb : Ev Fl} {n m : Nat} {E : En} {o} (h : whileN c tb n E = some o) (hl : n ≤ m) : whileN c tb m E = some o := by
  induction hl with
  | refl => exact h
  | step _ ih => exact whileN_succ ih
theorem sWhile_of {c : Ev Bool} {tb : Ev Fl} {n : Nat} {E : En} {o} (h : whileN c tb n E = some o) : sWhile c tb E = some o := by
  unfold sWhile
  have hx : ∃ n o, whileN c tb n E = some o := ⟨n, o, h⟩
  rw [dif_pos hx]
  obtain ⟨o', h'⟩ := hx.choose_spec
  have h1 := whileN_le h' (Nat.le_max_left _ n)
  have h2 := whileN_le h (Nat.le_max_right hx.choose n)
  rw [h1] at h2
  rw [h', h2]
theorem sWhile_some {c : Ev Bool} {tb : Ev Fl} {E : En} {o} (h : sWhile c tb E = some o) : ∃ n, whileN c tb n E = some o := by
  unfold sWhile at h
  split at h
  · exact ⟨_, h⟩
  · cases h
/-- one turn -/
theorem sWhile_turn {c : Ev Bool} {tb : Ev Fl} {E E1 E2 : En} {o} (hc : c E = some (.ok true E1)) (hb : tb E1 = some (.ok .nx E2)) (h : sWhile c tb E2 = some o) : sWhile c tb E = some o := by
  obtain ⟨n, hn⟩ := sWhile_some h
  refine sWhile_of (n := n + 1) ?_
  rw [whileN, hc]
  simp only [bnd_ok, if_true, hb]
  exact hn
theorem sWhile_end {c : Ev Bool} {tb : Ev Fl} {E E1 : En} (hc : c E = some (.ok false E1)) : sWhile c tb E = some (.ok .nx E1) := by
  refine sWhile_of (n := 1) ?_
  rw [whileN, hc]
  rfl
theorem is_while {c : Expr} {body : List Stmt} {tc : Ev Bool} {tb : Ev Fl} {pos : Pos} (hp : PassesOwn (model X.prog X.w) X.A X.env X.xe) (hc : IB X cl c tc) (hb : IL X cl kp body tb) : IS X cl kp (.While c body [] pos) (sWhile tc tb) := by
  refine ⟨fun W tk => ?_⟩
  obtain ⟨tc', pc, qc⟩ := hc.run W tk
  obtain ⟨tb', pb, qb⟩ := hb.run W tk
  refine ⟨_, ps_while hp pc pb, fun E σ H Z S D oe ok sat => ?_⟩
  have hsome : ∃ n, whileN tc tb n E = sWhile tc tb E := by
    match hE : sWhile tc tb E with
    | none => rw [hE] at sat; exact sat.elim
    | some o => exact sWhile_some hE
  obtain ⟨n, hn⟩ := hsome
  rw [← hn] at sat
  refine ⟨fun m σ' H' => ∃ E' Z' S', OwnE X.K cl H' Z' E' σ' S' ∧ Kp kp σ σ' ∧ Step H Z S H' Z' S' ∧ Okk H' Z' S' ∧ SatS X.K cl W kp σ' H' Z' S' D (whileN tc tb m E'), ⟨n, E, Z, S, oe, .refl, Step.refl, ok, sat⟩, ?_⟩
  rintro m σ' H' ⟨E', Z', S', oe', kk', st', ok', sat'⟩
  match m, sat' with
  | m + 1, sat' =>
    refine qc E' σ' H' Z' S' _ oe' ok' (satB_bnd (β := Fl) (κ := Keep × Ends) (q := (kp, D)) sat' fun b E1 sat1 H1 Z1 S1 oe1 st1 ok1 => ?_)
    have sat2 := SatS.re (kp := kp) (σ := σ') st1 .refl sat1
    cases b with
    | false => exact sat2 σ' H1 Z1 S1 oe1 .refl Step.refl ok1
    | true =>
      refine ⟨fun σ'' H'' => ∃ E'' Z'' S'', OwnE X.K cl H'' Z'' E'' σ'' S'' ∧ Kp kp σ σ'' ∧ Step H Z S H'' Z'' S'' ∧ Okk H'' Z'' S'' ∧ SatS X.K cl W kp σ'' H'' Z'' S'' D (whileN tc tb m E''), fun σ'' H'' q => ⟨m, Nat.lt_succ_self _, q⟩, ?_⟩
      refine qb E1 σ' H1 Z1 S1 _ oe1 ok1 ?_
      simp only [if_true] at sat2
      match hE2 : tb E1, sat2 with
      | none, sat2 => exact sat2
      | some (.ok .nx E4), sat2 => exact fun υ H4 Z4 S4 oe4 kk4 st4 ok4 => ⟨E4, Z4, S4, oe4, kk'.trans kk4, (st'.trans st1).trans st4, ok4, SatS.re st4 kk4 sat2⟩
      | some (.ok .ct E4), sat2 => exact fun υ H4 Z4 S4 oe4 kk4 st4 ok4 => ⟨E4, Z4, S4, oe4, kk'.trans kk4, (st'.trans st1).trans st4, ok4, SatS.re st4 kk4 sat2⟩
      | some (.ok .bk E4), sat2 => exact fun υ H4 Z4 S4 oe4 kk4 st4 ok4 => sat2 υ H4 Z4 S4 oe4 kk4 st4 ok4
      | some (.ok (.ret r) E4), sat2 => exact sat2
      | some (.ex e E4), sat2 => exact sat2
end
end VL

namespace VL
open PySem PySem.Spec PyProof.Rows L2
section
variable {X : Cx} {cl : Str → Addr} {kp : Keep} {pos : Pos}

/-! ### displays -/
theorem OwnL.alloc {K : PySem.W.Frag} {H : Hp} {Z S : PA1} (ok : Okk H Z S) {p : Addr} (np : H p = none) : ∀ b, S b → b ≠ p := fun b z e => by subst e; exact ok.sa _ z np
/-- a new object that owns what it holds -/
theorem newObj {K : PySem.W.Frag} {H : Hp} {Z St S : PA1} {E : En} {σ : L2.St} {p : Addr} {o : HO} (ok : Okk H Z (Uni St S)) (d : Dis St S) (oe : OwnE K cl H Z E σ S) (np : H p = none) :
    OwnE K cl (upd H p o) Z E σ S ∧ Step H Z (Uni St S) (upd H p o) Z (Uni (fun a => a = p ∨ St a) S) ∧ Okk (upd H p o) Z (Uni (fun a => a = p ∨ St a) S) ∧ Dis (fun a => a = p ∨ St a) S ∧ (∀ a u, H a = some u → upd H p o a = some u) := by
  have kp : ∀ a u, H a = some u → upd H p o a = some u := fun a u e => by rw [upd_ne (ne_of_none e np)]; exact e
  have al : ∀ a, H a ≠ none → upd H p o a ≠ none := fun a z => by
    cases e : H a with
    | none => exact absurd e z
    | some u => rw [kp a u e]; simp
  refine ⟨oe.mono (fun _ z => z) (fun a _ => .of (kp a)) fun a u _ e => kp a u e,
    ⟨fun _ z => z, fun _ z => .inl z, fun a z => ?_, fun a u e _ => kp a u e, al⟩, ⟨fun a z y => ?_, fun a z => ?_, fun a z => al a (ok.za a z)⟩, fun a z y => ?_, kp⟩
  · rcases z with (z | z) | z
    · exact .inr (by rw [z]; exact np)
    · exact .inl (.inl z)
    · exact .inl (.inr z)
  · rcases z with (z | z) | z
    · subst z; exact ok.za _ y np
    · exact ok.dis a (.inl z) y
    · exact ok.dis a (.inr z) y
  · rcases z with (z | z) | z
    · subst z; rw [upd_same]; simp
    · exact al a (ok.sa a (.inl z))
    · exact al a (ok.sa a (.inr z))
  · rcases z with z | z
    · subst z; exact ok.sa _ (.inr y) np
    · exact d a z y
theorem OwnL.keep {K : PySem.W.Frag} {H H' : Hp} {Z : PA1} {ts vs} {St : PA1} (h : OwnL K cl H Z ts vs St) (k : ∀ a u, H a = some u → H' a = some u) : OwnL K cl H' Z ts vs St :=
  h.mono (fun _ z => z) (fun a _ => .of (k a)) fun a u _ e => k a u e
theorem le1000 {n : Nat} (h : n ≤ 1000) : n ≤ sizeLine := by rw [sizeLine_eq]; omega
def eTup (ts : Ev (List T)) : Ev T := fun E => bnd (ts E) fun xs E1 => some (.ok (.tup xs) E1)
def eLst (ts : Ev (List T)) : Ev T := fun E => bnd (ts E) fun xs E1 => some (.ok (.lst xs) E1)
theorem ie_tup {es : List Expr} {ts : Ev (List T)} {ms : List (Option Nat)} {x1} (h : IM X cl es ms ts) (hn : ms.length ≤ 1000 := by decide) : IE X cl (.Tuple es x1 pos) (eTup ts) := by
  refine ⟨fun W tk => ?_⟩
  obtain ⟨ta, pa, q⟩ := h.run W tk
  refine ⟨_, pe_tup pa, fun E σ H Z S Q oe ok sat => ?_⟩
  refine q E σ H Z S _ oe ok ?_
  unfold eTup at sat
  match hE : ts E, sat with
  | none, sat => exact sat
  | some (.ex x E1), sat => exact sat
  | some (.ok xs E1), sat =>
    intro vs H1 Z1 St S1 oe1 ow1 d1 mv st1 ok1
    refine ⟨le1000 (by rw [mv.len]; exact hn), fun p np => ?_⟩
    obtain ⟨oe2, st2, ok2, d2, kp2⟩ := newObj (o := .tup vs) ok1 d1 oe1 np
    have sat2 : SatV X.K cl W σ H Z S Q (some (.ok (.tup xs) E1)) := sat
    exact sat2 _ _ Z1 _ S1 oe2 (.tup (R := St) upd_same (.inl rfl) (fun b z => ⟨.inr z, fun e => by subst e; exact ok1.sa _ (.inl z) np⟩) (ow1.keep kp2)) d2 (st1.trans st2) ok2
theorem ie_lst {es : List Expr} {ts : Ev (List T)} {ms : List (Option Nat)} (h : IM X cl es ms ts) (hn : ms.length ≤ 1000 := by decide) : IE X cl (.List es pos) (eLst ts) := by
  refine ⟨fun W tk => ?_⟩
  obtain ⟨ta, pa, q⟩ := h.run W tk
  refine ⟨_, pe_lst pa, fun E σ H Z S Q oe ok sat => ?_⟩
  refine q E σ H Z S _ oe ok ?_
  unfold eLst at sat
  match hE : ts E, sat with
  | none, sat => exact sat
  | some (.ex x E1), sat => exact sat
  | some (.ok xs E1), sat =>
    intro vs H1 Z1 St S1 oe1 ow1 d1 mv st1 ok1
    refine ⟨le1000 (by rw [mv.len]; exact hn), fun p np => ?_⟩
    obtain ⟨oe2, st2, ok2, d2, kp2⟩ := newObj (o := .lst vs) ok1 d1 oe1 np
    have sat2 : SatV X.K cl W σ H Z S Q (some (.ok (.lst xs) E1)) := sat
    exact sat2 _ _ Z1 _ S1 oe2 (.lst (R := St) upd_same (.inl rfl) (fun b z => ⟨.inr z, fun e => by subst e; exact ok1.sa _ (.inl z) np⟩) (ow1.keep kp2)) d2 (st1.trans st2) ok2
/-- {} -/
def eDnew : Ev T := fun E => some (.ok (.dct []) E)
def eDnewT : Ev T := fun E => some (.ok (.dcT []) E)

/-! ### choices -/
variable {a b c : Expr} {ta tb : Ev T} {tc : Ev Bool}
def eIf (c : Ev Bool) (ta tb : Ev T) : Ev T := fun E => bnd (c E) fun b E1 => if b = true then ta E1 else tb E1
theorem ie_if (hc : IB X cl c tc) (ha : IE X cl a ta) (hb : IE X cl b tb) : IE X cl (.IfExp c a b pos) (eIf tc ta tb) := by
  refine ⟨fun W tk => ?_⟩
  obtain ⟨tc', pc, qc⟩ := hc.run W tk
  obtain ⟨ta', pa, qa⟩ := ha.run W tk
  obtain ⟨tb', pb, qb⟩ := hb.run W tk
  refine ⟨_, pe_ifExp pc pa pb, fun E σ H Z S Q oe ok sat => ?_⟩
  refine qc E σ H Z S _ oe ok (satB_bnd (β := T) (κ := VK) (q := Q) sat fun b E1 sat1 H1 Z1 S1 oe1 st1 ok1 => ?_)
  cases b with
  | true => exact qa E1 σ H1 Z1 S1 Q oe1 ok1 (SatV.re st1 sat1)
  | false => exact qb E1 σ H1 Z1 S1 Q oe1 ok1 (SatV.re st1 sat1)
/-- and, or of truth values, as a value -/
def eAnd (ta tb : Ev T) : Ev T := fun E => bnd (ta E) fun x E1 => match asB (frz x) with
  | some true => tb E1
  | some false => some (.ok (.fz (.bl false)) E1)
  | none => none
def eOr (ta tb : Ev T) : Ev T := fun E => bnd (ta E) fun x E1 => match asB (frz x) with
  | some true => some (.ok (.fz (.bl true)) E1)
  | some false => tb E1
  | none => none
def eNot (ta : Ev T) : Ev T := fun E => bnd (ta E) fun x E1 => match asB (frz x) with
  | some b => some (.ok (.fz (.bl (!b))) E1)
  | none => none
theorem SatV.atom {K : PySem.W.Frag} {W : WX} {σ : L2.St} {H : Hp} {Z S : PA1} {Q : VK} {E : En} {d : D} {v : V} (sat : SatV K cl W σ H Z S Q (some (.ok (.fz d) E))) (oe : OwnE K cl H Z E σ S) (ok : Okk H Z S) (r : Rp K cl H Z d v) : Q v H :=
  sat v H Z Emp S oe (.fz r) (fun _ z _ => z) (Step.refl.less fun _ z => z.elim False.elim id) (ok.less fun _ z => z.elim False.elim id)
theorem ie_one {op} (h : IE X cl a ta) : IE X cl (.BoolOp op [a] pos) ta := ⟨fun W tk => by obtain ⟨te, p, q⟩ := h.run W tk; exact ⟨te, pe_one p, q⟩⟩
theorem ie_and {rest : List Expr} (ha : IE X cl a ta) (hb : IE X cl (.BoolOp .And (b :: rest) pos) tb) : IE X cl (.BoolOp .And (a :: b :: rest) pos) (eAnd ta tb) := by
  refine ⟨fun W tk => ?_⟩
  obtain ⟨ta', pa, qa⟩ := ha.fz W tk
  obtain ⟨tb', pb, qb⟩ := hb.run W tk
  refine ⟨_, pe_and pa pb, fun E σ H Z S Q oe ok sat => ?_⟩
  refine qa E σ H Z S _ oe ok (satD_bnd (β := T) (κ := VK) (q := Q) sat fun x E1 sat1 v H1 Z1 S1 oe1 rp1 st1 ok1 => ?_)
  have sat2 : SatV X.K cl W σ H1 Z1 S1 Q (match asB (frz x) with | some true => tb E1 | some false => some (.ok (.fz (.bl false)) E1) | none => none) := SatV.re st1 sat1
  match hx : asB (frz x) with
  | none => rw [hx] at sat2; exact sat2.elim
  | some true => rw [hx] at sat2; exact ⟨true, asB_rp rp1 hx, by rw [if_pos rfl]; exact qb E1 σ H1 Z1 S1 Q oe1 ok1 sat2⟩
  | some false => rw [hx] at sat2; exact ⟨false, asB_rp rp1 hx, by rw [if_neg Bool.false_ne_true]; exact sat2.atom oe1 ok1 (.bl false)⟩
theorem ie_or {rest : List Expr} (ha : IE X cl a ta) (hb : IE X cl (.BoolOp .Or (b :: rest) pos) tb) : IE X cl (.BoolOp .Or (a :: b :: rest) pos) (eOr ta tb) := by
  refine ⟨fun W tk => ?_⟩
  obtain ⟨ta', pa, qa⟩ := ha.fz W tk
  obtain ⟨tb', pb, qb⟩ := hb.run W tk
  refine ⟨_, pe_or pa pb, fun E σ H Z S Q oe ok sat => ?_⟩
  refine qa E σ H Z S _ oe ok (satD_bnd (β := T) (κ := VK) (q := Q) sat fun x E1 sat1 v H1 Z1 S1 oe1 rp1 st1 ok1 => ?_)
  have sat2 : SatV X.K cl W σ H1 Z1 S1 Q (match asB (frz x) with | some true => some (.ok (.fz (.bl true)) E1) | some false => tb E1 | none => none) := SatV.re st1 sat1
  match hx : asB (frz x) with
  | none => rw [hx] at sat2; exact sat2.elim
  | some true => rw [hx] at sat2; exact ⟨true, asB_rp rp1 hx, by rw [if_pos rfl]; exact sat2.atom oe1 ok1 (.bl true)⟩
  | some false => rw [hx] at sat2; exact ⟨false, asB_rp rp1 hx, by rw [if_neg Bool.false_ne_true]; exact qb E1 σ H1 Z1 S1 Q oe1 ok1 sat2⟩
theorem ie_not (ha : IE X cl a ta) : IE X cl (.UnaryOp .Not a pos) (eNot ta) := by
  refine ⟨fun W tk => ?_⟩
  obtain ⟨ta', pa, qa⟩ := ha.fz W tk
  refine ⟨_, pe_not pa, fun E σ H Z S Q oe ok sat => ?_⟩
  refine qa E σ H Z S _ oe ok (satD_bnd (β := T) (κ := VK) (q := Q) sat fun x E1 sat1 v H1 Z1 S1 oe1 rp1 st1 ok1 => ?_)
  have sat2 : SatV X.K cl W σ H1 Z1 S1 Q (match asB (frz x) with | some b => some (.ok (.fz (.bl (!b))) E1) | none => none) := SatV.re st1 sat1
  match hx : asB (frz x) with
  | none => rw [hx] at sat2; exact sat2.elim
  | some b => rw [hx] at sat2; exact ⟨b, asB_rp rp1 hx, sat2.atom oe1 ok1 (.bl _)⟩
/-- a op b op' c -/
def eChn (g g' : D → D → Option T) (ta tb tc : Ev T) : Ev T := fun E => bnd (ta E) fun x E1 => bnd (tb E1) fun y E2 => bnd (opt (g (frz x) (frz y)) E2) fun z E3 => match asB (frz z) with
  | some true => bnd (tc E3) fun u E4 => opt (g' (frz y) (frz u)) E4
  | some false => some (.ok (.fz (.bl false)) E3)
  | none => none
theorem chn_run {W : WX} {ta' tb' tc' : TE} {tc : Ev T} {g g' : D → D → Option T} {r r' : R2} (qa : ∀ E σ H Z (S : PA1) Q, OwnE X.K cl H Z E σ S → Okk H Z S → SatD X.K cl W σ H Z S Q (ta E) → ta' σ H Q)
    (qb : ∀ E σ H Z (S : PA1) Q, OwnE X.K cl H Z E σ S → Okk H Z S → SatD X.K cl W σ H Z S Q (tb E) → tb' σ H Q) (qc : ∀ E σ H Z (S : PA1) Q, OwnE X.K cl H Z E σ S → Okk H Z S → SatD X.K cl W σ H Z S Q (tc E) → tc' σ H Q)
    (hg : OpV X.K cl r g) (hg' : OpV X.K cl r' g') (E : En) (σ : L2.St) (H : Hp) (Z S : PA1) (Q : VK) (oe : OwnE X.K cl H Z E σ S) (ok : Okk H Z S) (sat : SatV X.K cl W σ H Z S Q (eChn g g' ta tb tc E)) : tChain r r' ta' tb' tc' σ H Q := by
  refine qa E σ H Z S _ oe ok (satD_bnd (β := T) (κ := VK) (q := Q) sat fun x E1 sat1 v H1 Z1 S1 oe1 rp1 st1 ok1 => ?_)
  refine qb E1 σ H1 Z1 S1 _ oe1 ok1 (satD_bnd (β := T) (κ := VK) (q := Q) (SatV.re st1 sat1) fun y E2 sat2 u H2 Z2 S2 oe2 rp2 st2 ok2 => ?_)
  refine hg _ _ v u H2 Z2 _ ok2.za (st2.rp ok1.dis rp1) rp2 (op_fin (W := W) oe2 ok2 ?_)
  have sat3 : SatV X.K cl W σ H2 Z2 S2 Q _ := SatV.re st2 sat2
  refine satV_bnd (β := T) (κ := VK) (q := Q) sat3 fun z E3 sat4 zv H3 Z3 Sr S3 oe3 ow3 d3 st3 ok3 => ?_
  obtain ⟨s4, o4⟩ := freezeStep ok3 d3
  have rz := ow3.frz (Z' := Uni Z3 Sr) (fun _ z => .inl z) fun _ z => .inr z
  have st4 := st3.trans s4
  have sat5 : SatV X.K cl W σ H3 (Uni Z3 Sr) S3 Q (match asB (frz z) with | some true => bnd (tc E3) fun u E4 => opt (g' (frz y) (frz u)) E4 | some false => some (.ok (.fz (.bl false)) E3) | none => none) := SatV.re st4 sat4
  have oe4 := oe3.zmore (Z' := Uni Z3 Sr) fun _ z => .inl z
  match hx : asB (frz z) with
  | none => rw [hx] at sat5; exact sat5.elim
  | some false => rw [hx] at sat5; exact ⟨false, asB_rp rz hx, by rw [if_neg Bool.false_ne_true]; exact sat5.atom oe4 o4 (.bl false)⟩
  | some true =>
    rw [hx] at sat5
    refine ⟨true, asB_rp rz hx, ?_⟩
    rw [if_pos rfl]
    refine qc E3 σ H3 _ S3 _ oe4 o4 (satD_bnd (β := T) (κ := VK) (q := Q) sat5 fun w' E5 sat6 wv H5 Z5 S5 oe5 rp5 st5 ok5 => ?_)
    exact hg' _ _ u wv H5 Z5 Q ok5.za (st5.rp o4.dis (st4.rp ok2.dis rp2)) rp5 (op_fin oe5 ok5 (SatV.re st5 sat6))
theorem ie_chn {op op' : CmpOp} {r r' : R2} {g g' : D → D → Option T} {tc : Ev T} (ho : OpR X (compareOp op) r) (hg : OpV X.K cl r g) (ho' : OpR X (compareOp op') r') (hg' : OpV X.K cl r' g') (ha : IE X cl a ta) (hb : IE X cl b tb) (hc : IE X cl c tc)
    (hm : lastMarks [op, op'] [b, c] = false := by with_unfolding_all rfl) : IE X cl (.Compare a [op, op'] [b, c] pos) (eChn g g' ta tb tc) := by
  refine ⟨fun W tk => ?_⟩
  obtain ⟨ta', pa, qa⟩ := ha.fz W tk
  obtain ⟨tb', pb, qb⟩ := hb.fz W tk
  obtain ⟨tc', pc, qc⟩ := hc.fz W tk
  exact ⟨_, pe_chain ho ho' pa pb pc hm, chn_run qa qb qc hg hg'⟩
/-- an expression's run, its value a truth value, as a test -/
def bVal (t : Ev T) : Ev Bool := fun E => bnd (t E) fun x E1 => opt (asB (frz x)) E1
theorem ib_chn {op op' : CmpOp} {r r' : R2} {g g' : D → D → Option T} {tc : Ev T} (ho : OpR X (compareOp op) r) (hg : OpV X.K cl r g) (ho' : OpR X (compareOp op') r') (hg' : OpV X.K cl r' g') (ha : IE X cl a ta) (hb : IE X cl b tb) (hc : IE X cl c tc)
    (hm : lastMarks [op, op'] [b, c] = false := by with_unfolding_all rfl) : IB X cl (.Compare a [op, op'] [b, c] pos) (bVal (eChn g g' ta tb tc)) := by
  refine ⟨fun W tk => ?_⟩
  obtain ⟨ta', pa, qa⟩ := ha.fz W tk
  obtain ⟨tb', pb, qb⟩ := hb.fz W tk
  obtain ⟨tc', pc, qc⟩ := hc.fz W tk
  refine ⟨_, pt_chain ho ho' pa pb pc hm, fun E σ H Z S Q oe ok sat => ?_⟩
  refine chn_run qa qb qc hg hg' E σ H Z S _ oe ok (satV_bnd (β := Bool) (κ := Bool → Hp → Prop) (q := Q) sat fun x E1 sat1 v H1 Z1 Sr S1 oe1 ow1 d1 st1 ok1 => ?_)
  obtain ⟨k, hk, sat2⟩ := sat_opt (β := Bool) (κ := Bool → Hp → Prop) (q := Q) sat1
  obtain ⟨s2, o2⟩ := freezeStep ok1 d1
  refine ⟨k, asB_rp (ow1.frz (Z' := Uni Z1 Sr) (fun _ z => .inl z) fun _ z => .inr z) hk, ?_⟩
  exact (SatB.re (st1.trans s2) sat2 : SatB X.K cl W σ H1 _ S1 Q _) H1 _ S1 (oe1.zmore fun _ z => .inl z) Step.refl o2

/-! ### slices -/
structure IO (X : Cx) (cl : Str → Addr) (e : Option Expr) (t : Ev (Option Int)) : Prop where
  run : ∀ W, Takes X W → ∃ to, PO X e to ∧ ∀ E σ H Z (S : PA1) (Q : Option Int → Hp → Prop), OwnE X.K cl H Z E σ S → Okk H Z S →
    (match t E with
      | none => False
      | some (.ok i E') => ∀ H' Z' (S' : PA1), OwnE X.K cl H' Z' E' σ S' → Step H Z S H' Z' S' → Okk H' Z' S' → Q i H'
      | some (.ex x E') => SatX X.K cl W σ H Z S x E') → to σ H Q
def oNo : Ev (Option Int) := fun E => some (.ok none E)
def oSo (t : Ev T) : Ev (Option Int) := fun E => bnd (t E) fun x E1 => match frz x with | .int i => some (.ok (some i) E1) | _ => none
theorem io_no : IO X cl none oNo := ⟨fun W tk => ⟨_, po_none, fun E σ H Z S Q oe ok sat => sat H Z S oe Step.refl ok⟩⟩
theorem io_so (h : IE X cl a ta) : IO X cl (some a) (oSo ta) := by
  refine ⟨fun W tk => ?_⟩
  obtain ⟨ta', pa, qa⟩ := h.fz W tk
  refine ⟨_, po_some pa, fun E σ H Z S Q oe ok sat => qa E σ H Z S _ oe ok ?_⟩
  unfold oSo at sat
  match hE : ta E, sat with
  | none, sat => exact sat
  | some (.ex x E1), sat => exact sat
  | some (.ok x E1), sat =>
    intro v H1 Z1 S1 oe1 rp st1 ok1
    simp only [bnd_ok] at sat
    match hf : frz x, sat with
    | .int i, sat =>
      rw [hf] at rp
      cases rp
      exact ⟨i, rfl, sat H1 Z1 S1 oe1 st1 ok1⟩
def SlV (K : PySem.W.Frag) (cl : Str → Addr) (r : V → Option Int → Option Int → Hp → VK → Prop) (g : D → Option Int → Option Int → Option T) : Prop :=
  ∀ x v lo hi H (Z : PA1) Q, (∀ a, Z a → H a ≠ none) → Rp K cl H Z x v → OkR K cl H Z Q (g x lo hi) → r v lo hi H Q
def eSl (g : D → Option Int → Option Int → Option T) (t : Ev T) (tl th : Ev (Option Int)) : Ev T := fun E => bnd (t E) fun x E1 => bnd (tl E1) fun lo E2 => bnd (th E2) fun hi E3 => opt (g (frz x) lo hi) E3
theorem ie_slice {lo hi : Option Expr} {p2 : Pos} {tl th : Ev (Option Int)} {r : V → Option Int → Option Int → Hp → VK → Prop} {g : D → Option Int → Option Int → Option T} (hr : SlR X r) (hg : SlV X.K cl r g) (ha : IE X cl a ta) (hl : IO X cl lo tl) (hh : IO X cl hi th) :
    IE X cl (.Subscript a (.Slice lo hi none p2) pos) (eSl g ta tl th) := by
  refine ⟨fun W tk => ?_⟩
  obtain ⟨ta', pa, qa⟩ := ha.fz W tk
  obtain ⟨tl', pl, ql⟩ := hl.run W tk
  obtain ⟨th', ph, qh⟩ := hh.run W tk
  refine ⟨_, pe_slice hr pa pl ph, fun E σ H Z S Q oe ok sat => ?_⟩
  refine qa E σ H Z S _ oe ok (satD_bnd (β := T) (κ := VK) (q := Q) sat fun x E1 sat1 v H1 Z1 S1 oe1 rp1 st1 ok1 => ?_)
  have sat1' : SatV X.K cl W σ H1 Z1 S1 Q _ := SatV.re st1 sat1
  refine ql E1 σ H1 Z1 S1 _ oe1 ok1 ?_
  match hE : tl E1, sat1' with
  | none, sat1' => exact sat1'
  | some (.ex x E2), sat1' => exact sat1'
  | some (.ok lo E2), sat1' =>
    intro H2 Z2 S2 oe2 st2 ok2
    simp only [bnd_ok] at sat1'
    have sat2 : SatV X.K cl W σ H2 Z2 S2 Q _ := SatV.re st2 sat1'
    refine qh E2 σ H2 Z2 S2 _ oe2 ok2 ?_
    match hE2 : th E2, sat2 with
    | none, sat2 => exact sat2
    | some (.ex x E3), sat2 => exact sat2
    | some (.ok hi E3), sat2 =>
      intro H3 Z3 S3 oe3 st3 ok3
      simp only [bnd_ok] at sat2
      exact hg _ v lo hi H3 Z3 Q ok3.za (st3.rp ok2.dis (st2.rp ok1.dis rp1)) (op_fin oe3 ok3 (SatV.re st3 sat2))

/-! ### methods of built-in types, on frozen data -/
def TyD : String → D → Bool
  | "str", .str _ => true
  | "list", .lst _ => true
  | "tuple", .tup _ => true
  | "dict", .dct _ => true
  | "dict", .dcT _ => true
  | _, _ => false
def MtV (K : PySem.W.Frag) (cl : Str → Addr) (r : V → List V → Hp → VK → Prop) (g : D → List D → Option T) : Prop :=
  ∀ x v xs vs H (Z : PA1) Q, (∀ a, Z a → H a ≠ none) → Rp K cl H Z x v → RpL K cl H Z xs vs → OkR K cl H Z Q (g x xs) → r v vs H Q
end
end VL

namespace VL
open PySem PySem.Spec PyProof.Rows L2
section
variable {K : PySem.W.Frag} {cl : Str → Addr} {H : Hp} {Z : PA1} {Q : VK}

/-! ### ends of operations -/
theorem okr_fz (hz : ∀ a, Z a → H a ≠ none) {d : D} {v : V} (ok : OkR K cl H Z Q (some (.fz d))) (r : Rp K cl H Z d v) : Q v H :=
  ok v H Z Emp (.fz r) (Step.refl.less fun _ z => z.elim) ⟨fun _ z => z.elim, fun _ z => z.elim, hz⟩
theorem fresh_step (hz : ∀ a, Z a → H a ≠ none) {p : Addr} {o : HO} (np : H p = none) : Step H Z Emp (upd H p o) Z (fun a => a = p) ∧ Okk (upd H p o) Z (fun a => a = p) ∧ ∀ a u, H a = some u → upd H p o a = some u := by
  have kp : ∀ a u, H a = some u → upd H p o a = some u := fun a u e => by rw [upd_ne (ne_of_none e np)]; exact e
  have al : ∀ a, H a ≠ none → upd H p o a ≠ none := fun a z => by
    cases e : H a with
    | none => exact absurd e z
    | some u => rw [kp a u e]; simp
  exact ⟨⟨fun _ z => z, fun _ z => .inl z, fun a z => .inr (by subst z; exact np), fun a u e _ => kp a u e, al⟩, ⟨fun a z y => by subst z; exact hz _ y np, fun a z => by subst z; rw [upd_same]; simp, fun a z => al a (hz a z)⟩, kp⟩
theorem RpL.keep {H' : Hp} {ds vs} (h : RpL K cl H Z ds vs) (k : ∀ a u, H a = some u → H' a = some u) : RpL K cl H' Z ds vs := h.mono (fun _ z => z) fun a _ => .of (k a)
theorem Rp.keep {H' : Hp} {d v} (h : Rp K cl H Z d v) (k : ∀ a u, H a = some u → H' a = some u) : Rp K cl H' Z d v := h.mono (fun _ z => z) fun a _ => .of (k a)
theorem okr_lst (hz : ∀ a, Z a → H a ≠ none) {ds : List D} {vs : List V} (ok : OkR K cl H Z Q (some (.lst (ds.map .fz)))) (r : RpL K cl H Z ds vs) {p : Addr} (np : H p = none) : Q (.ref p) (upd H p (.lst vs)) := by
  obtain ⟨st, o, k⟩ := fresh_step (o := .lst vs) hz np
  exact ok _ _ Z (fun a => a = p) (.lst (R := Emp) upd_same rfl (fun _ z => z.elim) (OwnL.fzs (r.keep k))) st o
theorem okr_tup (hz : ∀ a, Z a → H a ≠ none) {ds : List D} {vs : List V} (ok : OkR K cl H Z Q (some (.tup (ds.map .fz)))) (r : RpL K cl H Z ds vs) {p : Addr} (np : H p = none) : Q (.ref p) (upd H p (.tup vs)) := by
  obtain ⟨st, o, k⟩ := fresh_step (o := .tup vs) hz np
  exact ok _ _ Z (fun a => a = p) (.tup (R := Emp) upd_same rfl (fun _ z => z.elim) (OwnL.fzs (r.keep k))) st o
/-- the same tuple again -/
theorem okr_tupS (hz : ∀ a, Z a → H a ≠ none) {ds : List D} {v : V} (ok : OkR K cl H Z Q (some (.fz (.tup ds)))) (r : Rp K cl H Z (.tup ds) v) : Q v H := okr_fz hz ok r
theorem RpL.append : ∀ {ds es vs us}, RpL K cl H Z ds vs → RpL K cl H Z es us → RpL K cl H Z (ds ++ es) (vs ++ us)
  | _, _, _, _, .nil, s => s
  | _, _, _, _, .cons r t, s => .cons r (RpL.append t s)
theorem RpL.take : ∀ {ds vs} (n : Nat), RpL K cl H Z ds vs → RpL K cl H Z (ds.take n) (vs.take n)
  | _, _, 0, _ => by simp; exact .nil
  | _, _, _ + 1, .nil => .nil
  | _, _, n + 1, .cons r t => .cons r (RpL.take n t)
theorem RpL.drop : ∀ {ds vs} (n : Nat), RpL K cl H Z ds vs → RpL K cl H Z (ds.drop n) (vs.drop n)
  | _, _, 0, r => r
  | _, _, _ + 1, .nil => .nil
  | _, _, n + 1, .cons _ t => RpL.drop n t

/-! ### data as the library's data -/
def keyPy : Key → PyData
  | .inl i => .int i
  | .inr x => .str x
mutual
def toPy : D → Option PyData
  | .non => some .none
  | .bl b => some (.bool b)
  | .int i => some (.int i)
  | .str x => some (.str x)
  | .lst xs => match toPyL xs with | some l => some (.list l) | none => none
  | .tup xs => match toPyL xs with | some l => some (.tuple l) | none => none
  | _ => none
def toPyL : List D → Option (List PyData)
  | [] => some []
  | d :: ds => match toPy d, toPyL ds with | some x, some l => some (x :: l) | _, _ => none
end
mutual
theorem dp_of : ∀ {d v p}, Rp K cl H Z d v → toPy d = some p → Dp K H v p
  | _, _, _, .non, h => by cases h; exact .non
  | _, _, _, .bl b, h => by cases h; exact .bl b
  | _, _, _, .int i, h => by cases h; exact .int i
  | _, _, _, .str x, h => by cases h; exact .str x
  | _, _, _, .ty _, h => by simp [toPy] at h
  | _, _, _, .gl _, h => by simp [toPy] at h
  | _, _, _, .scr _, h => by simp [toPy] at h
  | _, _, _, .kt _ _, h => by simp [toPy] at h
  | _, _, _, .dct _ _ _ _, h => by simp [toPy] at h
  | _, _, _, .dcT _ _ _ _, h => by simp [toPy] at h
  | _, _, _, .ins _ _ _ _, h => by simp [toPy] at h
  | .tup xs, _, p, .tup _ q r, h => by
    simp only [toPy] at h
    cases e : toPyL xs with
    | none => rw [e] at h; cases h
    | some l => rw [e] at h; cases h; exact .tup (SqT.of q) (dpAll_of r e)
  | .lst xs, _, p, .lst _ q r, h => by
    simp only [toPy] at h
    cases e : toPyL xs with
    | none => rw [e] at h; cases h
    | some l => rw [e] at h; cases h; exact .lst (SqL.of q) (dpAll_of r e)
theorem dpAll_of : ∀ {ds vs ps}, RpL K cl H Z ds vs → toPyL ds = some ps → DpAll K H vs ps
  | _, _, _, .nil, h => by simp [toPyL] at h; subst h; exact .nil
  | d :: ds, _, _, .cons r rs, h => by
    simp only [toPyL] at h
    cases e1 : toPy d with
    | none => rw [e1] at h; cases h
    | some x =>
      cases e2 : toPyL ds with
      | none => rw [e1, e2] at h; cases h
      | some l => rw [e1, e2] at h; cases h; exact .cons (dp_of r e1) (dpAll_of rs e2)
end

/-! ### equality -/
def eqDD (x y : D) : Option Bool := match toPy x, toPy y with
  | some a, some b => if SeqAt.shaped a = true ∧ SeqAt.shaped b = true then some (PyData.eqv a b) else none
  | _, _ => none
def eqD (x y : D) : Option T := (eqDD x y).map fun b => .fz (.bl b)
def neD (x y : D) : Option T := (eqDD x y).map fun b => .fz (.bl (!b))
theorem eqDD_some {x y : D} {b : Bool} (h : eqDD x y = some b) : ∃ p q, toPy x = some p ∧ toPy y = some q ∧ SeqAt.shaped p = true ∧ SeqAt.shaped q = true ∧ PyData.eqv p q = b := by
  unfold eqDD at h
  cases e1 : toPy x with
  | none => rw [e1] at h; cases h
  | some p =>
    cases e2 : toPy y with
    | none => rw [e1, e2] at h; cases h
    | some q =>
      rw [e1, e2] at h
      dsimp only at h
      split at h
      · rename_i c
        cases h
        exact ⟨p, q, rfl, rfl, c.1, c.2, rfl⟩
      · cases h
theorem okr_none {A : Prop} (ok : OkR K cl H Z Q none) : A := ok.elim
theorem opv_eq : OpV K cl (rEqD K) eqD := by
  intro x y v u H Z Q hz rx ry ok
  cases e : eqDD x y with
  | none => unfold eqD at ok; rw [e] at ok; exact okr_none ok
  | some b =>
    unfold eqD at ok; rw [e] at ok
    obtain ⟨p, q, h1, h2, h3, h4, rfl⟩ := eqDD_some e
    exact ⟨p, q, dp_of rx h1, dp_of ry h2, h3, h4, okr_fz hz ok (.bl _)⟩
theorem opv_ne : OpV K cl (rNeD K) neD := by
  intro x y v u H Z Q hz rx ry ok
  cases e : eqDD x y with
  | none => unfold neD at ok; rw [e] at ok; exact okr_none ok
  | some b =>
    unfold neD at ok; rw [e] at ok
    obtain ⟨p, q, h1, h2, h3, h4, rfl⟩ := eqDD_some e
    exact ⟨p, q, dp_of rx h1, dp_of ry h2, h3, h4, okr_fz hz ok (.bl _)⟩

/-! ### order of ints -/
def cmpD (f : Int → Int → Bool) : D → D → Option T
  | .int i, .int j => some (.fz (.bl (f i j)))
  | _, _ => none
theorem opv_cmp {f : Int → Int → Bool} : OpV K cl (rI0 fun i j => .bl (f i j)) (cmpD f) := by
  intro x y v u H Z Q hz rx ry ok
  match x, y, rx, ry, ok with
  | .int i, .int j, .int _, .int _, ok => exact ⟨i, j, rfl, rfl, okr_fz hz ok (.bl _)⟩
abbrev ltD : D → D → Option T := cmpD fun i j => decide (i < j)
abbrev leD : D → D → Option T := cmpD fun i j => decide (i ≤ j)
abbrev gtD : D → D → Option T := cmpD fun i j => decide (j < i)
abbrev geD : D → D → Option T := cmpD fun i j => decide (j ≤ i)
/-- is None -/
def isNB : D → Bool
  | .non => true
  | _ => false
def isND : D → D → Option T
  | x, .non => some (.fz (.bl (isNB x)))
  | _, _ => none
def notND : D → D → Option T
  | x, .non => some (.fz (.bl (!isNB x)))
  | _, _ => none
theorem rp_non {d : D} {v : V} (r : Rp K cl H Z d v) : decide (v = V.non) = isNB d := by
  cases r <;> rfl
theorem opv_isN : OpV K cl (fun x y H Q => y = .non ∧ Q (.bl (decide (x = .non))) H) isND := by
  intro x y v u H Z Q hz rx ry ok
  match y, ry, ok with
  | .non, .non, ok => exact ⟨rfl, by rw [rp_non rx]; exact okr_fz hz ok (.bl _)⟩
theorem opv_notN : OpV K cl (fun x y H Q => y = .non ∧ Q (.bl (!decide (x = .non))) H) notND := by
  intro x y v u H Z Q hz rx ry ok
  match y, ry, ok with
  | .non, .non, ok =>
    refine ⟨rfl, ?_⟩
    rw [rp_non rx]
    exact okr_fz hz ok (.bl _)

/-! ### arithmetic -/
def addD : D → D → Option T
  | .int i, .int j => some (.fz (.int (i + j)))
  | .str x, .str y => if x.length + y.length ≤ sizeLine then some (.fz (.str (x ++ y))) else none
  | .lst xs, .lst ys => if xs.length + ys.length ≤ sizeLine then some (.lst ((xs ++ ys).map .fz)) else none
  | .tup xs, .tup ys => if xs.length + ys.length ≤ sizeLine then (if xs.isEmpty then some (.fz (.tup ys)) else if ys.isEmpty then some (.fz (.tup xs)) else some (.tup ((xs ++ ys).map .fz))) else none
  | _, _ => none
def rAddA (K : PySem.W.Frag) : R2 := fun x y H Q => rI0 (fun i j => .int (i + j)) x y H Q ∨ (∃ i j, x = .str i ∧ y = .str j ∧ i.length + j.length ≤ sizeLine ∧ Q (.str (i ++ j)) H) ∨ rCat x y H Q ∨ rCatA K x y H Q
theorem op_addA {X : Cx} : OpR X (binaryOp .Add) (rAddA X.K) := op_add.or (op_add_str.or (op_cat.or op_catA))
theorem RpL.nilV {ds vs} (r : RpL K cl H Z ds vs) : vs = [] ↔ ds.isEmpty = true := by cases r <;> simp
theorem opv_add : OpV K cl (rAddA K) addD := by
  intro x y v u H Z Q hz rx ry ok
  match x, y, rx, ry, ok with
  | .int i, .int j, .int _, .int _, ok => exact .inl ⟨i, j, rfl, rfl, okr_fz hz ok (.int _)⟩
  | .str i, .str j, .str _, .str _, ok =>
    simp only [addD] at ok
    by_cases c : i.length + j.length ≤ sizeLine
    · rw [if_pos c] at ok
      exact .inr (.inl ⟨i, j, rfl, rfl, c, okr_fz hz ok (.str _)⟩)
    · rw [if_neg c] at ok; exact okr_none ok
  | .lst xs, .lst ys, .lst _ q1 r1, .lst _ q2 r2, ok =>
    simp only [addD] at ok
    by_cases c : xs.length + ys.length ≤ sizeLine
    · rw [if_pos c] at ok
      exact .inr (.inr (.inl ⟨_, _, _, _, rfl, rfl, q1, q2, by rw [← r1.len, ← r2.len]; exact c, fun p np => okr_lst hz ok (r1.append r2) np⟩))
    · rw [if_neg c] at ok; exact okr_none ok
  | .tup xs, .tup ys, .tup p1 q1 r1, .tup p2 q2 r2, ok =>
    simp only [addD] at ok
    by_cases c : xs.length + ys.length ≤ sizeLine
    · rw [if_pos c] at ok
      refine .inr (.inr (.inr ⟨_, _, _, _, rfl, rfl, SqT.of q1, SqT.of q2, by rw [← r1.len, ← r2.len]; exact c, fun e => ?_, fun e1 e2 => ?_, fun e1 e2 p np => ?_⟩))
      · rw [if_pos (r1.nilV.mp e)] at ok
        exact okr_fz hz ok (.tup p2 q2 r2)
      · rw [if_neg (fun h => e1 (r1.nilV.mpr h)), if_pos (r2.nilV.mp e2)] at ok
        exact okr_fz hz ok (.tup p1 q1 r1)
      · rw [if_neg (fun h => e1 (r1.nilV.mpr h)), if_neg (fun h => e2 (r2.nilV.mpr h))] at ok
        exact okr_tup hz ok (r1.append r2) np
    · rw [if_neg c] at ok; exact okr_none ok
def subD : D → D → Option T
  | .int i, .int j => some (.fz (.int (i - j)))
  | _, _ => none
theorem opv_sub : OpV K cl (rI0 fun i j => .int (i - j)) subD := by
  intro x y v u H Z Q hz rx ry ok
  match x, y, rx, ry, ok with
  | .int i, .int j, .int _, .int _, ok => exact ⟨i, j, rfl, rfl, okr_fz hz ok (.int _)⟩
def mulOkS (x : Str) (n : Int) : Prop := 0 ≤ n ∧ n ≤ 1000 ∧ x.length ≤ 1000
instance (x : Str) (n : Int) : Decidable (mulOkS x n) := by unfold mulOkS; infer_instance
instance (i j : Int) : Decidable (CMul i j) := by unfold CMul; infer_instance
def mulD : D → D → Option T
  | .int i, .int j => if CMul i j then some (.fz (.int (i * j))) else none
  | .str x, .int n => if mulOkS x n then some (.fz (.str (Txt.mul x n))) else none
  | _, _ => none
def rMulA : R2 := fun x y H Q => rI CMul (fun i j => .int (i * j)) x y H Q ∨ (∃ x' n, x = .str x' ∧ y = .int n ∧ mulOkS x' n ∧ Q (.str (Txt.mul x' n)) H)
theorem op_mulS {X : Cx} : OpR X (binaryOp .Mult) (fun x y H Q => ∃ x' n, x = .str x' ∧ y = .int n ∧ mulOkS x' n ∧ Q (.str (Txt.mul x' n)) H) := by
  intro pins s σ H x y v u Q I rx ry h
  obtain ⟨z, n, rfl, rfl, ⟨h1, h2, h3⟩, q⟩ := h
  obtain ⟨t, rfl⟩ := rx
  obtain ⟨t', rfl⟩ := ry
  exact SB.mul (mulOk_of 1000 1000 (by omega) (by omega) (by omega) (by decide) (by decide)) fun t2 k => ⟨.str _, H, I.tok _, ⟨_, rfl⟩, q⟩
theorem op_mulA {X : Cx} : OpR X (binaryOp .Mult) rMulA := op_mul.or op_mulS
theorem opv_mul : OpV K cl rMulA mulD := by
  intro x y v u H Z Q hz rx ry ok
  match x, y, rx, ry, ok with
  | .int i, .int j, .int _, .int _, ok =>
    simp only [mulD] at ok
    by_cases c : CMul i j
    · rw [if_pos c] at ok
      exact .inl ⟨i, j, rfl, rfl, c, okr_fz hz ok (.int _)⟩
    · rw [if_neg c] at ok; exact okr_none ok
  | .str i, .int j, .str _, .int _, ok =>
    simp only [mulD] at ok
    by_cases c : mulOkS i j
    · rw [if_pos c] at ok
      exact .inr ⟨i, j, rfl, rfl, c, okr_fz hz ok (.str _)⟩
    · rw [if_neg c] at ok; exact okr_none ok
instance (i j : Int) : Decidable (CDiv i j) := by unfold CDiv; infer_instance
instance (i j : Int) : Decidable (CPow i j) := by unfold CPow; infer_instance
def intD (C : Int → Int → Prop) [∀ i j, Decidable (C i j)] (g : Int → Int → Int) : D → D → Option T
  | .int i, .int j => if C i j then some (.fz (.int (g i j))) else none
  | _, _ => none
theorem opv_int {C : Int → Int → Prop} [∀ i j, Decidable (C i j)] {g : Int → Int → Int} : OpV K cl (rI C fun i j => .int (g i j)) (intD C g) := by
  intro x y v u H Z Q hz rx ry ok
  match x, y, rx, ry, ok with
  | .int i, .int j, .int _, .int _, ok =>
    simp only [intD] at ok
    by_cases c : C i j
    · rw [if_pos c] at ok
      exact ⟨i, j, rfl, rfl, c, okr_fz hz ok (.int _)⟩
    · rw [if_neg c] at ok; exact okr_none ok
abbrev fdivD : D → D → Option T := intD CDiv fun i j => i / j
abbrev modD : D → D → Option T := intD (fun _ j => 0 < j) fun i j => i % j
abbrev powD : D → D → Option T := intD CPow fun i j => i ^ j.toNat
def negD : D → Option T
  | .int i => some (.fz (.int (-i)))
  | _ => none
theorem unv_neg : UnV K cl (rU fun i => .int (-i)) negD := by
  intro x v H Z Q hz rx ok
  match x, rx, ok with
  | .int i, .int _, ok => exact ⟨i, rfl, okr_fz hz ok (.int _)⟩

/-! ### membership in texts; items; slices -/
def inStr (neg : Bool) : D → D → Option T
  | .str i, .str j => some (.fz (.bl (neg ^^ !(Builtin.Str.occurrences j i 0 j.length 1).isEmpty)))
  | _, _ => none
theorem opv_inStr : OpV K cl (fun x y H Q => ∃ i j, x = .str i ∧ y = .str j ∧ Q (.bl (!(Builtin.Str.occurrences j i 0 j.length 1).isEmpty)) H) (inStr false) := by
  intro x y v u H Z Q hz rx ry ok
  match x, y, rx, ry, ok with
  | .str i, .str j, .str _, .str _, ok => exact ⟨i, j, rfl, rfl, okr_fz hz ok (by simp; exact .bl _)⟩
theorem opv_ninStr : OpV K cl (fun x y H Q => ∃ i j, x = .str i ∧ y = .str j ∧ Q (.bl (!(!(Builtin.Str.occurrences j i 0 j.length 1).isEmpty))) H) (inStr true) := by
  intro x y v u H Z Q hz rx ry ok
  match x, y, rx, ry, ok with
  | .str i, .str j, .str _, .str _, ok => exact ⟨i, j, rfl, rfl, okr_fz hz ok (by simp; exact .bl _)⟩
def ixD : D → D → Option T
  | .lst xs, .int i => (atI xs i).map .fz
  | .tup xs, .int i => (atI xs i).map .fz
  | .str z, .int i => if z.length ≤ sizeLine then (atI z.cps.toList i).map fun c => .fz (.str ⟨#[c]⟩) else none
  | _, _ => none
theorem RpL.atI {ds : List D} {vs : List V} {i : Int} {d : D} (r : RpL K cl H Z ds vs) (h : L2.atI ds i = some d) : ∃ v, L2.atI vs i = some v ∧ Rp K cl H Z d v := by
  unfold L2.atI at h ⊢
  rw [r.len] at h
  cases e : ixN vs.length i with
  | none => rw [e] at h; cases h
  | some j =>
    rw [e] at h
    exact r.get (i := j) h
theorem opv_ix : OpV K cl (rIx K) ixD := by
  intro x y v u H Z Q hz rx ry ok
  match x, y, rx, ry, ok with
  | .lst xs, .int i, .lst _ q r, .int _, ok =>
    simp only [ixD] at ok
    cases e : L2.atI xs i with
    | none => rw [e] at ok; exact okr_none ok
    | some d =>
      rw [e] at ok
      obtain ⟨w, h1, h2⟩ := r.atI e
      exact .inl ⟨_, _, i, w, rfl, rfl, SqL.of q, h1, okr_fz hz ok h2⟩
  | .tup xs, .int i, .tup _ q r, .int _, ok =>
    simp only [ixD] at ok
    cases e : L2.atI xs i with
    | none => rw [e] at ok; exact okr_none ok
    | some d =>
      rw [e] at ok
      obtain ⟨w, h1, h2⟩ := r.atI e
      exact .inr (.inl ⟨_, _, i, w, rfl, rfl, SqT.of q, h1, okr_fz hz ok h2⟩)
  | .str z, .int i, .str _, .int _, ok =>
    simp only [ixD] at ok
    by_cases c : z.length ≤ sizeLine
    · rw [if_pos c] at ok
      cases e : L2.atI z.cps.toList i with
      | none => rw [e] at ok; exact okr_none ok
      | some d =>
        rw [e] at ok
        exact .inr (.inr ⟨z, i, d, rfl, rfl, c, e, okr_fz hz ok (.str _)⟩)
    · rw [if_neg c] at ok; exact okr_none ok
def cutD (xs : List D) (lo hi : Option Int) : List D := (xs.drop (HT.sIx xs.length 0 lo)).take (HT.sIx xs.length xs.length hi - HT.sIx xs.length 0 lo)
theorem RpL.cut {ds vs lo hi} (r : RpL K cl H Z ds vs) : RpL K cl H Z (cutD ds lo hi) (cutV vs lo hi) := by
  unfold cutD cutV
  rw [r.len]
  exact (r.drop _).take _
def slD : D → Option Int → Option Int → Option T
  | .lst xs, lo, hi => some (.lst ((cutD xs lo hi).map .fz))
  | .scr ns, lo, hi => some (.lst ((cutD (ns.map .int) lo hi).map .fz))
  | .tup xs, lo, hi => if HT.sIx xs.length 0 lo = 0 ∧ HT.sIx xs.length xs.length hi = xs.length then some (.fz (.tup xs)) else some (.tup ((cutD xs lo hi).map .fz))
  | .str z, lo, hi => if z.length ≤ sizeLine then some (.fz (.str (cutS z lo hi))) else none
  | _, _, _ => none
def rSlAll (K : PySem.W.Frag) : V → Option Int → Option Int → Hp → VK → Prop := fun x lo hi H Q => rSlL K x lo hi H Q ∨ rSlA K x lo hi H Q ∨ (∃ z, x = .str z ∧ z.length ≤ sizeLine ∧ Q (.str (cutS z lo hi)) H)
theorem rpl_ints : ∀ ns : List Int, RpL K cl H Z (ns.map .int) (ns.map V.int)
  | [] => .nil
  | n :: ns => .cons (.int n) (rpl_ints ns)
theorem slv_all : SlV K cl (rSlAll K) slD := by
  intro x v lo hi H Z Q hz rx ok
  match x, rx, ok with
  | .lst xs, .lst _ q r, ok => exact .inl ⟨_, _, rfl, SqL.of q, fun p np => okr_lst hz ok r.cut np⟩
  | .scr ns, .scr q, ok => exact .inl ⟨_, _, rfl, (q.elim (fun ⟨o, its, n, h⟩ => .inr ⟨o, its, n, h⟩) fun ⟨_, o, q⟩ => .inl (.inr ⟨_, q⟩) : SqL K H _ (ns.map V.int)), fun p np => okr_lst hz ok (rpl_ints ns).cut np⟩
  | .tup xs, .tup q0 q r, ok =>
    simp only [slD] at ok
    refine .inr (.inl ⟨_, _, rfl, SqT.of q, fun c => ?_, fun c p np => ?_⟩)
    · rw [if_pos (by rw [r.len]; exact c)] at ok
      exact okr_fz hz ok (.tup q0 q r)
    · rw [if_neg (by rw [r.len]; exact c)] at ok
      exact okr_tup hz ok r.cut np
  | .str z, .str _, ok =>
    simp only [slD] at ok
    by_cases c : z.length ≤ sizeLine
    · rw [if_pos c] at ok
      exact .inr (.inr ⟨z, rfl, c, okr_fz hz ok (.str _)⟩)
    · rw [if_neg c] at ok; exact okr_none ok

/-! ### built-ins -/
def lenD : List D → Option T
  | [.str x] => if x.length ≤ sizeLine then some (.fz (.int x.length)) else none
  | [.lst xs] => some (.fz (.int xs.length))
  | [.tup xs] => some (.fz (.int xs.length))
  | _ => none
theorem callv_len : CallV K cl (fun xs H Q => ∃ x n, xs = [x] ∧ LenV K x H n ∧ Q (.int n) H) lenD := by
  intro xs vs H Z Q hz rs ok
  match xs, vs, rs, ok with
  | [.str x], [_], .cons (.str _) .nil, ok =>
    simp only [lenD] at ok
    by_cases c : x.length ≤ sizeLine
    · rw [if_pos c] at ok
      exact ⟨_, _, rfl, ⟨c, rfl⟩, okr_fz hz ok (.int _)⟩
    · rw [if_neg c] at ok; exact okr_none ok
  | [.lst xs], [_], .cons (.lst _ q r) .nil, ok => exact ⟨_, _, rfl, .inl ⟨_, SqL.of q, rfl⟩, okr_fz hz ok (by rw [r.len]; exact .int _)⟩
  | [.tup xs], [_], .cons (.tup q0 q r) .nil, ok => exact ⟨_, _, rfl, .inr ⟨_, SqT.of q, rfl⟩, okr_fz hz ok (by rw [r.len]; exact .int _)⟩
def absD : List D → Option T
  | [.int i] => some (.fz (.int (if i < 0 then -i else i)))
  | _ => none
theorem callv_abs : CallV K cl (fun xs H Q => ∃ i, xs = [.int i] ∧ Q (.int (if i < 0 then -i else i)) H) absD := by
  intro xs vs H Z Q hz rs ok
  match xs, vs, rs, ok with
  | [.int i], [_], .cons (.int _) .nil, ok => exact ⟨i, rfl, okr_fz hz ok (.int _)⟩
def boolsOf : List D → Option (List Bool)
  | [] => some []
  | .bl b :: ds => (boolsOf ds).map (b :: ·)
  | _ :: _ => none
theorem boolsOf_rp : ∀ {ds vs bs}, RpL K cl H Z ds vs → boolsOf ds = some bs → vs = bs.map V.bl
  | [], _, _, .nil, h => by cases h; rfl
  | .bl b :: ds, _, bs, .cons (.bl _) r, h => by
    simp only [boolsOf] at h
    cases e : boolsOf ds with
    | none => rw [e] at h; cases h
    | some l => rw [e] at h; cases h; rw [boolsOf_rp r e]; rfl
def allD : List D → Option T
  | [.lst xs] => (boolsOf xs).map fun bs => .fz (.bl (bs.all id))
  | _ => none
theorem callv_all : CallV K cl (rAll K) allD := by
  intro xs vs H Z Q hz rs ok
  match xs, vs, rs, ok with
  | [.lst xs], [_], .cons (.lst _ q r) .nil, ok =>
    simp only [allD] at ok
    cases e : boolsOf xs with
    | none => rw [e] at ok; exact okr_none ok
    | some bs =>
      rw [e] at ok
      have := boolsOf_rp r e
      subst this
      exact ⟨_, bs, rfl, SqL.of q, okr_fz hz ok (.bl _)⟩
/-- list(x), tuple(x) -/
def listD : List D → Option T
  | [.lst xs] => some (.lst (xs.map .fz))
  | [.tup xs] => some (.lst (xs.map .fz))
  | _ => none
theorem callv_list : CallV K cl (fun xs H Q => ∃ p ys, xs = [.ref p] ∧ (SqL K H p ys ∨ SqT K H p ys) ∧ ∀ l, H l = none → Q (.ref l) (upd H l (.lst ys))) listD := by
  intro xs vs H Z Q hz rs ok
  match xs, vs, rs, ok with
  | [.lst xs], [_], .cons (.lst _ q r) .nil, ok => exact ⟨_, _, rfl, .inl (SqL.of q), fun p np => okr_lst hz ok r np⟩
  | [.tup xs], [_], .cons (.tup q0 q r) .nil, ok => exact ⟨_, _, rfl, .inr (SqT.of q), fun p np => okr_lst hz ok r np⟩
def tupleD : List D → Option T
  | [.lst xs] => some (.tup (xs.map .fz))
  | [.tup xs] => some (.fz (.tup xs))
  | _ => none
theorem callv_tuple : CallV K cl (fun xs H Q => ∃ p ys, xs = [.ref p] ∧ ((SqL K H p ys ∧ ∀ l, H l = none → Q (.ref l) (upd H l (.tup ys))) ∨ (SqT K H p ys ∧ Q (.ref p) H))) tupleD := by
  intro xs vs H Z Q hz rs ok
  match xs, vs, rs, ok with
  | [.lst xs], [_], .cons (.lst _ q r) .nil, ok => exact ⟨_, _, rfl, .inl ⟨SqL.of q, fun p np => okr_tup hz ok r np⟩⟩
  | [.tup xs], [_], .cons (.tup q0 q r) .nil, ok => exact ⟨_, _, rfl, .inr ⟨SqT.of q, okr_fz hz ok (.tup q0 q r)⟩⟩

/-! ### isinstance -/
def tyName : D → Option String
  | .non => some "NoneType" | .bl _ => some "bool" | .int _ => some "int" | .str _ => some "str"
  | .tup _ => some "tuple" | .lst _ => some "list" | .dct _ => some "dict"
  | _ => none
/-- is the built-in class a one of those under b -/
def under (a b : String) : Bool := a == b || (a == "bool" && b == "int")
def knownTy (b : String) : Bool := b == "str" || b == "int" || b == "bool" || b == "list" || b == "tuple" || b == "dict"
theorem kit_under {a b : String} {d : D} (h : tyName d = some a) (hb : knownTy b = true) : kitB a b = some (under a b) := by
  have ha : a = "NoneType" ∨ a = "bool" ∨ a = "int" ∨ a = "str" ∨ a = "tuple" ∨ a = "list" ∨ a = "dict" := by
    cases d <;> simp [tyName] at h <;> simp [← h]
  have hb' : b = "str" ∨ b = "int" ∨ b = "bool" ∨ b = "list" ∨ b = "tuple" ∨ b = "dict" := by
    simp [knownTy] at hb
    rcases hb with ((((h | h) | h) | h) | h) | h <;> simp [h]
  rcases ha with rfl | rfl | rfl | rfl | rfl | rfl | rfl <;> rcases hb' with rfl | rfl | rfl | rfl | rfl | rfl <;> decide +kernel
def isTyD : List D → Option T
  | [x, .ty b] => match tyName x with
    | some a => if knownTy b = true then some (.fz (.bl (under a b))) else none
    | none => none
  | _ => none
theorem tyX_of {d : D} {v : V} {a : String} (r : Rp K cl H Z d v) (h : tyName d = some a) : TyX K H v (.type a) := by
  cases r with
  | non => cases h; exact .base .non
  | bl b => cases h; exact .base (.bl b)
  | int i => cases h; exact .base (.int i)
  | str x => cases h; exact .base (.str x)
  | tup _ q r => cases h; exact .base (.tup q)
  | lst _ q r => cases h; exact .base (.lst q)
  | dct _ q _ _ =>
    cases h
    rcases q with q | ⟨o, q⟩
    · exact .base (.dK q)
    · exact .fDict q
  | _ => simp [tyName] at h
theorem callv_isTy : CallV K cl (rIsi K) isTyD := by
  intro xs vs H Z Q hz rs ok
  match xs, vs, rs, ok with
  | [x, .ty b], [v, _], .cons rx (.cons (.ty _) .nil), ok =>
    simp only [isTyD] at ok
    cases e : tyName x with
    | none => rw [e] at ok; exact okr_none ok
    | some a =>
      rw [e] at ok
      dsimp only at ok
      by_cases c : knownTy b = true
      · rw [if_pos c] at ok
        exact ⟨v, .ty b, _, _, _, rfl, .ty b, tyX_of rx e, kit_ty (kit_under e c), okr_fz hz ok (.bl _)⟩
      · rw [if_neg c] at ok; exact okr_none ok
end
end VL

namespace VL
open PySem PySem.Spec PyProof.Rows L2

/-! ### places within owned data -/
@[simp] def setSnd {κ : Type} : List (κ × T) → Nat → T → List (κ × T)
  | [], _, _ => []
  | p :: r, 0, u => (p.1, u) :: r
  | p :: r, n + 1, u => p :: setSnd r n u
theorem setSnd_keys {κ : Type} : ∀ (ks : List (κ × T)) (n : Nat) (u : T), (setSnd ks n u).map (·.1) = ks.map (·.1) ∧ (setSnd ks n u).map (·.2) = (ks.map (·.2)).set n u
  | [], _, _ => ⟨rfl, rfl⟩
  | p :: r, 0, u => ⟨rfl, rfl⟩
  | p :: r, n + 1, u => by
    obtain ⟨h1, h2⟩ := setSnd_keys r n u
    simp [setSnd, h1, h2]
@[simp] def kids : T → List T
  | .fz _ => []
  | .tup ts => ts
  | .lst ts => ts
  | .dct ks => ks.map (·.2)
  | .dcT ks => ks.map (·.2)
  | .ins _ fs => fs.map (·.2)
@[simp] def setKid : T → Nat → T → T
  | .fz d, _, _ => .fz d
  | .tup ts, n, u => .tup (ts.set n u)
  | .lst ts, n, u => .lst (ts.set n u)
  | .dct ks, n, u => .dct (setSnd ks n u)
  | .dcT ks, n, u => .dcT (setSnd ks n u)
  | .ins c fs, n, u => .ins c (setSnd fs n u)
def kidV (H : Hp) (v : V) (n : Nat) : Option V := match v with
  | .ref a => match H a with
    | some (.tup vs) => vs[n]?
    | some (.lst vs) => vs[n]?
    | some (.dK kvs) => (kvs.map (·.2))[n]?
    | some (.dT kvs) => (kvs.map (·.2))[n]?
    | some (.ins _ _ fvs) => (fvs.map (·.2))[n]?
    | _ => none
  | _ => none
section
variable {K : PySem.W.Frag} {cl : Str → Addr} {H : Hp} {Z : PA1}
theorem OwnL.kid : ∀ {ts vs} {S : PA1} {n : Nat} {t : T}, OwnL K cl H Z ts vs S → ts[n]? = some t →
    ∃ v, ∃ S1 S2 : PA1, vs[n]? = some v ∧ Own K cl H Z t v S1 ∧ (∀ a, S1 a → S a) ∧ (∀ a, S2 a → S a) ∧ Dis S1 S2 ∧ ∀ H' (Z' : PA1) t' (S1' : PA1), (∀ a, Z a → Z' a) → (∀ a, Z a → Kept H H' a) → (∀ a o, S2 a → H a = some o → H' a = some o) →
      Own K cl H' Z' t' v S1' → Dis S1' S2 → OwnL K cl H' Z' (ts.set n t') vs (Uni S1' S2)
  | _, _, _, _, _, .nil, h => by simp at h
  | _, _, S, 0, _, .cons (S1 := A1) (S2 := A2) q r a1 a2 d, h => by
    simp at h; subst h
    exact ⟨_, A1, A2, rfl, q, a1, a2, d, fun H' Z' t' S1' hz hr hs ow dd => .cons ow (r.mono hz hr hs) (fun _ z => .inl z) (fun _ z => .inr z) dd⟩
  | _, _, S, n + 1, _, .cons (S1 := A1) (S2 := A2) q r a1 a2 d, h => by
    obtain ⟨v, S1, S2, h1, h2, h3, h4, h5, h6⟩ := OwnL.kid r (n := n) (by simpa using h)
    refine ⟨v, S1, Uni A1 S2, by simpa using h1, h2, fun a z => a2 a (h3 a z), fun a z => z.elim (a1 a) fun z => a2 a (h4 a z), fun a z y => y.elim (fun y => d a y (h3 a z)) (h5 a z), fun H' Z' t' S1' hz hr hs ow dd => ?_⟩
    refine .cons (q.mono hz hr fun a o z => hs a o (.inl z)) (h6 H' Z' t' S1' hz hr (fun a o z => hs a o (.inr z)) ow fun a z y => dd a z (.inr y)) (fun a z => .inr (.inl z)) (fun a z => z.imp id .inr) fun a z y => ?_
    rcases y with y | y
    · exact dd a y (.inl z)
    · exact d a z (h4 a y)
theorem Own.kid {t v} {S : PA1} {n : Nat} {u : T} (h : Own K cl H Z t v S) (hk : (kids t)[n]? = some u) :
    ∃ w, ∃ Su R : PA1, kidV H v n = some w ∧ Own K cl H Z u w Su ∧ (∀ a, Su a → S a) ∧ (∀ a, R a → S a) ∧ Dis Su R ∧ ∀ H' (Z' : PA1) u' (Su' : PA1), (∀ a, Z a → Z' a) → (∀ a, Z a → Kept H H' a) → (∀ a o, R a → H a = some o → H' a = some o) →
      Own K cl H' Z' u' w Su' → Dis Su' R → Own K cl H' Z' (setKid t n u') v (Uni Su' R) := by
  have go : ∀ {a : Addr} {ts : List T} {vs : List V} {R0 : PA1}, S a → (∀ b, R0 b → S b ∧ b ≠ a) → OwnL K cl H Z ts vs R0 → ts[n]? = some u →
      ∃ w, ∃ Su R : PA1, vs[n]? = some w ∧ Own K cl H Z u w Su ∧ (∀ a, Su a → S a) ∧ (∀ a, R a → S a) ∧ Dis Su R ∧ R a ∧ ∀ H' (Z' : PA1) u' (Su' : PA1), (∀ a, Z a → Z' a) → (∀ a, Z a → Kept H H' a) → (∀ a o, R a → H a = some o → H' a = some o) →
        Own K cl H' Z' u' w Su' → Dis Su' R → ∃ R1 : PA1, (∀ b, R1 b → Uni Su' R b ∧ b ≠ a) ∧ OwnL K cl H' Z' (ts.set n u') vs R1 := by
    intro a ts vs R0 sa sub r hn
    obtain ⟨w, S1, S2, h1, h2, h3, h4, h5, h6⟩ := r.kid hn
    refine ⟨w, S1, fun b => b = a ∨ S2 b, h1, h2, fun b z => (sub b (h3 b z)).1, fun b z => z.elim (fun e => e ▸ sa) fun z => (sub b (h4 b z)).1, fun b z y => y.elim (fun e => (sub b (h3 b z)).2 e) (h5 b z), .inl rfl, fun H' Z' u' Su' hz hr hs ow dd => ?_⟩
    refine ⟨Uni Su' S2, fun b z => ?_, h6 H' Z' u' Su' hz hr (fun b o z => hs b o (.inr z)) ow fun b z y => dd b z (.inr y)⟩
    rcases z with z | z
    · exact ⟨.inl z, fun e => dd b z (.inl e)⟩
    · exact ⟨.inr (.inr z), (sub b (h4 b z)).2⟩
  cases h with
  | fz h => simp [kids] at hk
  | @tup a vs ts _ R0 h1 h2 h3 r =>
    obtain ⟨w, Su, R, g1, g2, g3, g4, g5, ga, g6⟩ := go h2 h3 r hk
    refine ⟨w, Su, R, by simp only [kidV, h1]; exact g1, g2, g3, g4, g5, fun H' Z' u' Su' hz hr hs ow dd => ?_⟩
    obtain ⟨R1, k1, k2⟩ := g6 H' Z' u' Su' hz hr hs ow dd
    exact .tup (hs a _ ga h1) (.inr ga) k1 k2
  | @lst a vs ts _ R0 h1 h2 h3 r =>
    obtain ⟨w, Su, R, g1, g2, g3, g4, g5, ga, g6⟩ := go h2 h3 r hk
    refine ⟨w, Su, R, by simp only [kidV, h1]; exact g1, g2, g3, g4, g5, fun H' Z' u' Su' hz hr hs ow dd => ?_⟩
    obtain ⟨R1, k1, k2⟩ := g6 H' Z' u' Su' hz hr hs ow dd
    exact .lst (hs a _ ga h1) (.inr ga) k1 k2
  | @dct a kvs ks _ R0 h1 h2 h3 h4 r =>
    obtain ⟨w, Su, R, g1, g2, g3, g4, g5, ga, g6⟩ := go h2 h3 r hk
    refine ⟨w, Su, R, by simp only [kidV, h1]; exact g1, g2, g3, g4, g5, fun H' Z' u' Su' hz hr hs ow dd => ?_⟩
    obtain ⟨R1, k1, k2⟩ := g6 H' Z' u' Su' hz hr hs ow dd
    exact .dct (hs a _ ga h1) (.inr ga) k1 ((setSnd_keys ks n u').1.trans h4) (by rw [(setSnd_keys ks n u').2]; exact k2)
  | @dcT a kvs ks _ R0 h1 h2 h3 h4 r =>
    obtain ⟨w, Su, R, g1, g2, g3, g4, g5, ga, g6⟩ := go h2 h3 r hk
    refine ⟨w, Su, R, by simp only [kidV, h1]; exact g1, g2, g3, g4, g5, fun H' Z' u' Su' hz hr hs ow dd => ?_⟩
    obtain ⟨R1, k1, k2⟩ := g6 H' Z' u' Su' hz hr hs ow dd
    exact .dcT (hs a _ ga h1) (.inr ga) k1 ((setSnd_keys ks n u').1.trans h4) (by rw [(setSnd_keys ks n u').2]; exact k2)
  | @ins a c dx fvs ks _ R0 h1 h2 h3 h4 r =>
    obtain ⟨w, Su, R, g1, g2, g3, g4, g5, ga, g6⟩ := go h2 h3 r hk
    refine ⟨w, Su, R, by simp only [kidV, h1]; exact g1, g2, g3, g4, g5, fun H' Z' u' Su' hz hr hs ow dd => ?_⟩
    obtain ⟨R1, k1, k2⟩ := g6 H' Z' u' Su' hz hr hs ow dd
    exact .ins (hs a _ ga h1) (.inr ga) k1 ((setSnd_keys ks n u').1.trans h4) (by rw [(setSnd_keys ks n u').2]; exact k2)
end
/-- a place: down from a value -/
@[simp] def getP : T → List Nat → Option T
  | t, [] => some t
  | t, n :: p => match (kids t)[n]? with
    | some k => getP k p
    | none => none
@[simp] def setP : T → List Nat → T → T
  | _, [], u => u
  | t, n :: p, u => match (kids t)[n]? with
    | some k => setKid t n (setP k p u)
    | none => t
def valP (H : Hp) : V → List Nat → Option V
  | v, [] => some v
  | v, n :: p => match kidV H v n with
    | some w => valP H w p
    | none => none
section
variable {K : PySem.W.Frag} {cl : Str → Addr} {H : Hp} {Z : PA1}
theorem Own.at : ∀ {p : List Nat} {t v} {S : PA1} {u : T}, Own K cl H Z t v S → getP t p = some u →
    ∃ w, ∃ Su R : PA1, valP H v p = some w ∧ Own K cl H Z u w Su ∧ (∀ a, Su a → S a) ∧ (∀ a, R a → S a) ∧ Dis Su R ∧ ∀ H' (Z' : PA1) u' (Su' : PA1), (∀ a, Z a → Z' a) → (∀ a, Z a → Kept H H' a) → (∀ a o, R a → H a = some o → H' a = some o) →
      Own K cl H' Z' u' w Su' → Dis Su' R → Own K cl H' Z' (setP t p u') v (Uni Su' R)
  | [], t, v, S, u, h, hp => by
    cases hp
    exact ⟨v, S, Emp, rfl, h, fun _ z => z, fun _ z => z.elim, fun _ _ z => z, fun H' Z' u' Su' hz hr hs ow dd => ow.up fun _ z => .inl z⟩
  | n :: p, t, v, S, u, h, hp => by
    simp only [getP] at hp
    cases hk : (kids t)[n]? with
    | none => rw [hk] at hp; cases hp
    | some k =>
      rw [hk] at hp
      obtain ⟨w1, S1, R1, a1, a2, a3, a4, a5, a6⟩ := h.kid hk
      obtain ⟨w, Su, R, b1, b2, b3, b4, b5, b6⟩ := Own.at a2 hp
      refine ⟨w, Su, Uni R R1, by simp only [valP, a1]; exact b1, b2, fun a z => a3 a (b3 a z), fun a z => z.elim (fun z => a3 a (b4 a z)) (a4 a), fun a z y => y.elim (b5 a z) (a5 a (b3 a z)), fun H' Z' u' Su' hz hr hs ow dd => ?_⟩
      have q1 := b6 H' Z' u' Su' hz hr (fun a o z => hs a o (.inl z)) ow fun a z y => dd a z (.inl y)
      have q2 := a6 H' Z' _ (Uni Su' R) hz hr (fun a o z => hs a o (.inr z)) q1 fun a z y => z.elim (fun z => dd a z (.inr y)) fun z => a5 a (b4 a z) y
      simp only [setP, hk]
      exact q2.up fun a z => z.elim (fun z => z.imp id .inl) fun z => .inr (.inr z)
structure Loc where
  i : Nat
  p : List Nat
@[simp] def getE (E : En) (l : Loc) : Option T := match E[l.i]? with
  | some (some t) => getP t l.p
  | _ => none
@[simp] def setE (E : En) (l : Loc) (u : T) : En := match E[l.i]? with
  | some (some t) => E.set l.i (some (setP t l.p u))
  | _ => E
def valE (H : Hp) (σ : L2.St) (l : Loc) : Option V := match σ[l.i]? with
  | some (some v) => valP H v l.p
  | _ => none
theorem OwnE.at {E : En} {σ : L2.St} {S : PA1} {l : Loc} {u : T} (h : OwnE K cl H Z E σ S) (hg : getE E l = some u) :
    ∃ w, ∃ Su R : PA1, valE H σ l = some w ∧ Own K cl H Z u w Su ∧ (∀ a, Su a → S a) ∧ (∀ a, R a → S a) ∧ Dis Su R ∧ ∀ H' (Z' : PA1) u' (Su' : PA1), (∀ a, Z a → Z' a) → (∀ a, Z a → Kept H H' a) → (∀ a o, R a → H a = some o → H' a = some o) →
      Own K cl H' Z' u' w Su' → Dis Su' R → OwnE K cl H' Z' (setE E l u') σ (Uni Su' R) := by
  unfold getE at hg
  match hE : E[l.i]?, hg with
  | some (some t), hg =>
    obtain ⟨v, Si, Sr, h1, h2, h3, h4, h5, h6⟩ := h.take hE
    obtain ⟨w, Su, R, b1, b2, b3, b4, b5, b6⟩ := h2.at hg
    refine ⟨w, Su, Uni R Sr, by simp only [valE, h1]; exact b1, b2, fun a z => h5 a (b3 a z), fun a z => z.elim (fun z => h5 a (b4 a z)) (h6 a), fun a z y => y.elim (b5 a z) (h4 a (b3 a z)), fun H' Z' u' Su' hz hr hs ow dd => ?_⟩
    have q1 := b6 H' Z' u' Su' hz hr (fun a o z => hs a o (.inl z)) ow fun a z y => dd a z (.inl y)
    have q2 := OwnE.put (h3.mono hz hr fun a o z => hs a o (.inr z)) (h.slot hE) q1 fun a z y => z.elim (fun z => dd a z (.inr y)) fun z => h4 a (b4 a z) y
    rw [set_get h1] at q2
    simp only [setE, hE]
    exact q2.up fun a z => z.elim (fun z => z.imp id .inl) fun z => .inr (.inr z)
end

/-! ### reading without taking anything -/
@[simp] def atomD : D → Bool
  | .non => true | .bl _ => true | .int _ => true | .str _ => true | .ty _ => true | .gl _ => true
  | _ => false
mutual
/-- nothing frozen but atoms -/
@[simp] def clT : T → Bool
  | .fz d => atomD d
  | .tup ts => clL ts
  | .lst ts => clL ts
  | .dct ks => clK ks
  | .dcT ks => clQ ks
  | .ins _ fs => clF fs
@[simp] def clL : List T → Bool
  | [] => true
  | t :: ts => clT t && clL ts
@[simp] def clK : List (Key × T) → Bool
  | [] => true
  | (_, t) :: ts => clT t && clK ts
@[simp] def clQ : List (List Key × T) → Bool
  | [] => true
  | (_, t) :: ts => clT t && clQ ts
@[simp] def clF : List (Str × T) → Bool
  | [] => true
  | (_, t) :: ts => clT t && clF ts
end
theorem clK_snd : ∀ ks : List (Key × T), clK ks = clL (ks.map (·.2))
  | [] => by simp [clK, clL]
  | (_, t) :: ts => by simp [clK, clL, clK_snd ts]
theorem clQ_snd : ∀ ks : List (List Key × T), clQ ks = clL (ks.map (·.2))
  | [] => by simp [clQ, clL]
  | (_, t) :: ts => by simp [clQ, clL, clQ_snd ts]
theorem clF_snd : ∀ ks : List (Str × T), clF ks = clL (ks.map (·.2))
  | [] => by simp [clF, clL]
  | (_, t) :: ts => by simp [clF, clL, clF_snd ts]
section
variable {K : PySem.W.Frag} {cl : Str → Addr} {H : Hp} {Z Z' : PA1}
theorem Rp.atom {d v} (h : Rp K cl H Z d v) (c : atomD d = true) : Rp K cl H Z' d v := by
  cases h with
  | non => exact .non
  | bl b => exact .bl b
  | int b => exact .int b
  | str b => exact .str b
  | ty b => exact .ty b
  | gl b => exact .gl b
  | _ => simp [atomD] at c
mutual
theorem Own.closed : ∀ {t v} {S : PA1}, Own K cl H Z t v S → clT t = true → Own K cl H Z' t v S
  | _, _, _, .fz h, c => .fz (h.atom (by simpa [clT] using c))
  | _, _, _, .tup h1 h2 h3 r, c => .tup h1 h2 h3 (OwnL.closed r (by simpa [clT] using c))
  | _, _, _, .lst h1 h2 h3 r, c => .lst h1 h2 h3 (OwnL.closed r (by simpa [clT] using c))
  | _, _, _, .dct h1 h2 h3 h4 r, c => .dct h1 h2 h3 h4 (OwnL.closed r (by simpa [clT, clK_snd] using c))
  | _, _, _, .dcT h1 h2 h3 h4 r, c => .dcT h1 h2 h3 h4 (OwnL.closed r (by simpa [clT, clQ_snd] using c))
  | _, _, _, .ins h1 h2 h3 h4 r, c => .ins h1 h2 h3 h4 (OwnL.closed r (by simpa [clT, clF_snd] using c))
theorem OwnL.closed : ∀ {ts vs} {S : PA1}, OwnL K cl H Z ts vs S → clL ts = true → OwnL K cl H Z' ts vs S
  | _, _, _, .nil, _ => .nil
  | _, _, _, .cons h r a1 a2 d, c => .cons (Own.closed h (by simp [clL] at c; exact c.1)) (OwnL.closed r (by simp [clL] at c; exact c.2)) a1 a2 d
end
/-- every name frozen -/
@[simp] def frzE (E : En) : En := E.map fun o => o.map fun t => .fz (frz t)
theorem OwnE.frzE {E : En} {σ : L2.St} {S : PA1} (h : OwnE K cl H Z E σ S) (hz : ∀ a, Z a → Z' a) (hs : ∀ a, S a → Z' a) : OwnE K cl H Z' (VL.frzE E) σ Emp := by
  induction h with
  | nl => exact .nl
  | no r ih => exact .no (ih hs)
  | so q r a1 a2 d ih => exact .so (S1 := Emp) (S2 := Emp) (.fz (q.frz hz fun a z => hs a (a1 a z))) (ih fun a z => hs a (a2 a z)) (fun _ z => z) (fun _ z => z) fun _ z _ => z
/-- what a run beside frozen names leaves of them -/
theorem peekStep {H' : Hp} {S Sr S' Z1 : PA1} (ok : Okk H Z S) (st : Step H (Uni Z S) Emp H' Z1 (Uni Sr S')) (ok1 : Okk H' Z1 (Uni Sr S')) :
    Step H Z S H' Z (Uni Sr S) ∧ Okk H' Z (Uni Sr S) ∧ Dis Sr S ∧ (∀ a o, H a = some o → H' a = some o) := by
  have kp : ∀ a o, H a = some o → H' a = some o := fun a o e => st.kp a o e fun z => z
  refine ⟨⟨fun _ z => z, fun _ z => .inl z, fun a z => z.elim (fun z => (st.sn a (.inl z)).elim False.elim .inr) .inl, fun a o e _ => kp a o e, st.al⟩, ⟨fun a z y => ?_, fun a z => z.elim (fun z => ok1.sa a (.inl z)) fun z => st.al a (ok.sa a z), fun a z => st.al a (ok.za a z)⟩, fun a z y => ?_, kp⟩
  · rcases z with z | z
    · exact ok1.dis a (.inl z) (st.zz a (.inl y))
    · exact ok.dis a z y
  · exact ok1.dis a (.inl z) (st.zz a (.inr y))
theorem Okk.peek {S : PA1} (ok : Okk H Z S) : Okk H (Uni Z S) Emp := ⟨fun _ z => z.elim, fun _ z => z.elim, fun a z => z.elim (ok.za a) (ok.sa a)⟩
end
section
variable {X : Cx} {cl : Str → Addr} {e : Expr} {t : Ev T} {tb : Ev Bool}
def ePeek (t : Ev T) : Ev T := fun E => match t (frzE E) with
  | some (.ok r _) => if clT r = true then some (.ok r E) else none
  | _ => none
theorem ie_peek (h : IE X cl e t) : IE X cl e (ePeek t) := by
  refine ⟨fun W tk => ?_⟩
  obtain ⟨te, p, q⟩ := h.run W tk
  refine ⟨te, p, fun E σ H Z S Q oe ok sat => ?_⟩
  refine q (frzE E) σ H (Uni Z S) Emp Q (oe.frzE (fun _ z => .inl z) fun _ z => .inr z) ok.peek ?_
  unfold ePeek at sat
  match hE : t (frzE E), sat with
  | some (.ok r E1), sat =>
    dsimp only at sat
    by_cases c : clT r = true
    · rw [if_pos c] at sat
      intro v H' Z1 Sr S' oe1 ow1 d1 st1 ok1
      obtain ⟨s1, o1, dd, kp⟩ := peekStep ok st1 ok1
      exact sat v H' Z Sr S (oe.mono (fun _ z => z) (fun a _ => .of (kp a)) fun a o _ e => kp a o e) (ow1.closed c) dd s1 o1
    · rw [if_neg c] at sat; exact sat.elim
  | some (.ex x E1), sat => exact sat.elim
  | none, sat => exact sat.elim
def bPeek (t : Ev Bool) : Ev Bool := fun E => match t (frzE E) with
  | some (.ok b _) => some (.ok b E)
  | _ => none
theorem ib_peek (h : IB X cl e tb) : IB X cl e (bPeek tb) := by
  refine ⟨fun W tk => ?_⟩
  obtain ⟨te, p, q⟩ := h.run W tk
  refine ⟨te, p, fun E σ H Z S Q oe ok sat => ?_⟩
  refine q (frzE E) σ H (Uni Z S) Emp Q (oe.frzE (fun _ z => .inl z) fun _ z => .inr z) ok.peek ?_
  unfold bPeek at sat
  match hE : tb (frzE E), sat with
  | some (.ok b E1), sat =>
    intro H' Z1 S' oe1 st1 ok1
    obtain ⟨s1, o1, dd, kp⟩ := peekStep (Sr := Emp) (S' := S') ok (st1.less fun _ z => z.elim False.elim id) (ok1.less fun _ z => z.elim False.elim id)
    exact (sat : SatB X.K cl W σ H Z S Q (some (.ok b E))) H' Z S (oe.mono (fun _ z => z) (fun a _ => .of (kp a)) fun a o _ e => kp a o e) (s1.less fun _ z => .inr z) (o1.less fun _ z => .inr z)
  | some (.ex x E1), sat => exact sat.elim
  | none, sat => exact sat.elim
end
end VL

namespace VL
open PySem PySem.Spec PyProof.Rows L2

/-! ### dicts: places of keys -/
section
variable {κ : Type} [DecidableEq κ]
def keyIx : List κ → κ → Option Nat
  | [], _ => none
  | a :: r, k => if a = k then some 0 else (keyIx r k).map (· + 1)
theorem keyIx_none : ∀ {ks : List κ} {k : κ}, keyIx ks k = none → k ∉ ks
  | [], _, _ => by simp
  | a :: r, k, h => by
    simp only [keyIx] at h
    by_cases e : a = k
    · rw [if_pos e] at h; cases h
    · rw [if_neg e] at h
      have : keyIx r k = none := by
        cases q : keyIx r k with
        | none => rfl
        | some n => rw [q] at h; cases h
      simp only [List.mem_cons, not_or]
      exact ⟨fun q => e q.symm, keyIx_none this⟩
theorem keyIx_some : ∀ {ks : List κ} {k : κ} {n : Nat}, keyIx ks k = some n → ks[n]? = some k
  | [], _, _, h => by cases h
  | a :: r, k, n, h => by
    simp only [keyIx] at h
    by_cases e : a = k
    · rw [if_pos e] at h; cases h; subst e; rfl
    · rw [if_neg e] at h
      cases q : keyIx r k with
      | none => rw [q] at h; cases h
      | some m =>
        rw [q] at h; cases h
        show (a :: r)[m + 1]? = some k
        simpa using keyIx_some q
theorem valV_ix {V' : Type} : ∀ {kvs : List (κ × V')} {k : κ}, (kvs.find? fun kv => decide (kv.1 = k)).map (·.2) = (match keyIx (kvs.map (·.1)) k with | some n => (kvs.map (·.2))[n]? | none => none)
  | [], _ => rfl
  | p :: r, k => by
    simp only [List.map_cons, keyIx, List.find?_cons]
    by_cases e : p.1 = k
    · simp [e]
    · rw [if_neg e]
      simp only [e, decide_false]
      rw [valV_ix (kvs := r)]
      cases keyIx (r.map (·.1)) k with
      | none => rfl
      | some n => rfl
theorem putK_at : ∀ {kvs : List (κ × V)} {k : κ} {v : V} {n : Nat}, (kvs.map (·.1)).Nodup → keyIx (kvs.map (·.1)) k = some n → (putK kvs k v).map (·.1) = kvs.map (·.1) ∧ (putK kvs k v).map (·.2) = (kvs.map (·.2)).set n v := by
  intro kvs k v n nd h
  have hany : (kvs.any fun kv => decide (kv.1 = k)) = true := by
    have := keyIx_some h
    have hm := List.mem_of_getElem? this
    obtain ⟨p, hp, e⟩ := List.mem_map.mp hm
    exact List.any_eq_true.mpr ⟨p, hp, by simpa using e⟩
  unfold putK
  rw [if_pos hany]
  clear hany
  induction kvs generalizing n with
  | nil => cases h
  | cons p r ih =>
    simp only [List.map_cons, keyIx] at h
    simp only [List.map_cons, List.nodup_cons] at nd
    by_cases e : p.1 = k
    · rw [if_pos e] at h
      cases h
      have hr : r.map (fun kv => if kv.1 = k then (kv.1, v) else kv) = r := by
        have h1 : ∀ q ∈ r, (if q.1 = k then (q.1, v) else q) = q := fun q hq => if_neg fun z => nd.1 (by rw [e, ← z]; exact List.mem_map_of_mem hq)
        rw [List.map_congr_left h1]; simp
      simp [e, hr]
    · rw [if_neg e] at h
      cases q : keyIx (r.map (·.1)) k with
      | none => rw [q] at h; cases h
      | some m =>
        rw [q] at h
        cases h
        obtain ⟨h1, h2⟩ := ih nd.2 q
        simp [e, h1, h2]
theorem putK_new' {kvs : List (κ × V)} {k : κ} {v : V} (h : keyIx (kvs.map (·.1)) k = none) : putK kvs k v = kvs ++ [(k, v)] := by
  have hn := keyIx_none h
  unfold putK
  rw [if_neg]
  intro q
  obtain ⟨p, hp, e⟩ := List.any_eq_true.mp q
  exact hn (by simp at e; rw [← e]; exact List.mem_map_of_mem hp)
end
def keyD : D → Option Key
  | .int i => some (.inl i)
  | .str x => some (.inr x)
  | _ => none
def keysL : List D → Option (List Key)
  | [] => some []
  | d :: ds => match keyD d, keysL ds with | some k, some ks => some (k :: ks) | _, _ => none
def keysD : D → Option (List Key)
  | .tup ds => keysL ds
  | _ => none
section
variable {K : PySem.W.Frag} {cl : Str → Addr} {H : Hp} {Z : PA1} {Q : VK}
theorem keyD_rp {d : D} {v : V} {k : Key} (r : Rp K cl H Z d v) (h : keyD d = some k) : v = kV k := by
  cases r <;> first | (cases h; rfl) | (cases h; done)
theorem keysL_rp : ∀ {ds vs ks}, RpL K cl H Z ds vs → keysL ds = some ks → vs = ks.map kV
  | [], _, _, .nil, h => by cases h; rfl
  | d :: ds, _, ks, .cons r rs, h => by
    simp only [keysL] at h
    cases e1 : keyD d with
    | none => rw [e1] at h; cases h
    | some k =>
      cases e2 : keysL ds with
      | none => rw [e1, e2] at h; cases h
      | some l =>
        rw [e1, e2] at h; cases h
        rw [keyD_rp r e1, keysL_rp rs e2]; rfl
theorem keysD_rp {d : D} {v : V} {ks : List Key} (r : Rp K cl H Z d v) (h : keysD d = some ks) : ∃ b, v = .ref b ∧ H b = some (.tup (ks.map kV)) := by
  cases r with
  | @tup a vs xs h1 h2 rl => exact ⟨a, rfl, by rw [h2, keysL_rp rl h]⟩
  | _ => simp [keysD] at h
/-- what is found -/
def findD {κ : Type} [DecidableEq κ] (ds : List (κ × D)) (k : κ) : Option D := match keyIx (ds.map (·.1)) k with | some n => (ds.map (·.2))[n]? | none => none
theorem find_rp {κ : Type} [DecidableEq κ] {ds : List (κ × D)} {kvs : List (κ × V)} (e : ds.map (·.1) = kvs.map (·.1)) (r : RpL K cl H Z (ds.map (·.2)) (kvs.map (·.2))) (k : κ) :
    (∀ d, findD ds k = some d → ∃ v, valV kvs k = some v ∧ Rp K cl H Z d v) ∧ (findD ds k = none → valV kvs k = none) := by
  have hv : valV kvs k = _ := valV_ix (kvs := kvs) (k := k)
  rw [← e] at hv
  unfold findD
  cases q : keyIx (ds.map (·.1)) k with
  | none =>
    rw [q] at hv
    exact And.intro (fun d h => nomatch h) fun _ => hv
  | some n =>
    rw [q] at hv
    refine ⟨fun d h => ?_, fun h => ?_⟩
    · obtain ⟨v, h1, h2⟩ := r.get h
      exact ⟨v, hv.trans h1, h2⟩
    · exfalso
      have h1 := keyIx_some q
      have h2 : n < ds.length := by have := (List.getElem?_eq_some_iff.mp h1).1; simpa using this
      have h3 : ((ds.map (·.2))[n]?).isSome := by simp [h2]
      have h' : (ds.map (·.2))[n]? = none := h
      rw [h'] at h3; cases h3
/-- x[y] of a dict: what is there -/
def dgetD : D → D → Option (Option D)
  | .dct ds, y => (keyD y).map (findD ds)
  | .dcT ds, y => (keysD y).map (findD ds)
  | _, _ => none
theorem dget_rp {x y : D} {v u : V} {o : Option D} (rx : Rp K cl H Z x v) (ry : Rp K cl H Z y u) (h : dgetD x y = some o) :
    ∃ a w, v = .ref a ∧ DGet H a u w ∧ (∀ d, o = some d → ∃ z, w = some z ∧ Rp K cl H Z d z) ∧ (o = none → w = none) := by
  match x, rx, h with
  | .dct ds, .dct (a := a) (kvs := kvs) q0 q1 q2 r, h =>
    simp only [dgetD] at h
    cases e : keyD y with
    | none => rw [e] at h; cases h
    | some k =>
      rw [e] at h; cases h
      exact ⟨a, _, rfl, .inl ⟨kvs, k, q1, keyD_rp ry e, rfl⟩, (find_rp q2 r k).1, (find_rp q2 r k).2⟩
  | .dcT ds, .dcT (a := a) (kvs := kvs) q0 q1 q2 r, h =>
    simp only [dgetD] at h
    cases e : keysD y with
    | none => rw [e] at h; cases h
    | some k =>
      rw [e] at h; cases h
      obtain ⟨b, rfl, hb⟩ := keysD_rp ry e
      exact ⟨a, _, rfl, .inr ⟨kvs, k, b, q1, rfl, hb, rfl⟩, (find_rp q2 r k).1, (find_rp q2 r k).2⟩
end
/-! ### one rule for all subscripts -/
def rIxDc : R2 := fun x y H Q => ∃ a v, x = .ref a ∧ DGet H a y (some v) ∧ Q v H
theorem ix_dict {X : Cx} (hu : X.A.units + 1 < cLine) : IxR X rIxDc := by
  intro value slice pins s σ H x y v u Q I rx ry q hs
  obtain ⟨a, w, rfl, g, q⟩ := q
  cases rx
  have hT := dict_typeIs I g
  have hl := PySem.F.slot_dict_getitem.lookup
  unfold subscriptTail
  refine wpAny_bind ?_
  rw [getitemInPython_of_ne hT.not_modules]
  refine wpAny_bind (wpAny_specialOf hT hl ?_)
  have fin : wpAny (model X.prog X.w) X.A (subscripted slice false (.ref a) u) (fun r s₃ => wpAny (model X.prog X.w) X.A (letTemporaryGo value (.ref a) r >>= fun _ => pure r) (EP X pins σ Q) X.xe s₃) X.xe s := by
    rw [hs]
    refine wpAny_operating (d_getItem hu I g ry fun w' s3 I3 rw' => wpAny_bind (wpAny_letTemporaryGo (wpAny_pure ⟨_, H, I3, rw', q⟩)))
  first
    | exact wpAny_pure (wpAny_bind fin)
    | exact wpAny_bind (wpAny_pure (wpAny_bind fin))
    | exact wpAny_bind fin
def rIxA (K : PySem.W.Frag) : R2 := fun x y H Q => rIx K x y H Q ∨ rIxDc x y H Q
theorem ix_all {X : Cx} (hu : X.A.units + 1 < cLine) : IxR X (rIxA X.K) := ix_seq.or (ix_dict hu)
section
variable {K : PySem.W.Frag} {cl : Str → Addr} {H : Hp} {Z : PA1} {Q : VK}
def ixA (x y : D) : Option T := match dgetD x y with
  | some (some d) => some (.fz d)
  | some none => none
  | none => ixD x y
theorem opv_ixA : OpV K cl (rIxA K) ixA := by
  intro x y v u H Z Q hz rx ry ok
  unfold ixA at ok
  match e : dgetD x y, ok with
  | some (some d), ok =>
    obtain ⟨a, w, e1, g, h1, _⟩ := dget_rp rx ry e
    obtain ⟨z, rfl, rz⟩ := h1 d rfl
    exact .inr ⟨a, z, e1, g, okr_fz hz ok rz⟩
  | some none, ok => exact okr_none ok
  | none, ok => exact .inl (opv_ix x y v u H Z Q hz rx ry ok)

/-! ### in, not in -/
def rInDc (neg : Bool) : R2 := fun x y H Q => ∃ a o, y = .ref a ∧ DGet H a x o ∧ Q (.bl (neg ^^ o.isSome)) H
theorem op_inDc {X : Cx} (hu : X.A.units + 1 < cLine) : OpR X (compareOp .In) (rInDc false) := by
  intro pins s σ H x y v u Q I rx ry h
  obtain ⟨a, o, rfl, g, q⟩ := h
  cases ry
  exact d_in hu I g rx fun s3 I3 => ⟨.bl o.isSome, H, I3, rfl, by simpa using q⟩
theorem op_ninDc {X : Cx} (hu : X.A.units + 1 < cLine) : OpR X (compareOp .NotIn) (rInDc true) := by
  intro pins s σ H x y v u Q I rx ry h
  obtain ⟨a, o, rfl, g, q⟩ := h
  cases ry
  exact d_notIn hu I g rx fun s3 I3 => ⟨.bl (!o.isSome), H, I3, rfl, by simpa using q⟩
def rInStr : R2 := fun x y H Q => ∃ i j, x = .str i ∧ y = .str j ∧ Q (.bl (!(Builtin.Str.occurrences j i 0 j.length 1).isEmpty)) H
def rNinStr : R2 := fun x y H Q => ∃ i j, x = .str i ∧ y = .str j ∧ Q (.bl (!(!(Builtin.Str.occurrences j i 0 j.length 1).isEmpty))) H
def rInSg : R2 := fun x y H Q => ∃ (c : Nat) (z : Str), x = .str ⟨#[c]⟩ ∧ y = .str z ∧ Q (.bl (decide (c ∈ z.cps.toList))) H
def rNinSg : R2 := fun x y H Q => ∃ (c : Nat) (z : Str), x = .str ⟨#[c]⟩ ∧ y = .str z ∧ Q (.bl (!decide (c ∈ z.cps.toList))) H
def rInA (K : PySem.W.Frag) : R2 := fun x y H Q => (rInSg x y H Q ∨ rInStr x y H Q) ∨ rIn K false x y H Q ∨ rInD K x y H Q ∨ rInDc false x y H Q
def rNinA (K : PySem.W.Frag) : R2 := fun x y H Q => (rNinSg x y H Q ∨ rNinStr x y H Q) ∨ rIn K true x y H Q ∨ rNotInD K x y H Q ∨ rInDc true x y H Q
theorem op_inA {X : Cx} (hu : X.A.units + 65 < cLine) : OpR X (compareOp .In) (rInA X.K) := (op_in_sign.or op_in_str).or (op_in_seq.or ((op_inD hu).or (op_inDc (by omega))))
theorem op_ninA {X : Cx} (hu : X.A.units + 65 < cLine) : OpR X (compareOp .NotIn) (rNinA X.K) := (op_notIn_sign.or op_notIn_str).or (op_notIn_seq.or ((op_notInD hu).or (op_ninDc (by omega))))
/-- flat data -/
def flatD : D → Bool
  | .non => true | .bl _ => true | .int _ => true | .str _ => true
  | _ => false
def eqFl : D → D → Bool
  | .non, .non => true
  | .bl a, .bl b => a == b
  | .bl a, .int b => (if a then 1 else 0) == b
  | .int a, .bl b => a == (if b then 1 else 0)
  | .int a, .int b => a == b
  | .str a, .str b => a == b
  | _, _ => false
theorem flat_rp {d : D} {v : V} (r : Rp K cl H Z d v) (h : flatD d = true) : flatV v = true := by
  cases r <;> first | rfl | simp [flatD] at h
theorem eqFl_rp {d e : D} {v u : V} (r : Rp K cl H Z d v) (q : Rp K cl H Z e u) (h : flatD d = true) (h2 : flatD e = true) : eqV v u = eqFl d e := by
  cases r <;> first | (simp [flatD] at h; done) | (cases q <;> first | (simp [flatD] at h2; done) | rfl)
theorem flats_rp : ∀ {ds vs}, RpL K cl H Z ds vs → ds.all flatD = true → vs.all flatV = true
  | _, _, .nil, _ => rfl
  | _, _, .cons r rs, h => by
    simp only [List.all_cons, Bool.and_eq_true] at h ⊢
    exact ⟨flat_rp r h.1, flats_rp rs h.2⟩
theorem inFl_rp {d : D} {v : V} (r : Rp K cl H Z d v) (h : flatD d = true) : ∀ {ds vs}, RpL K cl H Z ds vs → ds.all flatD = true → inV v vs = ds.any fun e => eqFl e d
  | _, _, .nil, _ => rfl
  | _, _, .cons q rs, h2 => by
    simp only [List.all_cons, Bool.and_eq_true] at h2
    have ih := inFl_rp r h rs h2.2
    unfold inV at ih ⊢
    simp only [List.any_cons]
    rw [ih, eqFl_rp q r h2.1 h]
def inB (x y : D) : Option Bool := match x, y with
  | .str i, .str j => match i.cps.toList with
    | [c] => some (decide (c ∈ j.cps.toList))
    | _ => some (!(Builtin.Str.occurrences j i 0 j.length 1).isEmpty)
  | x, .lst ys => if flatD x = true ∧ ys.all flatD = true then some (ys.any fun e => eqFl e x) else match toPy x, toPyL ys with
    | some p, some ps => if SeqAt.shaped p = true ∧ SeqAt.shaped (.list ps) = true then some (ps.any fun z => PyData.eqv z p) else none
    | _, _ => none
  | x, .tup ys => if flatD x = true ∧ ys.all flatD = true then some (ys.any fun e => eqFl e x) else none
  | x, y => (dgetD y x).map (·.isSome)
def inA (neg : Bool) (x y : D) : Option T := (inB x y).map fun b => .fz (.bl (neg ^^ b))
theorem dget_in {x y : D} {v u : V} {o : Option D} (rx : Rp K cl H Z x v) (ry : Rp K cl H Z y u) (h : dgetD y x = some o) : ∃ a w, u = .ref a ∧ DGet H a v w ∧ w.isSome = o.isSome := by
  obtain ⟨a, w, e, g, h1, h2⟩ := dget_rp ry rx h
  refine ⟨a, w, e, g, ?_⟩
  cases o with
  | none => rw [h2 rfl]; rfl
  | some d =>
    obtain ⟨z, rfl, _⟩ := h1 d rfl
    rfl
theorem str_one {i : Str} {c : Nat} (h : i.cps.toList = [c]) : i = ⟨#[c]⟩ := by
  obtain ⟨a⟩ := i
  have : a = #[c] := by
    apply Array.toList_inj.mp
    simpa using h
  rw [this]
theorem inB_run {x y : D} {v u : V} {b : Bool} (rx : Rp K cl H Z x v) (ry : Rp K cl H Z y u) (h : inB x y = some b) (P : Prop) (neg : Bool)
    (h1 : ∀ c z, v = .str ⟨#[c]⟩ → u = .str z → b = decide (c ∈ z.cps.toList) → P) (h2 : ∀ i j, v = .str i → u = .str j → b = !(Builtin.Str.occurrences j i 0 j.length 1).isEmpty → P)
    (h3 : ∀ p xs, u = .ref p → (SqL K H p xs ∨ SqT K H p xs) → flatV v = true → xs.all flatV = true → b = inV v xs → P)
    (h4 : ∀ d ds, Dp K H v d → Dp K H u (.list ds) → SeqAt.shaped d = true → SeqAt.shaped (.list ds) = true → b = (ds.any fun z => PyData.eqv z d) → P)
    (h5 : ∀ a o, u = .ref a → DGet H a v o → b = o.isSome → P) : P := by
  have go : ∀ {o : Option D}, dgetD y x = some o → b = o.isSome → P := fun {o} e1 e2 => by
    obtain ⟨a, w, e, g, k⟩ := dget_in rx ry e1
    exact h5 a w e g (e2.trans k.symm)
  have seq : ∀ {ys : List D} {p : Addr} {vs : List V}, u = .ref p → (SqL K H p vs ∨ SqT K H p vs) → RpL K cl H Z ys vs → (flatD x = true ∧ ys.all flatD = true) → b = (ys.any fun e => eqFl e x) → P := fun {ys p vs} e1 e2 r e3 e4 =>
    h3 p vs e1 e2 (flat_rp rx e3.1) (flats_rp r e3.2) (e4.trans (inFl_rp rx e3.1 r e3.2).symm)
  cases ry with
  | str j =>
    cases rx with
    | str i =>
      simp only [inB] at h
      split at h
      · rename_i c hc
        cases h
        exact h1 c j (by rw [str_one hc]) rfl rfl
      · cases h
        exact h2 i j rfl rfl rfl
    | _ => simp [inB, dgetD] at h
  | @lst a0 vs0 ys q0 q1 r =>
    simp only [inB] at h
    have h' := h
    by_cases c : flatD x = true ∧ ys.all flatD = true
    · rw [if_pos c] at h'
      cases h'
      exact seq rfl (.inl (SqL.of q1)) r c rfl
    · rw [if_neg c] at h'
      split at h'
      · rename_i p ps e1 e2
        split at h'
        · rename_i c2
          cases h'
          exact h4 p ps (dp_of rx e1) (.lst (SqL.of q1) (dpAll_of r e2)) c2.1 c2.2 rfl
        · cases h'
      · cases h'
  | @tup a0 vs0 ys q0 q1 r =>
    simp only [inB] at h
    have h' := h
    by_cases c : flatD x = true ∧ ys.all flatD = true
    · rw [if_pos c] at h'
      cases h'
      exact seq rfl (.inr (SqT.of q1)) r c rfl
    · rw [if_neg c] at h'; cases h'
  | @dct a0 kvs0 ds0 q0 q1 q2 r =>
    have h' : (dgetD (.dct ds0) x).map (·.isSome) = some b := by cases rx <;> exact h
    obtain ⟨o, e1, e2⟩ := Option.map_eq_some_iff.mp h'
    exact go e1 e2.symm
  | @dcT a0 kvs0 ds0 q0 q1 q2 r =>
    have h' : (dgetD (.dcT ds0) x).map (·.isSome) = some b := by cases rx <;> exact h
    obtain ⟨o, e1, e2⟩ := Option.map_eq_some_iff.mp h'
    exact go e1 e2.symm
  | _ => cases rx <;> simp [inB, dgetD] at h
theorem opv_in : OpV K cl (rInA K) (inA false) := by
  intro x y v u H Z Q hz rx ry ok
  cases e : inB x y with
  | none => unfold inA at ok; rw [e] at ok; exact okr_none ok
  | some b =>
    unfold inA at ok; rw [e] at ok
    have q := okr_fz hz ok (.bl _)
    rw [Bool.false_xor] at q
    refine inB_run rx ry e _ false ?_ ?_ ?_ ?_ ?_
    · rintro c z rfl rfl rfl; exact .inl (.inl ⟨c, z, rfl, rfl, q⟩)
    · rintro i j rfl rfl rfl; exact .inl (.inr ⟨i, j, rfl, rfl, q⟩)
    · rintro p xs rfl h1 h2 h3 rfl; exact .inr (.inl ⟨p, xs, rfl, h1, h2, h3, q⟩)
    · rintro d ds h1 h2 h3 h4 rfl; exact .inr (.inr (.inl ⟨d, ds, h1, h2, h3, h4, q⟩))
    · rintro a o rfl g rfl; exact .inr (.inr (.inr ⟨a, o, rfl, g, by rw [Bool.false_xor]; exact q⟩))
theorem opv_nin : OpV K cl (rNinA K) (inA true) := by
  intro x y v u H Z Q hz rx ry ok
  cases e : inB x y with
  | none => unfold inA at ok; rw [e] at ok; exact okr_none ok
  | some b =>
    unfold inA at ok; rw [e] at ok
    have q := okr_fz hz ok (.bl _)
    rw [Bool.true_xor] at q
    refine inB_run rx ry e _ true ?_ ?_ ?_ ?_ ?_
    · rintro c z rfl rfl rfl; exact .inl (.inl ⟨c, z, rfl, rfl, q⟩)
    · rintro i j rfl rfl rfl; exact .inl (.inr ⟨i, j, rfl, rfl, q⟩)
    · rintro p xs rfl h1 h2 h3 rfl; exact .inr (.inl ⟨p, xs, rfl, h1, h2, h3, q⟩)
    · rintro d ds h1 h2 h3 h4 rfl; exact .inr (.inr (.inl ⟨d, ds, h1, h2, h3, h4, q⟩))
    · rintro a o rfl g rfl; exact .inr (.inr (.inr ⟨a, o, rfl, g, by rw [Bool.true_xor]; exact q⟩))

/-! ### == of flat data first -/
def scalD : D → D → Bool
  | .non, .non => true | .non, .int _ => true | .int _, .non => true | .non, .bl _ => true | .bl _, .non => true | .non, .str _ => true | .str _, .non => true
  | .int _, .int _ => true | .bl _, .bl _ => true | .str _, .str _ => true
  | .int _, .str _ => true | .str _, .int _ => true | .bl _, .str _ => true | .str _, .bl _ => true
  | _, _ => false
theorem scal_rp {d e : D} {v u : V} (r : Rp K cl H Z d v) (q : Rp K cl H Z e u) (h : scalD d e = true) : scal v u = true ∧ decide (v = u) = eqFl d e := by
  cases r <;> cases q <;> first | (simp [scalD] at h; done) | exact ⟨rfl, dec_int⟩ | exact ⟨rfl, dec_bl⟩ | exact ⟨rfl, dec_str⟩ | exact ⟨rfl, by simp [eqFl]⟩
def eqAD (x y : D) : Option Bool := if scalD x y = true then some (eqFl x y) else eqDD x y
def eqA (x y : D) : Option T := (eqAD x y).map fun b => .fz (.bl b)
def neA (x y : D) : Option T := (eqAD x y).map fun b => .fz (.bl (!b))
def rEqA (K : PySem.W.Frag) : R2 := fun x y H Q => rEq x y H Q ∨ rEqD K x y H Q
def rNeA (K : PySem.W.Frag) : R2 := fun x y H Q => rNe x y H Q ∨ rNeD K x y H Q
theorem op_eqA {X : Cx} (hu : X.A.units + 64 < cLine) : OpR X (compareOp .Eq) (rEqA X.K) := op_eq.or (op_eqD hu)
theorem op_neA {X : Cx} (hu : X.A.units + 64 < cLine) : OpR X (compareOp .NotEq) (rNeA X.K) := op_ne.or (op_neD hu)
theorem opv_eqA : OpV K cl (rEqA K) eqA := by
  intro x y v u H Z Q hz rx ry ok
  unfold eqA eqAD at ok
  by_cases c : scalD x y = true
  · rw [if_pos c] at ok
    obtain ⟨h1, h2⟩ := scal_rp rx ry c
    exact .inl ⟨h1, by rw [h2]; exact okr_fz hz ok (.bl _)⟩
  · rw [if_neg c] at ok
    exact .inr (opv_eq x y v u H Z Q hz rx ry ok)
theorem opv_neA : OpV K cl (rNeA K) neA := by
  intro x y v u H Z Q hz rx ry ok
  unfold neA eqAD at ok
  by_cases c : scalD x y = true
  · rw [if_pos c] at ok
    obtain ⟨h1, h2⟩ := scal_rp rx ry c
    exact .inl ⟨h1, by rw [h2]; exact okr_fz hz ok (.bl _)⟩
  · rw [if_neg c] at ok
    exact .inr (opv_ne x y v u H Z Q hz rx ry ok)
end
end VL

namespace VL
open PySem PySem.Spec PyProof.Rows L2


/-! ### the weakest forms -/
section
variable (K : PySem.W.Frag) (cl : Str → Addr) (W : WX)
def tOf (t : Ev T) : TE := fun σ H Q => ∃ (E : En) (Z S : PA1), OwnE K cl H Z E σ S ∧ Okk H Z S ∧ SatV K cl W σ H Z S Q (t E)
def bOf (t : Ev Bool) : TT := fun σ H Q => ∃ (E : En) (Z S : PA1), OwnE K cl H Z E σ S ∧ Okk H Z S ∧ SatB K cl W σ H Z S Q (t E)
def gOf (kp : Keep) (g : T → En → Option En) : TG := fun v σ H Q => ∃ (t : T) (E : En) (Z St S : PA1), OwnE K cl H Z E σ S ∧ Own K cl H Z t v St ∧ Dis St S ∧ Okk H Z (Uni St S) ∧ SatG K cl kp σ H Z (Uni St S) Q (g t E)
end
abbrev W0 : WX := fun _ _ _ _ => False
theorem takes0 {X : Cx} : Takes X W0 := fun u s' ⟨_, _, _, _, _, _, _, _, _, _, _, _, _, _, _, _, w⟩ => w.elim
section
variable {X : Cx} {cl : Str → Addr} {kp : Keep} {W : WX}
theorem IE.pe {e : Expr} {t : Ev T} (h : IE X cl e t) (tk : Takes X W) : PE X e (tOf X.K cl W t) := by
  obtain ⟨te, p, q⟩ := h.run W tk
  exact ⟨fun pins s σ H Q I ⟨E, Z, S, a, b, c⟩ => p.run pins s σ H Q I (q E σ H Z S Q a b c)⟩
theorem IB.pt {e : Expr} {t : Ev Bool} (h : IB X cl e t) (tk : Takes X W) : PT X e (bOf X.K cl W t) := by
  obtain ⟨te, p, q⟩ := h.run W tk
  exact ⟨fun pins s σ H Q I ⟨E, Z, S, a, b, c⟩ => p.run pins s σ H Q I (q E σ H Z S Q a b c)⟩
theorem IG.pg {e : Expr} {g : T → En → Option En} (h : IG X cl kp e g) : PG X e (gOf X.K cl kp g) := by
  obtain ⟨te, p, q⟩ := h.run
  exact ⟨fun pins s σ H v u Q I r ⟨t, E, Z, Sq, S, a, b, c, d, e⟩ => p.run pins s σ H v u Q I r (q t v E σ H Z Sq S Q a b c d e)⟩
/-- a clause's tests -/
structure ITs (X : Cx) (cl : Str → Addr) (ifs : List Expr) (t : Ev Bool) : Prop where
  run : ∀ W, Takes X W → PTs X ifs (bOf X.K cl W t)
def bYes : Ev Bool := fun E => some (.ok true E)
theorem its_nil : ITs X cl [] bYes := ⟨fun W tk => ⟨fun pins s σ H Q I ⟨E, Z, S, oe, ok, sat⟩ => pts_nil.run pins s σ H Q I ((sat : SatB X.K cl W σ H Z S Q (some (.ok true E))) H Z S oe Step.refl ok)⟩⟩
theorem its_one {c : Expr} {t : Ev Bool} (h : IB X cl c t) : ITs X cl [c] t := ⟨fun W tk => pts_one (h.pt tk)⟩

/-! ### slots -/
theorem OwnE.swap {K : PySem.W.Frag} {H : Hp} {Z : PA1} : ∀ {E : En} {σ τ : L2.St} {S : PA1}, OwnE K cl H Z E σ S → τ.length = σ.length → (∀ (j : Nat) t, E[j]? = some (some t) → τ[j]? = σ[j]?) → OwnE K cl H Z E τ S
  | _, _, [], _, .nl, _, _ => .nl
  | _, _, y :: τ, _, .nl, h, _ => by simp at h
  | _, _, [], _, .no r, h, _ => by simp at h
  | _, _, y :: τ, _, .no r, h, k => .no (OwnE.swap r (by simpa using h) fun j t q => by simpa using k (j + 1) t (by simpa using q))
  | _, _, [], _, .so q r a1 a2 d, h, _ => by simp at h
  | _, _, y :: τ, _, .so q r a1 a2 d, h, k => by
    have := k 0 _ rfl
    simp at this
    subst this
    exact .so q (OwnE.swap r (by simpa using h) fun j t q => by simpa using k (j + 1) t (by simpa using q)) a1 a2 d
def clr (E : En) : List Nat → En
  | [] => E
  | v :: vs => (clr E vs).set v none
theorem clr_get {E : En} {j : Nat} {t : T} : ∀ {vs : List Nat}, (clr E vs)[j]? = some (some t) → j ∉ vs ∧ E[j]? = some (some t)
  | [], h => ⟨by simp, h⟩
  | v :: vs, h => by
    simp only [clr] at h
    by_cases e : v = j
    · subst e
      by_cases hl : v < (clr E vs).length
      · rw [List.getElem?_set_self hl] at h; cases h
      · rw [List.getElem?_eq_none (by simpa using hl)] at h; cases h
    · rw [List.getElem?_set_ne e] at h
      obtain ⟨h1, h2⟩ := clr_get h
      exact ⟨by simp only [List.mem_cons, not_or]; exact ⟨fun q => e q.symm, h1⟩, h2⟩
theorem OwnE.clr {K : PySem.W.Frag} {H : Hp} {Z : PA1} {E : En} {σ : L2.St} {S : PA1} (h : OwnE K cl H Z E σ S) : ∀ vs : List Nat, OwnE K cl H Z (VL.clr E vs) σ S
  | [] => h
  | v :: vs => (OwnE.clr h vs).drop v
theorem OwnE.wiped {K : PySem.W.Frag} {H : Hp} {Z : PA1} {E : En} {σ : L2.St} {S : PA1} (h : OwnE K cl H Z E σ S) (vs : List Nat) : OwnE K cl H Z (VL.clr E vs) (wipe σ vs) S :=
  (h.clr vs).swap (wipe_length σ vs) fun j t q => wipe_out (clr_get q).1
theorem wipe_in {σ : L2.St} {i : Nat} : ∀ {vs : List Nat}, i ∈ vs → (wipe σ vs)[i]? = if i < σ.length then some none else none
  | v :: vs, h => by
    unfold wipe
    by_cases e : v = i
    · subst e
      rw [List.getElem?_set]
      simp [wipe_length]
    · rw [List.getElem?_set_ne e]
      rcases List.mem_cons.mp h with h | h
      · exact absurd h.symm e
      · exact wipe_in h
/-- a block stores to its own names alone -/
def bC (vs : List Nat) : Keep := fun i => !(vs.contains i)
theorem wipe_of {σ τ : L2.St} {vs : List Nat} (k : Kp (bC vs) (wipe σ vs) τ) : wipe τ vs = wipe σ vs := by
  apply List.ext_getElem?
  intro i
  have hl : τ.length = σ.length := by rw [k.1, wipe_length]
  by_cases h : i ∈ vs
  · rw [wipe_in h, wipe_in h, hl]
  · rw [wipe_out h]
    exact k.2 i (by simp [bC, h])
/-- the block's own names as they were -/
def rst (E E2 : En) : List Nat → En
  | [] => E2
  | v :: vs => match E[v]? with
    | some (some (.fz d)) => (rst E E2 vs).set v (some (.fz d))
    | _ => rst E E2 vs
theorem OwnE.rst {K : PySem.W.Frag} {H : Hp} {Z : PA1} {E E2 : En} {σ : L2.St} {S S2 : PA1} {H0 : Hp} {Z0 : PA1} (h0 : OwnE K cl H0 Z0 E σ S) (hz : ∀ a, Z0 a → Z a) (hr : ∀ a, Z0 a → Kept H0 H a) (h : OwnE K cl H Z E2 σ S2) : ∀ vs : List Nat, OwnE K cl H Z (VL.rst E E2 vs) σ S2
  | [] => h
  | v :: vs => by
    have ih := OwnE.rst h0 hz hr h vs
    unfold VL.rst
    split
    · rename_i d hd
      obtain ⟨w, Si, Sr, h1, h2, h3, h4, h5, h6⟩ := h0.take hd
      cases h2 with
      | fz rp =>
        have q := ih.into (i := v) (Si := Emp) (.fz (rp.mono hz hr)) fun _ z _ => z
        rw [set_get h1] at q
        exact q.up fun a z => z.elim False.elim id
    · exact ih
/-- a write to what is owned -/
theorem wr_step {H : Hp} {Z S : PA1} {D : Addr} {o : HO} (ok : Okk H Z S) (hD : S D) : Step H Z S (upd H D o) Z S ∧ Okk (upd H D o) Z S ∧ ∀ a u, a ≠ D → H a = some u → upd H D o a = some u := by
  have k : ∀ a u, a ≠ D → H a = some u → upd H D o a = some u := fun a u n e => by rw [upd_ne n]; exact e
  have al : ∀ a, H a ≠ none → upd H D o a ≠ none := fun a z => by
    by_cases e : a = D
    · subst e; rw [upd_same]; simp
    · rw [upd_ne e]; exact z
  exact ⟨⟨fun _ z => z, fun _ z => .inl z, fun _ z => .inl z, fun a u e n => k a u (fun q => n (q ▸ hD)) e, al⟩, ⟨ok.dis, fun a z => al a (ok.sa a z), fun a z => al a (ok.za a z)⟩, k⟩
theorem OwnL.snoc {K : PySem.W.Frag} {H : Hp} {Z : PA1} : ∀ {ts vs t v} {S S1 : PA1}, OwnL K cl H Z ts vs S → Own K cl H Z t v S1 → Dis S1 S → OwnL K cl H Z (ts ++ [t]) (vs ++ [v]) (Uni S S1)
  | [], _, _, _, S, S1, .nil, q, d => .cons q (.nil (S := Emp)) (fun _ z => .inr z) (fun _ z => z.elim) fun _ _ z => z
  | _ :: ts, _, _, _, S, S1, .cons (S1 := A1) (S2 := A2) p r a1 a2 dd, q, d =>
    .cons (S1 := A1) p (OwnL.snoc r q fun a x y => d a x (a2 a y)) (fun a z => .inl (a1 a z)) (fun a z => z.imp (a2 a) id) fun a x y => y.elim (dd a x) fun y => d a y (a1 a x)

/-! ### list comprehensions -/
def lcE (g : T → En → Option En) (tb : Ev Bool) (te : Ev T) (vs : List Nat) : List D → En → Option (List T × En)
  | [], E => some ([], E)
  | d :: ds, E => match g (.fz d) E with
    | none => none
    | some E1 => match tb E1 with
      | some (.ok true E2) => match te E2 with
        | some (.ok r E3) => match lcE g tb te vs ds (clr E3 vs) with
          | some (rs, E4) => some (r :: rs, E4)
          | none => none
        | _ => none
      | some (.ok false E2) => lcE g tb te vs ds (clr E2 vs)
      | _ => none
def eLc (ti : Ev (List D)) (g : T → En → Option En) (tb : Ev Bool) (te : Ev T) (vs : List Nat) : Ev T := fun E => bnd (ti E) fun ds E1 =>
  if ds.length ≤ 16777216 then match lcE g tb te vs ds (clr E1 vs) with
    | some (rs, E2) => some (.ok (.lst rs) (rst E1 E2 vs))
    | none => none
  else none
theorem lc_run {tg iter : Expr} {vs : List Nat} {ti : Ev (List D)} {g : T → En → Option En} {tb : Ev Bool} {te : Ev T} {W : WX} {wi : TI} (qi : ∀ E σ H Z (S : PA1) R, OwnE X.K cl H Z E σ S → Okk H Z S → SatI X.K cl W σ H Z S R (ti E) → wi σ H R)
    (E : En) (σ : L2.St) (H : Hp) (Z S : PA1) (Q : VK) (oe : OwnE X.K cl H Z E σ S) (ok : Okk H Z S) (sat : SatV X.K cl W σ H Z S Q (eLc ti g tb te vs E)) : tLc wi (gOf X.K cl (bC vs) g) (bOf X.K cl W0 tb) (tOf X.K cl W0 te) vs σ H Q := by
  refine qi E σ H Z S _ oe ok (satI_bnd (β := T) (κ := VK) (q := Q) sat fun ds E1 sat1 J H1 Z1 S1 oe1 it st1 ok1 D hD => ?_)
  have sat2 : SatV X.K cl W σ H1 Z1 S1 Q _ := SatV.re st1 sat1
  clear sat1 sat
  by_cases hsz : ds.length ≤ 16777216
  case neg => rw [if_neg hsz] at sat2; exact sat2.elim
  rw [if_pos hsz] at sat2
  obtain ⟨oeD, stD, okD, dD, kpD⟩ := newObj (St := Emp) (o := .lst []) (ok1.less fun _ z => z.elim False.elim id) (fun _ z _ => z) oe1 hD
  refine ⟨fun i m H' => i ≤ ds.length ∧ m = ds.length - i ∧ ∃ (E' : En) (Z' S' : PA1) (acc : List V) (accT : List T) (Ra : PA1), OwnE X.K cl H' Z' E' (wipe σ vs) S' ∧ H' D = some (.lst acc) ∧ acc.length ≤ i ∧ OwnL X.K cl H' Z' accT acc Ra ∧ ¬ Ra D ∧ ¬ S' D ∧ Dis Ra S' ∧
    Step H1 Z1 S1 H' Z' (Uni (fun a => a = D ∨ Ra a) S') ∧ Okk H' Z' (Uni (fun a => a = D ∨ Ra a) S') ∧
    ∃ rs E'', lcE g tb te vs (ds.drop i) E' = some (rs, E'') ∧ SatV X.K cl W σ H1 Z1 S1 Q (some (.ok (.lst (accT ++ rs)) (rst E1 E'' vs))), ⟨ds.length, Nat.zero_le _, by simp, clr E1 vs, Z1, S1, [], [], Emp, oeD.wiped vs, upd_same, Nat.zero_le _, .nil, fun z => z,
      fun z => dD D (.inl rfl) z, fun _ z _ => z, stD.more fun _ z => z.elim False.elim id, okD, ?_⟩, ?_⟩
  · match hE : lcE g tb te vs ds (clr E1 vs), sat2 with
    | none, sat2 => exact sat2.elim
    | some (rs, E2), sat2 => exact ⟨rs, E2, by simpa using hE, sat2⟩
  rintro i m H' ⟨hle, rfl, E', Z', S', acc, accT, Ra, oe', hD', hacc, owA, nRD, nSD, dRS, st', ok', rs, E'', hlc, satF⟩
  obtain ⟨go, stop⟩ := it i H' Z' st'.zz (st'.rd ok1.dis) ok'.za
  by_cases hlt : i < ds.length
  case neg =>
    have e : i = ds.length := by omega
    subst e
    rw [List.drop_length] at hlc
    simp only [lcE] at hlc
    cases hlc
    rw [List.append_nil] at satF
    have oeF : OwnE X.K cl H' Z' E' σ S' → OwnE X.K cl H' Z' (rst E1 E' vs) σ S' := fun q => OwnE.rst oe1 st'.zz (st'.rd ok1.dis) q vs
    have hlenE : ∀ (j : Nat) t, (clr E' vs)[j]? = some (some t) → σ[j]? = (wipe σ vs)[j]? := fun j t q => (wipe_out (clr_get q).1).symm
    refine .inl ⟨stop rfl, ?_⟩
    -- the block's own slots hold nothing any more
    have oe2 : OwnE X.K cl H' Z' (clr E' vs) σ S' := (oe'.clr vs).swap (wipe_length σ vs).symm hlenE
    have oe3 : OwnE X.K cl H' Z' (rst E1 E' vs) σ S' := by
      refine oeF ?_
      refine OwnE.swap oe' (wipe_length σ vs).symm fun j t q => ?_
      by_cases hj : j ∈ vs
      · exfalso
        have hl := oe'.take q
        obtain ⟨w, _, _, h1, _⟩ := hl
        rw [wipe_in hj] at h1
        split at h1 <;> simp at h1
      · exact (wipe_out hj).symm
    exact satF (.ref D) H' Z' (fun a => a = D ∨ Ra a) S' oe3 (.lst (R := Ra) hD' (.inl rfl) (fun b z => ⟨.inr z, fun e => nRD (e ▸ z)⟩) owA) (fun a x y => x.elim (fun e => nSD (e ▸ y)) fun x => dRS a x y) st' ok'
  obtain ⟨d, hd⟩ : ∃ d, ds[i]? = some d := ⟨ds[i], by simp [hlt]⟩
  have hdrop : ds.drop i = d :: ds.drop (i + 1) := by
    rw [List.drop_eq_getElem_cons hlt]
    have : ds[i]? = some ds[i] := by simp [hlt]
    rw [hd] at this; cases this; rfl
  rw [hdrop] at hlc
  obtain ⟨hgo, yl⟩ := go d hd
  refine .inr ⟨hgo, fun H'' => ∃ (E' : En) (Z' S' : PA1) (acc : List V) (accT : List T) (Ra : PA1), OwnE X.K cl H'' Z' E' (wipe σ vs) S' ∧ H'' D = some (.lst acc) ∧ acc.length ≤ i + 1 ∧ OwnL X.K cl H'' Z' accT acc Ra ∧ ¬ Ra D ∧ ¬ S' D ∧ Dis Ra S' ∧
    Step H1 Z1 S1 H'' Z' (Uni (fun a => a = D ∨ Ra a) S') ∧ Okk H'' Z' (Uni (fun a => a = D ∨ Ra a) S') ∧
    ∃ rs E'', lcE g tb te vs (ds.drop (i + 1)) E' = some (rs, E'') ∧ SatV X.K cl W σ H1 Z1 S1 Q (some (.ok (.lst (accT ++ rs)) (rst E1 E'' vs))), fun H'' q => ⟨ds.length - (i + 1), by omega, hlt, rfl, q⟩, fun x H2 y => ?_⟩
  obtain ⟨Z2, st2, za2, rp2⟩ := yl x H2 y
  -- the item has come
  have st2' : Step H' Z' (Uni (fun a => a = D ∨ Ra a) S') H2 Z2 (Uni (fun a => a = D ∨ Ra a) S') := ((st2.frame (R := Uni (fun a => a = D ∨ Ra a) S')).more fun a z => z.elim id False.elim).less fun a z => .inl z
  have ok2 : Okk H2 Z2 (Uni (fun a => a = D ∨ Ra a) S') := (st2.okk (R := Uni (fun a => a = D ∨ Ra a) S') (ok'.less fun a z => z.elim id False.elim) ⟨fun _ z => z.elim, fun _ z => z.elim, za2⟩ fun _ _ z => z).less fun a z => .inl z
  have oe2 := st2.ownE (fun _ z => z.elim) (fun _ _ z => z) oe'
  have owA2 := st2.ownL (fun _ z => z.elim) (fun _ _ z => z) owA
  have hD2 : H2 D = some (.lst acc) := st2.kp D _ hD' fun z => z
  have okS : Okk H2 Z2 S' := ok2.less fun _ z => .inr z
  have stA := st'.trans st2'
  have dHD : Dis (fun a => a = D ∨ Ra a) S' := fun a x y => x.elim (fun e => nSD (e ▸ y)) fun x => dRS a x y
  simp only [lcE] at hlc
  match hE : g (.fz d) E', hlc with
  | some E3, hlc =>
    refine ⟨.fz d, E', Z2, Emp, S', oe2, .fz rp2, fun _ z _ => z, okS.less fun a z => z.elim False.elim id, ?_⟩
    rw [hE]
    intro τ H3 Z3 S3 oe3 kk3 st3 ok3
    have st3' : Step H2 Z2 S' H3 Z3 S3 := st3.more fun a z => z.elim False.elim id
    refine ⟨wipe_of kk3, E3, Z3, S3, oe3, ok3, ?_⟩
    dsimp only at hlc
    match hE2 : tb E3, hlc with
    | some (.ok false E4), hlc =>
      intro H4 Z4 S4 oe4 st4 ok4
      rw [if_neg Bool.false_ne_true]
      have st5 : Step H2 Z2 S' H4 Z4 S4 := st3'.trans st4
      have oe5 := oe4.wiped vs
      rw [wipe_of kk3] at oe5
      exact ⟨clr E4 vs, Z4, S4, acc, accT, Ra, oe5, st5.kp D _ hD2 nSD, by omega, st5.ownL okS.dis dRS owA2, nRD, fun z => st5.dis (R := fun a => a = D) (fun a z => by subst z; rw [hD2]; simp) (fun a x y => nSD (x ▸ y)) D rfl z,
        st5.dis (fun a z => ok2.sa a (.inl (.inr z))) dRS, stA.trans st5.frame, st5.okk ok2 ok4 dHD, rs, E'', hlc, satF⟩
    | some (.ok true E4), hlc =>
      intro H4 Z4 S4 oe4 st4 ok4
      rw [if_pos rfl]
      refine ⟨E4, Z4, S4, oe4, ok4, ?_⟩
      dsimp only at hlc
      match hE3 : te E4, hlc with
      | some (.ok r E5), hlc =>
        intro v H5 Z5 Sr S5 oe5 ow5 d5 st5 ok5
        dsimp only at hlc
        match hE4 : lcE g tb te vs (ds.drop (i + 1)) (clr E5 vs), hlc with
        | some (rs', E6), hlc =>
          cases hlc
          have stT : Step H2 Z2 S' H5 Z5 (Uni Sr S5) := (st3'.trans st4).trans st5
          have hD5 := stT.kp D _ hD2 nSD
          have owA5 := stT.ownL okS.dis dRS owA2
          have okT : Okk H5 Z5 (Uni (fun a => a = D ∨ Ra a) (Uni Sr S5)) := stT.okk ok2 ok5 dHD
          have dT : Dis (fun a => a = D ∨ Ra a) (Uni Sr S5) := stT.dis (fun a z => ok2.sa a (.inl z)) dHD
          have nZ : ¬ Z5 D := fun z => okT.dis D (.inl (.inl rfl)) z
          obtain ⟨stw, okw, kw⟩ := wr_step (o := .lst (acc ++ [v])) okT (D := D) (.inl (.inl rfl))
          have kz : ∀ a, Z5 a → Kept H5 (upd H5 D (.lst (acc ++ [v]))) a := fun a z => .of fun u e => kw a u (fun q => nZ (q ▸ z)) e
          have oe6 := (oe5.wiped vs).mono (fun _ z => z) kz fun a o z e => kw a o (fun q => dT D (.inl rfl) (q ▸ .inr z)) e
          rw [wipe_of kk3] at oe6
          have ow6 : Own X.K cl (upd H5 D (.lst (acc ++ [v]))) Z5 r v Sr := ow5.mono (fun _ z => z) kz fun a o z e => kw a o (fun q => dT D (.inl rfl) (q ▸ .inl z)) e
          have owA6 : OwnL X.K cl (upd H5 D (.lst (acc ++ [v]))) Z5 accT acc Ra := owA5.mono (fun _ z => z) kz fun a o z e => kw a o (fun q => nRD (q ▸ z)) e
          have sub : ∀ a, Uni (fun a => a = D ∨ Uni Ra Sr a) S5 a → Uni (fun a => a = D ∨ Ra a) (Uni Sr S5) a := by intro a z; simp only [Uni] at z ⊢; grind
          refine ⟨acc, hD5, by rw [sizeLine_eq]; omega, clr E5 vs, Z5, S5, acc ++ [v], accT ++ [r], Uni Ra Sr, oe6, upd_same, by simp; omega, owA6.snoc ow6 fun a x y => dT a (.inr y) (.inl x), fun z => z.elim nRD fun z => dT D (.inl rfl) (.inl z),
            fun z => dT D (.inl rfl) (.inr z), fun a x y => x.elim (fun x => dT a (.inr x) (.inr y)) fun x => d5 a x y, ((stA.trans stT.frame).trans stw).less sub, okw.less sub, rs', E'', hE4, by simpa using satF⟩


theorem ie_lc {elt tg iter : Expr} {ifs : List Expr} {scope : Scope} (own : List (Str × Nat)) {pos : Pos} {ti : Ev (List D)} {g : T → En → Option En} {tb : Ev Bool} {te : Ev T} (hc : X.calm = true) (hN : X.N.Nodup) (hi : II X cl tg iter ti) (okB : BlkOk X.N X.env.scope scope own)
    (hg : ∀ (s : Shared) (H : Hp) (C : Addr) (clo : List (Str × Addr)) (fp : List Addr), IG (X.blk s H scope (compEnvC scope clo C X.env) fp) cl (bC (own.map (·.2))) tg g)
    (ht : ∀ (s : Shared) (H : Hp) (C : Addr) (clo : List (Str × Addr)) (fp : List Addr), ITs (X.blk s H scope (compEnvC scope clo C X.env) fp) cl ifs tb)
    (he : ∀ (s : Shared) (H : Hp) (C : Addr) (clo : List (Str × Addr)) (fp : List Addr), IE (X.blk s H scope (compEnvC scope clo C X.env) fp) cl elt te) (hs : ∀ x, foldedSetIterable iter X.env x = pure x := by intro _; rfl) :
    IE X cl (.ListComp elt [⟨tg, iter, ifs, 0⟩] scope pos) (eLc ti g tb te (own.map (·.2))) := by
  refine ⟨fun W tk => ?_⟩
  obtain ⟨wi, pi, qi⟩ := hi.run W tk
  exact ⟨_, pe_lc (g := gOf X.K cl (bC (own.map (·.2))) g) (tt := bOf X.K cl W0 tb) (te := tOf X.K cl W0 te) hc hN pi okB (fun s H C clo fp => (hg s H C clo fp).pg) (fun s H C clo fp => (ht s H C clo fp).run W0 takes0) (fun s H C clo fp => (he s H C clo fp).pe (W := W0) takes0) hs,
    fun E σ H Z S Q oe ok sat => lc_run (tg := tg) (iter := iter) qi E σ H Z S Q oe ok sat⟩
/-- name = [..] -/
theorem is_setLc (i : Nat) {y : Str} {py spos : Pos} {elt tg iter : Expr} {ifs : List Expr} {scope : Scope} (own : List (Str × Nat)) {pos : Pos} {ti : Ev (List D)} {g : T → En → Option En} {tb : Ev Bool} {te : Ev T} (hc : X.calm = true) (hN : X.N.Nodup) (hi : II X cl tg iter ti) (okB : BlkOk X.N X.env.scope scope own)
    (hg : ∀ (s : Shared) (H : Hp) (C : Addr) (clo : List (Str × Addr)) (fp : List Addr), IG (X.blk s H scope (compEnvC scope clo C X.env) fp) cl (bC (own.map (·.2))) tg g)
    (ht : ∀ (s : Shared) (H : Hp) (C : Addr) (clo : List (Str × Addr)) (fp : List Addr), ITs (X.blk s H scope (compEnvC scope clo C X.env) fp) cl ifs tb)
    (he : ∀ (s : Shared) (H : Hp) (C : Addr) (clo : List (Str × Addr)) (fp : List Addr), IE (X.blk s H scope (compEnvC scope clo C X.env) fp) cl elt te) (hs : ∀ x, foldedSetIterable iter X.env x = pure x := by intro _; rfl) (hk : kp i = false := by rfl) (hy : X.N[i]? = some y := by rfl) (hyl : X.env.scope.names.lookup y = some .local := by rfl) (hsw : swapsWith (.ListComp elt [⟨tg, iter, ifs, 0⟩] scope pos) (some (.Name y py)) spos.line X.env = pure true := by rfl) :
    IS X cl kp (.Assign [.Name y py] (.ListComp elt [⟨tg, iter, ifs, 0⟩] scope pos) spos) (sSet i (eLc ti g tb te (own.map (·.2)))) := by
  refine ⟨fun W tk => ?_⟩
  obtain ⟨wi, pi, qi⟩ := hi.run W tk
  refine ⟨_, ps_setLc (g := gOf X.K cl (bC (own.map (·.2))) g) (tt := bOf X.K cl W0 tb) (te := tOf X.K cl W0 te) hc hN hy hyl hsw pi okB (fun s H C clo fp => (hg s H C clo fp).pg) (fun s H C clo fp => (ht s H C clo fp).run W0 takes0) (fun s H C clo fp => (he s H C clo fp).pe (W := W0) takes0) hs, fun E σ H Z S D oe ok sat => ?_⟩
  refine lc_run (tg := tg) (iter := iter) qi E σ H Z S _ oe ok (satV_bnd (β := Fl) (κ := Keep × Ends) (q := (kp, D)) sat fun r E1 sat1 v H1 Z1 Sr S1 oe1 ow1 d1 st1 ok1 => ?_)
  have sat2 : SatS X.K cl W kp σ H Z S D (some (.ok .nx (E1.set i (some (.fz (frz r)))))) := sat1
  obtain ⟨s2, o2⟩ := freezeStep ok1 d1
  have rp := ow1.frz (Z' := Uni Z1 Sr) (fun _ z => .inl z) fun _ z => .inr z
  exact sat2 (σ.set i (some v)) H1 (Uni Z1 Sr) S1 (((oe1.zmore (Z' := Uni Z1 Sr) fun _ z => .inl z).into (Si := Emp) (i := i) (.fz rp) fun _ z _ => z).up fun a z => z.elim False.elim id) (Kp.set hk) (st1.trans s2) o2
theorem is_ownLc (i : Nat) {y : Str} {py spos : Pos} {elt tg iter : Expr} {ifs : List Expr} {scope : Scope} (own : List (Str × Nat)) {pos : Pos} {ti : Ev (List D)} {g : T → En → Option En} {tb : Ev Bool} {te : Ev T} (hc : X.calm = true) (hN : X.N.Nodup) (hi : II X cl tg iter ti) (okB : BlkOk X.N X.env.scope scope own)
    (hg : ∀ (s : Shared) (H : Hp) (C : Addr) (clo : List (Str × Addr)) (fp : List Addr), IG (X.blk s H scope (compEnvC scope clo C X.env) fp) cl (bC (own.map (·.2))) tg g)
    (ht : ∀ (s : Shared) (H : Hp) (C : Addr) (clo : List (Str × Addr)) (fp : List Addr), ITs (X.blk s H scope (compEnvC scope clo C X.env) fp) cl ifs tb)
    (he : ∀ (s : Shared) (H : Hp) (C : Addr) (clo : List (Str × Addr)) (fp : List Addr), IE (X.blk s H scope (compEnvC scope clo C X.env) fp) cl elt te) (hs : ∀ x, foldedSetIterable iter X.env x = pure x := by intro _; rfl) (hk : kp i = false := by rfl) (hy : X.N[i]? = some y := by rfl) (hyl : X.env.scope.names.lookup y = some .local := by rfl) (hsw : swapsWith (.ListComp elt [⟨tg, iter, ifs, 0⟩] scope pos) (some (.Name y py)) spos.line X.env = pure true := by rfl) :
    IS X cl kp (.Assign [.Name y py] (.ListComp elt [⟨tg, iter, ifs, 0⟩] scope pos) spos) (sOwn i (eLc ti g tb te (own.map (·.2)))) := by
  refine ⟨fun W tk => ?_⟩
  obtain ⟨wi, pi, qi⟩ := hi.run W tk
  refine ⟨_, ps_setLc (g := gOf X.K cl (bC (own.map (·.2))) g) (tt := bOf X.K cl W0 tb) (te := tOf X.K cl W0 te) hc hN hy hyl hsw pi okB (fun s H C clo fp => (hg s H C clo fp).pg) (fun s H C clo fp => (ht s H C clo fp).run W0 takes0) (fun s H C clo fp => (he s H C clo fp).pe (W := W0) takes0) hs, fun E σ H Z S D oe ok sat => ?_⟩
  refine lc_run (tg := tg) (iter := iter) qi E σ H Z S _ oe ok (satV_bnd (β := Fl) (κ := Keep × Ends) (q := (kp, D)) sat fun r E1 sat1 v H1 Z1 Sr S1 oe1 ow1 d1 st1 ok1 => ?_)
  have sat2 : SatS X.K cl W kp σ H Z S D (some (.ok .nx (E1.set i (some r)))) := sat1
  exact sat2 (σ.set i (some v)) H1 Z1 (Uni Sr S1) (oe1.into ow1 d1) (Kp.set hk) st1 ok1

/-! ### texts, and whatever else, are walked -/
def strD (z : Str) : List D := z.cps.toList.map fun c => .str ⟨#[c]⟩
theorem itok_str {K : PySem.W.Frag} {H : Hp} {Z : PA1} {z : Str} : ItOk K cl (Its z) (strD z) H Z := by
  intro i H1 Z1 hz hr hza
  refine ⟨fun d hd => ?_, fun e => ?_⟩
  · unfold strD at hd
    rw [List.getElem?_map] at hd
    cases hc : z.cps.toList[i]? with
    | none => rw [hc] at hd; cases hd
    | some c =>
      rw [hc] at hd
      cases hd
      have hi : i < z.cps.size := by have := (List.getElem?_eq_some_iff.mp hc).1; simpa using this
      refine ⟨hi, fun x H2 y => ?_⟩
      obtain ⟨e, c', hc', rfl⟩ := y
      subst e
      rw [← Array.getElem?_toList, hc] at hc'
      cases hc'
      exact ⟨Z1, Step.refl, hza, .str _⟩
  · unfold strD at e
    simp at e
    show z.cps.size ≤ i
    omega
def iAny (t : Ev T) : Ev (List D) := fun E => bnd (t E) fun r E1 => match frz r with
  | .lst ds => some (.ok ds E1)
  | .tup ds => some (.ok ds E1)
  | .str z => some (.ok (strD z) E1)
  | _ => none
theorem PI.or {tg e : Expr} {w1 w2 : TI} (h1 : PI X tg e w1) (h2 : PI X tg e w2) : PI X tg e (fun σ H R => w1 σ H R ∨ w2 σ H R) :=
  ⟨fun pins s σ H R I h => h.elim (h1.run pins s σ H R I) (h2.run pins s σ H R I)⟩
theorem ii_any {tg l : Expr} {t : Ev T} (h : IE X cl l t) : II X cl tg l (iAny t) := by
  refine ⟨fun W tk => ?_⟩
  obtain ⟨te, p, q⟩ := h.fz W tk
  refine ⟨_, PI.or (pi_list p) (PI.or (pi_tup p) (pi_str p)), fun E σ H Z S R oe ok sat => ?_⟩
  unfold iAny at sat
  match hE : t E, sat with
  | none, sat => exact sat.elim
  | some (.ex x E1), sat =>
    refine .inl (q E σ H Z S _ oe ok ?_)
    rw [hE]; exact sat
  | some (.ok r E1), sat =>
    simp only [bnd_ok] at sat
    match hf : frz r, sat with
    | .lst ds, sat =>
      refine .inl (q E σ H Z S _ oe ok ?_)
      rw [hE]
      intro v H1 Z1 S1 oe1 rp st1 ok1
      rw [hf] at rp
      cases rp with
      | @lst a vs _ q0 q1 rl => exact ⟨a, rfl, ⟨vs, SqL.of q1⟩, sat _ H1 Z1 S1 oe1 (itok_list (.lst q0 q1 rl)) st1 ok1⟩
    | .tup ds, sat =>
      refine .inr (.inl (q E σ H Z S _ oe ok ?_))
      rw [hE]
      intro v H1 Z1 S1 oe1 rp st1 ok1
      rw [hf] at rp
      cases rp with
      | @tup a vs _ q0 q1 rl => exact ⟨a, rfl, ⟨vs, SqT.of q1⟩, sat _ H1 Z1 S1 oe1 (itok_tup (.tup q0 q1 rl)) st1 ok1⟩
    | .str z, sat =>
      refine .inr (.inr (q E σ H Z S _ oe ok ?_))
      rw [hE]
      intro v H1 Z1 S1 oe1 rp st1 ok1
      rw [hf] at rp
      cases rp with
      | str _ => exact ⟨z, rfl, sat _ H1 Z1 S1 oe1 itok_str st1 ok1⟩
end
end VL

namespace VL
open PySem PySem.Spec PyProof.Rows L2

/-! ### values at places -/
theorem getP_snoc : ∀ {p : List Nat} {t : T} {n : Nat}, getP t (p ++ [n]) = (getP t p).bind fun u => (kids u)[n]?
  | [], t, n => by
    simp only [List.nil_append, getP, Option.bind_some]
    cases (kids t)[n]? <;> rfl
  | m :: p, t, n => by
    simp only [List.cons_append, getP]
    cases (kids t)[m]? with
    | none => rfl
    | some k => exact getP_snoc
theorem valP_snoc {H : Hp} : ∀ {p : List Nat} {v : V} {n : Nat}, valP H v (p ++ [n]) = (valP H v p).bind fun u => kidV H u n
  | [], v, n => by
    simp only [List.nil_append, valP, Option.bind_some]
    cases kidV H v n <;> rfl
  | m :: p, v, n => by
    simp only [List.cons_append, valP]
    cases kidV H v m with
    | none => rfl
    | some k => exact valP_snoc
section
variable {K : PySem.W.Frag} {cl : Str → Addr} {H H' : Hp} {Z : PA1}
theorem Own.kidKeep {t v} {S : PA1} {n : Nat} {u : T} {w : V} (h : Own K cl H Z t v S) (hk : (kids t)[n]? = some u) (k : ∀ a o, S a → H a = some o → H' a = some o) (hv : kidV H v n = some w) : kidV H' v n = some w := by
  cases h with
  | fz h => simp [kids] at hk
  | tup h1 h2 _ _ => simp only [kidV, h1] at hv; simp only [kidV, k _ _ h2 h1]; exact hv
  | lst h1 h2 _ _ => simp only [kidV, h1] at hv; simp only [kidV, k _ _ h2 h1]; exact hv
  | dct h1 h2 _ _ _ => simp only [kidV, h1] at hv; simp only [kidV, k _ _ h2 h1]; exact hv
  | dcT h1 h2 _ _ _ => simp only [kidV, h1] at hv; simp only [kidV, k _ _ h2 h1]; exact hv
  | ins h1 h2 _ _ _ => simp only [kidV, h1] at hv; simp only [kidV, k _ _ h2 h1]; exact hv
theorem Own.valKeep : ∀ {p : List Nat} {t v} {S : PA1} {u : T} {w : V}, Own K cl H Z t v S → getP t p = some u → (∀ a o, S a → H a = some o → H' a = some o) → valP H v p = some w → valP H' v p = some w
  | [], _, _, _, _, _, _, _, _, hv => hv
  | n :: p, t, v, S, u, w, h, hp, k, hv => by
    simp only [getP] at hp
    cases hk : (kids t)[n]? with
    | none => rw [hk] at hp; cases hp
    | some kd =>
      rw [hk] at hp
      obtain ⟨w1, S1, R1, a1, a2, a3, a4, a5, a6⟩ := h.kid hk
      simp only [valP, a1] at hv
      simp only [valP, h.kidKeep hk k a1]
      exact Own.valKeep a2 hp (fun a o z => k a o (a3 a z)) hv
end
def SatP (K : PySem.W.Frag) (cl : Str → Addr) (W : WX) (σ : L2.St) (H : Hp) (Z S : PA1) (Q : VK) : Option (Out Loc) → Prop
  | none => False
  | some (.ok l E') => (getE E' l).isSome = true ∧ ∀ w H' Z' (S' : PA1), OwnE K cl H' Z' E' σ S' → valE H' σ l = some w → Step H Z S H' Z' S' → Okk H' Z' S' → Q w H'
  | some (.ex x E') => SatX K cl W σ H Z S x E'
theorem SatP.re {K : PySem.W.Frag} {cl : Str → Addr} {W : WX} {σ : L2.St} {H H1 : Hp} {Z S Z1 S1 : PA1} {Q : VK} {o} (st : Step H Z S H1 Z1 S1) (h : SatP K cl W σ H Z S Q o) : SatP K cl W σ H1 Z1 S1 Q o := by
  match o with
  | none => exact h
  | some (.ok l E') => exact ⟨h.1, fun w H' Z' S' a b s o => h.2 w H' Z' S' a b (st.trans s) o⟩
  | some (.ex x E') => exact SatX.re st h
structure SPk where
  q : VK
instance : Sats Loc SPk := ⟨fun K cl W σ H Z S q o => SatP K cl W σ H Z S q.q o, fun st h => SatP.re st h, fun h => h, fun h => h⟩
structure IP (X : Cx) (cl : Str → Addr) (e : Expr) (t : Ev Loc) : Prop where
  run : ∀ W, Takes X W → ∃ te, PE X e te ∧ ∀ E σ H Z (S : PA1) Q, OwnE X.K cl H Z E σ S → Okk H Z S → SatP X.K cl W σ H Z S Q (t E) → te σ H Q
/-- beside a name whose value stays -/
def Stay (H : Hp) (σ : L2.St) (H' : Hp) (i : Nat) (E E' : En) : Prop := E'[i]? = E[i]? ∧ ∀ l w, l.i = i → (getE E l).isSome = true → valE H σ l = some w → valE H' σ l = some w
def SatVs (K : PySem.W.Frag) (cl : Str → Addr) (W : WX) (i : Nat) (E : En) (σ : L2.St) (H : Hp) (Z S : PA1) (Q : VK) : Option (Out T) → Prop
  | none => False
  | some (.ok r E') => ∀ v H' Z' (Sr S' : PA1), OwnE K cl H' Z' E' σ S' → Own K cl H' Z' r v Sr → Dis Sr S' → Stay H σ H' i E E' → Step H Z S H' Z' (Uni Sr S') → Okk H' Z' (Uni Sr S') → Q v H'
  | some (.ex x E') => SatX K cl W σ H Z S x E'
def SatMs (K : PySem.W.Frag) (cl : Str → Addr) (W : WX) (i : Nat) (E : En) (σ : L2.St) (H : Hp) (Z S : PA1) (Q : List V → Hp → Prop) : Option (Out (List T)) → Prop
  | none => False
  | some (.ok r E') => ∀ v H' Z' (Sr S' : PA1), OwnE K cl H' Z' E' σ S' → OwnL K cl H' Z' r v Sr → Dis Sr S' → Stay H σ H' i E E' → Step H Z S H' Z' (Uni Sr S') → Okk H' Z' (Uni Sr S') → Q v H'
  | some (.ex x E') => SatX K cl W σ H Z S x E'
structure IEs (X : Cx) (cl : Str → Addr) (i : Nat) (e : Expr) (t : Ev T) : Prop where
  run : ∀ W, Takes X W → ∃ te, PE X e te ∧ ∀ E σ H Z (S : PA1) Q, OwnE X.K cl H Z E σ S → Okk H Z S → SatVs X.K cl W i E σ H Z S Q (t E) → te σ H Q
structure IMs (X : Cx) (cl : Str → Addr) (i : Nat) (es : List Expr) (t : Ev (List T)) : Prop where
  run : ∀ W, Takes X W → ∃ te, PA X es te ∧ ∀ E σ H Z (S : PA1) Q, OwnE X.K cl H Z E σ S → Okk H Z S → SatMs X.K cl W i E σ H Z S Q (t E) → te σ H Q
section
variable {X : Cx} {cl : Str → Addr} {kp : Keep} {pos : Pos} {i : Nat}
theorem stay_all {H H' : Hp} {σ : L2.St} {E : En} {K : PySem.W.Frag} {Z S : PA1} (oe : OwnE K cl H Z E σ S) (k : ∀ a o, H a = some o → H' a = some o) : Stay H σ H' i E E := by
  refine ⟨rfl, fun l w _ hg hv => ?_⟩
  unfold getE at hg
  match hE : E[l.i]?, hg with
  | some (some t), hg =>
    obtain ⟨v, Si, Sr, h1, h2, h3, h4, h5, h6⟩ := oe.take hE
    obtain ⟨u, hu⟩ := Option.isSome_iff_exists.mp hg
    simp only [valE, h1] at hv ⊢
    exact h2.valKeep hu (fun a o _ e => k a o e) hv
theorem ies_peek {e : Expr} {t : Ev T} (h : IE X cl e t) : IEs X cl i e (ePeek t) := by
  refine ⟨fun W tk => ?_⟩
  obtain ⟨te, p, q⟩ := h.run W tk
  refine ⟨te, p, fun E σ H Z S Q oe ok sat => ?_⟩
  refine q (frzE E) σ H (Uni Z S) Emp Q (oe.frzE (fun _ z => .inl z) fun _ z => .inr z) ok.peek ?_
  unfold ePeek at sat
  match hE : t (frzE E), sat with
  | some (.ok r E1), sat =>
    dsimp only at sat
    by_cases c : clT r = true
    · rw [if_pos c] at sat
      intro v H' Z1 Sr S' oe1 ow1 d1 st1 ok1
      obtain ⟨s1, o1, dd, kp⟩ := peekStep ok st1 ok1
      exact sat v H' Z Sr S (oe.mono (fun _ z => z) (fun a _ => .of (kp a)) fun a o _ e => kp a o e) (ow1.closed c) dd (stay_all oe kp) s1 o1
    · rw [if_neg c] at sat; exact sat.elim
  | some (.ex x E1), sat => exact sat.elim
  | none, sat => exact sat.elim
def mPeek (t : Ev (List T)) : Ev (List T) := fun E => match t (frzE E) with
  | some (.ok r _) => if clL r = true then some (.ok r E) else none
  | _ => none
theorem ims_peek {es : List Expr} {ms : List (Option Nat)} {t : Ev (List T)} (h : IM X cl es ms t) : IMs X cl i es (mPeek t) := by
  refine ⟨fun W tk => ?_⟩
  obtain ⟨te, p, q⟩ := h.run W tk
  refine ⟨te, p, fun E σ H Z S Q oe ok sat => ?_⟩
  refine q (frzE E) σ H (Uni Z S) Emp Q (oe.frzE (fun _ z => .inl z) fun _ z => .inr z) ok.peek ?_
  unfold mPeek at sat
  match hE : t (frzE E), sat with
  | some (.ok r E1), sat =>
    dsimp only at sat
    by_cases c : clL r = true
    · rw [if_pos c] at sat
      intro v H' Z1 Sr S' oe1 ow1 d1 mv st1 ok1
      obtain ⟨s1, o1, dd, kp⟩ := peekStep ok st1 ok1
      exact sat v H' Z Sr S (oe.mono (fun _ z => z) (fun a _ => .of (kp a)) fun a o _ e => kp a o e) (ow1.closed c) dd (stay_all oe kp) s1 o1
    · rw [if_neg c] at sat; exact sat.elim
  | some (.ex x E1), sat => exact sat.elim
  | none, sat => exact sat.elim
/-- beside the name i, which is taken out meanwhile -/
def sid {α : Type} (i : Nat) (t : Ev α) : Ev α := fun E => match E[i]? with
  | some (some root) => match t (E.set i none) with
    | some (.ok y E2) => some (.ok y (E2.set i (some root)))
    | some (.ex x E2) => some (.ex x (E2.set i (some root)))
    | none => none
  | _ => none
theorem side_back {K : PySem.W.Frag} {H H' : Hp} {Z Z' Si Sr Sq S' : PA1} {E E2 : En} {σ : L2.St} {root : T} {v : V} (hE : E[i]? = some (some root)) (hl : E.length = σ.length) (h1 : σ[i]? = some (some v)) (h2 : Own K cl H Z root v Si) (h4 : Dis Si Sr) (ok : Okk H Z (Uni Si Sr))
    (oe2 : OwnE K cl H' Z' E2 σ S') (st : Step H Z Sr H' Z' (Uni Sq S')) (ok2 : Okk H' Z' (Uni Sq S')) :
    OwnE K cl H' Z' (E2.set i (some root)) σ (Uni Si S') ∧ Dis Sq (Uni Si S') = Dis Sq (Uni Si S') ∧ (∀ a, Sq a → ¬ Si a) ∧ Step H Z (Uni Si Sr) H' Z' (Uni Sq (Uni Si S')) ∧ Okk H' Z' (Uni Sq (Uni Si S')) ∧ Stay H σ H' i E (E2.set i (some root)) := by
  have okr : Okk H Z Sr := ok.less fun _ z => .inr z
  have dd := st.dis (R := Si) (fun a z => ok.sa a (.inl z)) h4
  have ow := st.own okr.dis h4 h2
  have q := oe2.into (i := i) ow fun a x y => dd a x (.inr y)
  rw [set_get h1] at q
  have st2 := st.frame (R := Si)
  have ok3 := st.okk (R := Si) ok ok2 h4
  have sub : ∀ a, Uni Sq (Uni Si S') a → Uni Si (Uni Sq S') a := by intro a z; simp only [Uni] at z ⊢; grind
  refine ⟨q, rfl, fun a x y => dd a y (.inl x), st2.less sub, ok3.less sub, ?_, fun l w hl' hg hv => ?_⟩
  · rw [hE]
    exact List.getElem?_set_self (by rw [oe2.len, ← hl]; exact (List.getElem?_eq_some_iff.mp hE).1)
  · unfold getE at hg
    rw [hl', hE] at hg
    obtain ⟨u, hu⟩ := Option.isSome_iff_exists.mp hg
    simp only [valE, hl', h1] at hv ⊢
    exact h2.valKeep hu (fun a o z e => st.kp a o e fun y => h4 a z y) hv
theorem ies_side {e : Expr} {t : Ev T} (h : IE X cl e t) : IEs X cl i e (sid i t) := by
  refine ⟨fun W tk => ?_⟩
  obtain ⟨te, p, q⟩ := h.run W tk
  refine ⟨te, p, fun E σ H Z S Q oe ok sat => ?_⟩
  unfold sid at sat
  match hE : E[i]?, sat with
  | some (some root), sat =>
    obtain ⟨v, Si, Sr, h1, h2, h3, h4, h5, h6⟩ := oe.take hE
    have ok' : Okk H Z (Uni Si Sr) := ok.less fun a z => z.elim (h5 a) (h6 a)
    refine q (E.set i none) σ H Z Sr Q h3 (ok.less h6) ?_
    dsimp only at sat
    match hT : t (E.set i none), sat with
    | none, sat => exact sat.elim
    | some (.ok r E2), sat =>
      intro w H' Z' Sq S' oe2 ow2 d2 st2 ok2
      obtain ⟨a1, _, a3, a4, a5, a6⟩ := side_back hE oe.len h1 h2 h4 ok' oe2 st2 ok2
      exact sat w H' Z' Sq (Uni Si S') a1 ow2 (fun a x y => y.elim (a3 a x) (d2 a x)) a6 (a4.more fun a z => z.elim (h5 a) (h6 a)) a5
    | some (.ex x E2), sat =>
      intro c d H' Z' S' oe2 xr st2 ok2
      obtain ⟨a1, _, a3, a4, a5, a6⟩ := side_back (Sq := Emp) hE oe.len h1 h2 h4 ok' oe2 (st2.less fun a z => z.elim False.elim id) (ok2.less fun a z => z.elim False.elim id)
      exact sat c d H' Z' (Uni Si S') a1 xr ((a4.more fun a z => z.elim (h5 a) (h6 a)).less fun a z => .inr z) (a5.less fun a z => .inr z)
  | some none, sat => exact sat.elim
  | none, sat => exact sat.elim
theorem ims_side {es : List Expr} {ms : List (Option Nat)} {t : Ev (List T)} (h : IM X cl es ms t) : IMs X cl i es (sid i t) := by
  refine ⟨fun W tk => ?_⟩
  obtain ⟨te, p, q⟩ := h.run W tk
  refine ⟨te, p, fun E σ H Z S Q oe ok sat => ?_⟩
  unfold sid at sat
  match hE : E[i]?, sat with
  | some (some root), sat =>
    obtain ⟨v, Si, Sr, h1, h2, h3, h4, h5, h6⟩ := oe.take hE
    have ok' : Okk H Z (Uni Si Sr) := ok.less fun a z => z.elim (h5 a) (h6 a)
    refine q (E.set i none) σ H Z Sr Q h3 (ok.less h6) ?_
    dsimp only at sat
    match hT : t (E.set i none), sat with
    | none, sat => exact sat.elim
    | some (.ok r E2), sat =>
      intro w H' Z' Sq S' oe2 ow2 d2 mv st2 ok2
      obtain ⟨a1, _, a3, a4, a5, a6⟩ := side_back hE oe.len h1 h2 h4 ok' oe2 st2 ok2
      exact sat w H' Z' Sq (Uni Si S') a1 ow2 (fun a x y => y.elim (a3 a x) (d2 a x)) a6 (a4.more fun a z => z.elim (h5 a) (h6 a)) a5
    | some (.ex x E2), sat =>
      intro c d H' Z' S' oe2 xr st2 ok2
      obtain ⟨a1, _, a3, a4, a5, a6⟩ := side_back (Sq := Emp) hE oe.len h1 h2 h4 ok' oe2 (st2.less fun a z => z.elim False.elim id) (ok2.less fun a z => z.elim False.elim id)
      exact sat c d H' Z' (Uni Si S') a1 xr ((a4.more fun a z => z.elim (h5 a) (h6 a)).less fun a z => .inr z) (a5.less fun a z => .inr z)
  | some none, sat => exact sat.elim
  | none, sat => exact sat.elim

/-! ### places by expressions -/
def pName (i : Nat) : Ev Loc := fun E => match E[i]? with
  | some (some _) => some (.ok ⟨i, []⟩ E)
  | _ => none
theorem ip_name (i : Nat) {x : Str} (hN : X.N[i]? = some x := by rfl) (hv : Vis X.env.scope x := by first | exact Or.inl rfl | exact Or.inr (Or.inl rfl) | exact Or.inr (Or.inr rfl)) (hd : (x == ("__debug__" : Str)) = false := by decide) (hcd : (x == ("__classdict__" : Str)) = false := by decide) : IP X cl (.Name x pos) (pName i) := by
  refine ⟨fun W tk => ⟨tVar i, pe_var hN hv hd hcd, fun E σ H Z S Q oe ok sat => ?_⟩⟩
  unfold pName at sat
  match hE : E[i]?, sat with
  | some (some t), sat =>
    obtain ⟨v, Si, Sr, h1, h2, h3, h4, h5, h6⟩ := oe.take hE
    exact ⟨v, h1, sat.2 v H Z S oe (by simp only [valE, h1, valP]) Step.refl ok⟩
  | some none, sat => exact sat.elim
  | none, sat => exact sat.elim
def kidIx : T → D → Option Nat
  | .lst ts, .int k => ixN ts.length k
  | .tup ts, .int k => ixN ts.length k
  | .dct ks, y => (keyD y).bind fun k => keyIx (ks.map (·.1)) k
  | .dcT ks, y => (keysD y).bind fun k => keyIx (ks.map (·.1)) k
  | _, _ => none
theorem kidIx_run {K : PySem.W.Frag} {H : Hp} {Z Z2 : PA1} {u : T} {w : V} {Su : PA1} {y : D} {yv : V} {n : Nat} {k : T} {Q : VK} (h : Own K cl H Z u w Su) (r : Rp K cl H Z2 y yv) (hn : kidIx u y = some n) (hk : (kids u)[n]? = some k) (q : ∀ z, kidV H w n = some z → Q z H) : rIxA K w yv H Q := by
  have at_ : ∀ {vs : List V} {ts : List T} {R : PA1} {i : Int}, OwnL K cl H Z ts vs R → ixN ts.length i = some n → ts[n]? = some k → ∃ z, vs[n]? = some z ∧ atI vs i = some z := fun {vs ts R i} rl h1 h2 => by
    obtain ⟨z, _, _, hz, _⟩ := rl.kid h2
    refine ⟨z, hz, ?_⟩
    unfold atI
    rw [← rl.len, h1]
    exact hz
  cases h with
  | fz h => simp [kids] at hk
  | @lst a vs ts _ R h1 h2 h3 rl =>
    cases r with
    | int i =>
      obtain ⟨z, hz, ha⟩ := at_ rl hn hk
      exact .inl (.inl ⟨a, vs, i, z, rfl, rfl, SqL.of h1, ha, q z (by simp only [kidV, h1]; exact hz)⟩)
    | _ => simp [kidIx] at hn
  | @tup a vs ts _ R h1 h2 h3 rl =>
    cases r with
    | int i =>
      obtain ⟨z, hz, ha⟩ := at_ rl hn hk
      exact .inl (.inr (.inl ⟨a, vs, i, z, rfl, rfl, SqT.of h1, ha, q z (by simp only [kidV, h1]; exact hz)⟩))
    | _ => simp [kidIx] at hn
  | @dct a kvs ks _ R h1 h2 h3 h4 rl =>
    simp only [kidIx] at hn
    cases e : keyD y with
    | none => rw [e] at hn; cases hn
    | some ky =>
      rw [e] at hn
      have hn' : keyIx (ks.map (·.1)) ky = some n := hn
      obtain ⟨z, _, _, hz, _⟩ := rl.kid (n := n) (t := k) hk
      refine .inr ⟨a, z, rfl, .inl ⟨kvs, ky, .inl h1, keyD_rp r e, ?_⟩, q z (by simp only [kidV, h1]; exact hz)⟩
      have hv : valV kvs ky = _ := valV_ix (kvs := kvs) (k := ky)
      rw [← h4, hn'] at hv
      exact (hv.trans hz).symm
  | @dcT a kvs ks _ R h1 h2 h3 h4 rl =>
    simp only [kidIx] at hn
    cases e : keysD y with
    | none => rw [e] at hn; cases hn
    | some ky =>
      rw [e] at hn
      have hn' : keyIx (ks.map (·.1)) ky = some n := hn
      obtain ⟨z, _, _, hz, _⟩ := rl.kid (n := n) (t := k) hk
      obtain ⟨b, rfl, hb⟩ := keysD_rp r e
      refine .inr ⟨a, z, rfl, .inr ⟨kvs, ky, b, .inl h1, rfl, hb, ?_⟩, q z (by simp only [kidV, h1]; exact hz)⟩
      have hv : valV kvs ky = _ := valV_ix (kvs := kvs) (k := ky)
      rw [← h4, hn'] at hv
      exact (hv.trans hz).symm
  | ins => cases r <;> simp [kidIx] at hn
/-- path[index] as a place -/
def pIx (i : Nat) (tp : Ev Loc) (ti : Ev T) : Ev Loc := fun E => bnd (tp E) fun l E1 => if l.i = i then match getE E1 l with
  | some u => bnd (ti E1) fun y E2 => match kidIx u (frz y) with
    | some n => match (kids u)[n]? with
      | some _ => some (.ok ⟨l.i, l.p ++ [n]⟩ E2)
      | none => none
    | none => none
  | none => none else none
theorem getE_eq {E E' : En} {l : Loc} (h : E'[l.i]? = E[l.i]?) : getE E' l = getE E l := by simp only [getE, h]
theorem ip_ix (i : Nat) {a b : Expr} {tp : Ev Loc} {ti : Ev T} (hu : X.A.units + 1 < cLine) (ha : IP X cl a tp) (hb : IEs X cl i b ti) (hs : PlainIx b) : IP X cl (.Subscript a b pos) (pIx i tp ti) := by
  refine ⟨fun W tk => ?_⟩
  obtain ⟨ta', pa, qa⟩ := ha.run W tk
  obtain ⟨tb', pb, qb⟩ := hb.run W tk
  refine ⟨_, pe_ix (ix_all hu) pa pb hs, fun E σ H Z S Q oe ok sat => ?_⟩
  refine qa E σ H Z S _ oe ok ?_
  unfold pIx at sat
  match hE : tp E, sat with
  | none, sat => exact sat.elim
  | some (.ex x E1), sat => exact sat
  | some (.ok l E1), sat =>
    simp only [bnd_ok] at sat
    by_cases hi : l.i = i
    case neg => rw [if_neg hi] at sat; exact sat.elim
    rw [if_pos hi] at sat
    match hg : getE E1 l, sat with
    | none, sat => exact sat.elim
    | some u, sat =>
      refine ⟨by rw [hg]; rfl, fun w H1 Z1 S1 oe1 hv st1 ok1 => ?_⟩
      refine qb E1 σ H1 Z1 S1 _ oe1 ok1 ?_
      dsimp only at sat
      match hT : ti E1, sat with
      | none, sat => exact sat.elim
      | some (.ex x E2), sat => exact SatX.re st1 sat
      | some (.ok y E2), sat =>
        intro yv H2 Z2 Sr S2 oe2 ow2 d2 stay st2 ok2
        simp only [bnd_ok] at sat
        match hk : kidIx u (frz y), sat with
        | none, sat => exact sat.elim
        | some n, sat =>
          dsimp only at sat
          match hkd : (kids u)[n]?, sat with
          | none, sat => exact sat.elim
          | some kd, sat =>
            have hg2 : getE E2 l = some u := (getE_eq (by rw [hi]; exact stay.1)).trans hg
            have hv2 := stay.2 l w hi (by rw [hg]; rfl) hv
            obtain ⟨w', Su, R, b1, b2, _⟩ := oe2.at hg2
            rw [hv2] at b1
            cases b1
            refine kidIx_run b2 (ow2.frz (Z' := Uni Z2 Sr) (fun _ z => .inl z) fun _ z => .inr z) hk hkd fun z hz => ?_
            refine sat.2 z H2 Z2 S2 oe2 ?_ ((st1.trans st2).less fun _ z => .inr z) (ok2.less fun _ z => .inr z)
            unfold valE at hv2 ⊢
            match hs' : σ[l.i]?, hv2 with
            | some (some v0), hv2 =>
              show valP H2 v0 (l.p ++ [n]) = some z
              rw [valP_snoc]
              have hv3 : valP H2 v0 l.p = some w := hv2
              rw [hv3]
              exact hz
end
end VL

namespace VL
open PySem PySem.Spec PyProof.Rows L2

/-! ### stores to items -/
def rSetA : TSet := fun o i v H Q => (∃ p xs k j, o = .ref p ∧ i = .int k ∧ H p = some (.lst xs) ∧ ixN xs.length k = some j ∧ Q (upd H p (.lst (xs.set j v)))) ∨
  (∃ a kvs k, o = .ref a ∧ i = kV k ∧ H a = some (.dK kvs) ∧ kvs.length < sizeLine ∧ ((kvs.map (·.1)).Nodup → Q (upd H a (.dK (putK kvs k v))))) ∨
  ∃ a kvs k b, o = .ref a ∧ i = .ref b ∧ H b = some (.tup (k.map kV)) ∧ H a = some (.dT kvs) ∧ kvs.length < sizeLine ∧ ((kvs.map (·.1)).Nodup → Q (upd H a (.dT (putK kvs k v))))
theorem set_all {X : Cx} (hu : X.A.units + 1 < cLine) : PSet X rSetA := by
  intro pins s σ H o i v ov iv u Q I ro ri rv h
  rcases h with h | ⟨a, kvs, k, rfl, rfl, e, hl, q⟩ | ⟨a, kvs, k, b, rfl, rfl, eb, e, hl, q⟩
  · exact set_list pins s σ H o i v ov iv u Q I ro ri rv h
  · cases ro
    obtain ⟨z, hd, vs, rel, dd⟩ := dk_of I.hok e
    obtain ⟨_, _, _, _, _, _, _, _, nd⟩ := dd
    rw [← rel.keys] at nd
    exact d_setItem hu I (.inl ⟨kvs, k, e, rfl, hl, rfl⟩) ri rv fun s' I' => ⟨_, I', q nd⟩
  · cases ro
    obtain ⟨z, hd, xs, rel, dd⟩ := dt_of I.hok e
    have hk : kvs.map (·.1) = xs.map (·.1) := by
      clear e hd z q hl dd
      induction rel with
      | nil => rfl
      | cons h _ ih => simp only [List.map_cons]; rw [ih, h.1]
    obtain ⟨_, _, _, _, _, _, _, _, nd⟩ := dd
    rw [← hk] at nd
    exact d_setItem hu I (.inr ⟨kvs, k, b, e, rfl, eb, hl, rfl⟩) ri rv fun s' I' => ⟨_, I', q nd⟩
def putD {κ : Type} [DecidableEq κ] (ks : List (κ × T)) (k : κ) (t : T) : List (κ × T) := match keyIx (ks.map (·.1)) k with
  | some n => setSnd ks n t
  | none => ks ++ [(k, t)]
def putKid : T → D → T → Option T
  | .lst ts, .int k, t => (ixN ts.length k).map fun j => .lst (ts.set j t)
  | .dct ks, y, t => if ks.length < 16777216 then (keyD y).map fun k => .dct (putD ks k t) else none
  | .dcT ks, y, t => if ks.length < 16777216 then (keysD y).map fun k => .dcT (putD ks k t) else none
  | _, _, _ => none
section
variable {K : PySem.W.Frag} {cl : Str → Addr} {H : Hp} {Z : PA1}
theorem OwnL.setv : ∀ {ts vs t v} {S S1 : PA1} {n : Nat}, OwnL K cl H Z ts vs S → Own K cl H Z t v S1 → Dis S1 S → OwnL K cl H Z (ts.set n t) (vs.set n v) (Uni S S1)
  | [], _, _, _, _, _, _, .nil, _, _ => .nil
  | _ :: ts, _, _, _, S, S1, 0, .cons (S1 := A1) (S2 := A2) p r a1 a2 dd, q, d => .cons q r (fun _ z => .inr z) (fun a z => .inl (a2 a z)) fun a x y => d a x (a2 a y)
  | _ :: ts, _, _, _, S, S1, n + 1, .cons (S1 := A1) (S2 := A2) p r a1 a2 dd, q, d =>
    .cons p (OwnL.setv r q fun a x y => d a x (a2 a y)) (fun a z => .inl (a1 a z)) (fun a z => z.imp (a2 a) id) fun a x y => y.elim (dd a x) fun y => d a y (a1 a x)
/-- put into a dict's list of values -/
theorem putD_own {κ : Type} [DecidableEq κ] {ks : List (κ × T)} {kvs : List (κ × V)} {k : κ} {t : T} {v : V} {R S1 : PA1} (e : ks.map (·.1) = kvs.map (·.1)) (nd : (kvs.map (·.1)).Nodup) (r : OwnL K cl H Z (ks.map (·.2)) (kvs.map (·.2)) R) (q : Own K cl H Z t v S1) (d : Dis S1 R) :
    (putD ks k t).map (·.1) = (putK kvs k v).map (·.1) ∧ OwnL K cl H Z ((putD ks k t).map (·.2)) ((putK kvs k v).map (·.2)) (Uni R S1) := by
  unfold putD
  rw [e]
  cases hk : keyIx (kvs.map (·.1)) k with
  | some n =>
    obtain ⟨h1, h2⟩ := putK_at (v := v) nd hk
    obtain ⟨g1, g2⟩ := setSnd_keys ks n t
    dsimp only
    exact ⟨g1.trans (e.trans h1.symm), by rw [g2, h2]; exact r.setv q d⟩
  | none =>
    rw [putK_new' hk]
    dsimp only
    refine ⟨by simp [e], ?_⟩
    simp only [List.map_append, List.map_cons, List.map_nil]
    exact r.snoc q d
theorem putKid_run {Z2 : PA1} {u u' : T} {w v iv : V} {t : T} {y : D} {Su Sv : PA1} {Q : Hp → Prop} (h : Own K cl H Z u w Su) (ht : Own K cl H Z t v Sv) (d : Dis Su Sv) (ok : Okk H Z (Uni Su Sv)) (r : Rp K cl H Z2 y iv) (hp : putKid u y t = some u')
    (q : ∀ H', Step H Z (Uni Su Sv) H' Z (Uni Su Sv) → Okk H' Z (Uni Su Sv) → (∀ a o, ¬ Su a → H a = some o → H' a = some o) → Own K cl H' Z u' w (Uni Su Sv) → Q H') : rSetA w iv v H Q := by
  have go : ∀ {a : Addr} {o : HO}, Su a → (∀ {R : PA1} {ts vs}, (∀ b, R b → Su b ∧ b ≠ a) → OwnL K cl H Z ts vs R → OwnL K cl (upd H a o) Z ts vs R) ∧ Own K cl (upd H a o) Z t v Sv ∧ Step H Z (Uni Su Sv) (upd H a o) Z (Uni Su Sv) ∧ Okk (upd H a o) Z (Uni Su Sv) ∧ (∀ b p, ¬ Su b → H b = some p → upd H a o b = some p) := by
    intro a o sa
    obtain ⟨st, ok', k⟩ := wr_step (o := o) ok (D := a) (.inl sa)
    have kz : ∀ b, Z b → Kept H (upd H a o) b := fun b z => .of fun p e => k b p (fun q => ok.dis b (.inl (q ▸ sa)) z) e
    exact ⟨fun hr rl => rl.mono (fun _ z => z) kz fun b p z e => k b p (hr b z).2 e, ht.mono (fun _ z => z) kz fun b p z e => k b p (fun q => d b (q ▸ sa) z) e, st, ok', fun b p n e => k b p (fun q => n (q ▸ sa)) e⟩
  cases h with
  | fz h => cases r <;> simp [putKid] at hp
  | tup => cases r <;> simp [putKid] at hp
  | ins => cases r <;> simp [putKid] at hp
  | @lst a vs ts _ R h1 h2 h3 rl =>
    cases r with
    | int i =>
      simp only [putKid] at hp
      cases e : ixN ts.length i with
      | none => rw [e] at hp; cases hp
      | some j =>
        rw [e] at hp
        cases hp
        obtain ⟨g1, g2, g3, g4, g5⟩ := go (o := .lst (vs.set j v)) h2
        refine .inl ⟨a, vs, i, j, rfl, rfl, h1, by rw [← rl.len]; exact e, q _ g3 g4 g5 ?_⟩
        exact .lst (R := Uni R Sv) upd_same (.inl h2) (fun b z => z.elim (fun z => ⟨.inl (h3 b z).1, (h3 b z).2⟩) fun z => ⟨.inr z, fun q => d b (q ▸ h2) z⟩) ((g1 h3 rl).setv g2 fun b x y => d b (h3 b y).1 x)
    | _ => simp [putKid] at hp
  | @dct a kvs ks _ R h1 h2 h3 h4 rl =>
    simp only [putKid] at hp
    have hlen : ks.length = kvs.length := by have := congrArg List.length h4; simpa using this
    by_cases c : ks.length < 16777216
    case neg => rw [if_neg c] at hp; cases hp
    rw [if_pos c] at hp
    cases e : keyD y with
    | none => rw [e] at hp; cases hp
    | some k =>
      rw [e] at hp
      cases hp
      obtain ⟨g1, g2, g3, g4, g5⟩ := go (o := .dK (putK kvs k v)) h2
      refine .inr (.inl ⟨a, kvs, k, rfl, keyD_rp r e, h1, by rw [sizeLine_eq]; omega, fun nd => q _ g3 g4 g5 ?_⟩)
      obtain ⟨p1, p2⟩ := putD_own (k := k) h4 nd (g1 h3 rl) g2 fun b x y => d b (h3 b y).1 x
      exact .dct (R := Uni R Sv) upd_same (.inl h2) (fun b z => z.elim (fun z => ⟨.inl (h3 b z).1, (h3 b z).2⟩) fun z => ⟨.inr z, fun q => d b (q ▸ h2) z⟩) p1 p2
  | @dcT a kvs ks _ R h1 h2 h3 h4 rl =>
    simp only [putKid] at hp
    have hlen : ks.length = kvs.length := by have := congrArg List.length h4; simpa using this
    by_cases c : ks.length < 16777216
    case neg => rw [if_neg c] at hp; cases hp
    rw [if_pos c] at hp
    cases e : keysD y with
    | none => rw [e] at hp; cases hp
    | some k =>
      rw [e] at hp
      cases hp
      obtain ⟨b, rfl, hb⟩ := keysD_rp r e
      obtain ⟨g1, g2, g3, g4, g5⟩ := go (o := .dT (putK kvs k v)) h2
      refine .inr (.inr ⟨a, kvs, k, b, rfl, rfl, hb, h1, by rw [sizeLine_eq]; omega, fun nd => q _ g3 g4 g5 ?_⟩)
      obtain ⟨p1, p2⟩ := putD_own (k := k) h4 nd (g1 h3 rl) g2 fun b x y => d b (h3 b y).1 x
      exact .dcT (R := Uni R Sv) upd_same (.inl h2) (fun b z => z.elim (fun z => ⟨.inl (h3 b z).1, (h3 b z).2⟩) fun z => ⟨.inr z, fun q => d b (q ▸ h2) z⟩) p1 p2
end
section
variable {X : Cx} {cl : Str → Addr} {kp : Keep} {pos : Pos} {i : Nat}
/-- path[index] = a value -/
def gPut (i : Nat) (tp : Ev Loc) (ti : Ev T) : T → En → Option En := fun t E => match tp E with
  | some (.ok l E1) => if l.i = i then match getE E1 l with
    | some u => match ti E1 with
      | some (.ok y E2) => match putKid u (frz y) t with
        | some u' => some (setE E2 l u')
        | none => none
      | _ => none
    | none => none else none
  | _ => none
theorem ig_put (i : Nat) {a b : Expr} {tp : Ev Loc} {ti : Ev T} (hu : X.A.units + 1 < cLine) (ha : IP X cl a tp) (hb : IEs X cl i b ti)
    (hq : ∀ v, assign (.Subscript a b pos) X.env v = (do
      let ov ← holding [v] (eval a X.env)
      let iv ← holding [v, ov] (eval b X.env)
      standAt pos
      holding [v, ov, iv] (setItem ov iv v)
      release [v, ov, iv] []) := by intro _; rfl) : IG X cl kp (.Subscript a b pos) (gPut i tp ti) := by
  obtain ⟨ta', pa, qa⟩ := ha.run W0 takes0
  obtain ⟨tb', pb, qb⟩ := hb.run W0 takes0
  refine ⟨_, pg_sub pa pb (set_all hu) hq, fun t v E σ H Z Sv S Q oe ow d ok sat => ?_⟩
  have okS : Okk H Z S := ok.less fun _ z => .inr z
  refine qa E σ H Z S _ oe okS ?_
  unfold gPut at sat
  match hE : tp E, sat with
  | none, sat => exact sat.elim
  | some (.ex x E1), sat => exact sat.elim
  | some (.ok l E1), sat =>
    dsimp only at sat
    by_cases hi : l.i = i
    case neg => rw [if_neg hi] at sat; exact sat.elim
    rw [if_pos hi] at sat
    match hg : getE E1 l, sat with
    | none, sat => exact sat.elim
    | some u, sat =>
    dsimp only at sat
    match hT : ti E1, sat with
    | none, sat => exact sat.elim
    | some (.ex x E2), sat => exact sat.elim
    | some (.ok y E2), sat =>
      dsimp only at sat
      match hp : putKid u (frz y) t, sat with
      | none, sat => exact sat.elim
      | some u', sat =>
        refine ⟨by rw [hg]; rfl, fun w H1 Z1 S1 oe1 hv st1 ok1 => ?_⟩
        refine qb E1 σ H1 Z1 S1 _ oe1 ok1 ?_
        rw [hT]
        intro yv H2 Z2 Sr S2 oe2 ow2 d2 stay st2 ok2
        have hg2 : getE E2 l = some u := (getE_eq (by rw [hi]; exact stay.1)).trans hg
        have hv2 := stay.2 l w hi (by rw [hg]; rfl) hv
        obtain ⟨w', Su, R, b1, b2, b3, b4, b5, b6⟩ := oe2.at hg2
        rw [hv2] at b1
        cases b1
        have o1 := st1.okk (R := Sv) ok ok1 d
        have d1 := st1.dis (R := Sv) (fun a z => ok.sa a (.inl z)) d
        have ow1 := st1.own okS.dis d ow
        have d2' := st2.dis (R := Sv) (fun a z => o1.sa a (.inl z)) d1
        have ow2' := st2.own ok1.dis d1 ow1
        have o2 := st2.okk (R := Sv) o1 ok2 d1
        refine putKid_run b2 ow2' (fun a x y => d2' a y (.inr (b3 a x))) (o2.less fun a z => z.elim (fun z => .inr (.inr (b3 a z))) .inl) (ow2.frz (Z' := Uni Z2 Sr) (fun _ z => .inl z) fun _ z => .inr z) hp fun H3 st3 ok3 k3 ow3 => ?_
        have dR : Dis (Uni Su Sv) R := fun a x y => x.elim (fun x => b5 a x y) fun x => d2' a x (.inr (b4 a y))
        have oF := b6 H3 Z2 u' (Uni Su Sv) (fun _ z => z) (fun a z => .of fun o e => k3 a o (fun q => ok2.dis a (.inr (b3 a q)) z) e) (fun a o z e => k3 a o (fun q => b5 a q z) e) ow3 dR
        have okR : Okk H2 Z2 (Uni R (Uni Su Sv)) := o2.less fun a z => z.elim (fun z => .inr (.inr (b4 a z))) fun z => z.elim (fun z => .inr (.inr (b3 a z))) .inl
        have sub : ∀ a, Uni (Uni Su Sv) R a → Uni R (Uni Su Sv) a := fun a z => z.elim .inr .inl
        refine sat σ H3 Z2 (Uni (Uni Su Sv) R) oF .refl ?_ ((st3.okk okR ok3 fun a x y => dR a y x).less sub)
        refine ((st1.frame (R := Sv)).trans ((st2.frame (R := Sv)).trans ((st3.frame (R := R)).more ?_))).less sub
        exact fun a z => z.elim (fun z => .inr (.inr (b4 a z))) fun z => z.elim (fun z => .inr (.inr (b3 a z))) .inl

/-! ### methods that change what they are called on -/
def MutV (K : PySem.W.Frag) (cl : Str → Addr) (r : V → List V → Hp → VK → Prop) (g : T → List T → Option (T × T)) : Prop :=
  ∀ (u : T) (xs : List T) (w : V) (vs : List V) (H : Hp) (Z Su Sx : PA1) (Q : VK), Own K cl H Z u w Su → OwnL K cl H Z xs vs Sx → Dis Su Sx → Okk H Z (Uni Su Sx) →
    (match g u xs with
      | none => False
      | some (r', u') => ∀ v' H' (Sr Su' : PA1), Own K cl H' Z r' v' Sr → Own K cl H' Z u' w Su' → Dis Sr Su' → Step H Z (Uni Su Sx) H' Z (Uni Sr Su') → Okk H' Z (Uni Sr Su') → (∀ a o, ¬ Su a → H a = some o → H' a = some o) → Q v' H') → r w vs H Q
def kindT : String → T → Bool
  | "list", .lst _ => true
  | "dict", .dct _ => true
  | "dict", .dcT _ => true
  | _, _ => false
theorem kindT_ty {K : PySem.W.Frag} {H : Hp} {Z : PA1} {n : String} {u : T} {w : V} {Su : PA1} (h : Own K cl H Z u w Su) (k : kindT n u = true) : tyV K n w H := by
  cases h with
  | fz h => simp [kindT] at k
  | tup => simp [kindT] at k
  | ins => simp [kindT] at k
  | lst h1 _ _ _ =>
    have : n = "list" := by
      unfold kindT at k
      split at k <;> simp_all
    subst this
    exact .inl ⟨rfl, _, SqL.of h1⟩
  | dct h1 _ _ _ _ =>
    have : n = "dict" := by
      unfold kindT at k
      split at k <;> simp_all
    subst this
    exact .inr (.inr (.inl ⟨rfl, .inl ⟨_, h1⟩⟩))
  | dcT h1 _ _ _ _ =>
    have : n = "dict" := by
      unfold kindT at k
      split at k <;> simp_all
    subst this
    exact .inr (.inr (.inl ⟨rfl, .inr ⟨_, h1⟩⟩))
def eMt (i : Nat) (n : String) (g : T → List T → Option (T × T)) (tp : Ev Loc) (ts : Ev (List T)) : Ev T := fun E => bnd (tp E) fun l E1 => if l.i = i then match getE E1 l with
  | some u => if kindT n u = true then bnd (ts E1) fun xs E2 => match g u xs with
    | some (r, u') => some (.ok r (setE E2 l u'))
    | none => none else none
  | none => none else none
theorem mt_core {W : WX} {n : String} {r : V → List V → Hp → VK → Prop} {g : T → List T → Option (T × T)} {tp : Ev Loc} {ts : Ev (List T)} {to : TE} {ta : TA} (hg : MutV X.K cl r g)
    (qa : ∀ E σ H Z (S : PA1) Q, OwnE X.K cl H Z E σ S → Okk H Z S → SatP X.K cl W σ H Z S Q (tp E) → to σ H Q) (qb : ∀ E σ H Z (S : PA1) Q, OwnE X.K cl H Z E σ S → Okk H Z S → SatMs X.K cl W i E σ H Z S Q (ts E) → ta σ H Q)
    (E : En) (σ : L2.St) (H : Hp) (Z S : PA1) (Q : VK) (oe : OwnE X.K cl H Z E σ S) (ok : Okk H Z S) (sat : SatV X.K cl W σ H Z S Q (eMt i n g tp ts E)) : tBM X.K n r to ta σ H Q := by
  refine qa E σ H Z S _ oe ok ?_
  unfold eMt at sat
  match hE : tp E, sat with
  | none, sat => exact sat.elim
  | some (.ex x E1), sat => exact sat
  | some (.ok l E1), sat =>
    simp only [bnd_ok] at sat
    by_cases hi : l.i = i
    case neg => rw [if_neg hi] at sat; exact sat.elim
    rw [if_pos hi] at sat
    match hge : getE E1 l, sat with
    | none, sat => exact sat.elim
    | some u, sat =>
      dsimp only at sat
      by_cases hk : kindT n u = true
      case neg => rw [if_neg hk] at sat; exact sat.elim
      rw [if_pos hk] at sat
      refine ⟨by rw [hge]; rfl, fun w H1 Z1 S1 oe1 hv st1 ok1 => ?_⟩
      refine ⟨?_, ?_⟩
      · obtain ⟨w', Su, R, b1, b2, _⟩ := oe1.at hge
        rw [hv] at b1
        cases b1
        exact kindT_ty b2 hk
      refine qb E1 σ H1 Z1 S1 _ oe1 ok1 ?_
      match hT : ts E1, sat with
      | none, sat => exact sat.elim
      | some (.ex x E2), sat => exact SatX.re st1 sat
      | some (.ok xs E2), sat =>
        intro vs H2 Z2 Sx S2 oe2 ow2 d2 stay st2 ok2
        simp only [bnd_ok] at sat
        have hg2 : getE E2 l = some u := (getE_eq (by rw [hi]; exact stay.1)).trans hge
        have hv2 := stay.2 l w hi (by rw [hge]; rfl) hv
        obtain ⟨w', Su, R, b1, b2, b3, b4, b5, b6⟩ := oe2.at hg2
        rw [hv2] at b1
        cases b1
        refine hg u xs w vs H2 Z2 Su Sx Q b2 ow2 (fun a x y => d2 a y (b3 a x)) (ok2.less fun a z => z.elim (fun z => .inr (b3 a z)) .inl) ?_
        match hgu : g u xs, sat with
        | none, sat => exact sat.elim
        | some (r', u'), sat =>
          intro v' H3 Sr Su' ow3 owu d3 st3 ok3 k3
          have dR : Dis (Uni Su Sx) R := fun a x y => x.elim (fun x => b5 a x y) fun x => d2 a x (b4 a y)
          have okR : Okk H2 Z2 (Uni R (Uni Su Sx)) := ok2.less fun a z => z.elim (fun z => .inr (b4 a z)) fun z => z.elim (fun z => .inr (b3 a z)) .inl
          have dR3 : Dis R (Uni Sr Su') := st3.dis (fun a z => okR.sa a (.inl z)) fun a x y => dR a y x
          have oF := b6 H3 Z2 u' Su' (fun _ z => z) (fun a z => .of fun o e => k3 a o (fun q => ok2.dis a (.inr (b3 a q)) z) e) (fun a o z e => k3 a o (fun q => b5 a q z) e) owu fun a x y => dR3 a y (.inr x)
          have sub : ∀ a, Uni Sr (Uni Su' R) a → Uni R (Uni Sr Su') a := by intro a z; simp only [Uni] at z ⊢; grind
          have sat2 : SatV X.K cl W σ H Z S Q (some (.ok r' (setE E2 l u'))) := sat
          refine sat2 v' H3 Z2 Sr (Uni Su' R) oF ow3 (fun a x y => y.elim (d3 a x) fun y => dR3 a y (.inl x)) ?_ ((st3.okk okR ok3 fun a x y => dR a y x).less sub)
          refine (st1.trans (st2.trans ((st3.frame (R := R)).more ?_))).less sub
          exact fun a z => z.elim (fun z => .inr (b4 a z)) fun z => z.elim (fun z => .inr (b3 a z)) .inl
theorem ie_mt (i : Nat) {T' id : String} {r : V → List V → Hp → VK → Prop} {g : T → List T → Option (T × T)} {o e : Expr} {es : List Expr} {tp : Ev Loc} {ts : Ev (List T)} {name : Str} {apos cpos : Pos} (pa : PlainAttrs T') (slot : Slot T' name id)
    (hty : typeOf (.builtin id) = pure (.type "method_descriptor")) (hm : MtR X id r) (hg : MutV X.K cl r g) (ho : IP X cl o tp) (ha : IMs X cl i (e :: es) ts)
    (hbase : attributeBase o name X.env (eval o X.env) = eval o X.env := by rfl)
    (hfew : ((backTo cpos (starEach (e :: es) X.env)).all (fun x => !x.1) && (backToKw cpos (keywordEach [] X.env)).all (fun x => x.1.isSome)
      && decide ((e :: es).length + ([] : List Keyword).length + (if ([] : List Keyword).isEmpty then 0 else 1) < 30)) = true := by rfl)
    (hline : (apos.endLine == cpos.line) = true := by rfl) (hs : starEach (e :: es) X.env = (false, eval e X.env) :: starEach es X.env := by rfl) (hplain : (backTo cpos (starEach es X.env)).any (·.1) = false := by rfl) :
    IE X cl (.Call (.Attribute o name apos) (e :: es) [] cpos) (eMt i T' g tp ts) := by
  refine ⟨fun W tk => ?_⟩
  obtain ⟨to, po, qo⟩ := ho.run W tk
  obtain ⟨ta, pa', qa⟩ := ha.run W tk
  exact ⟨_, pe_bm pa slot hty hm po pa' hbase hfew hline hs hplain, mt_core hg qo qa⟩
def msNil : Ev (List T) := fun E => some (.ok [] E)
theorem ie_mt0 (i : Nat) {T' id : String} {r : V → List V → Hp → VK → Prop} {g : T → List T → Option (T × T)} {o : Expr} {tp : Ev Loc} {name : Str} {apos cpos : Pos} (pa : PlainAttrs T') (slot : Slot T' name id)
    (hty : typeOf (.builtin id) = pure (.type "method_descriptor")) (hm : MtR X id r) (hg : MutV X.K cl r g) (ho : IP X cl o tp)
    (hbase : attributeBase o name X.env (eval o X.env) = eval o X.env := by rfl) (hline : (apos.endLine == cpos.line) = true := by rfl) :
    IE X cl (.Call (.Attribute o name apos) [] [] cpos) (eMt i T' g tp msNil) := by
  refine ⟨fun W tk => ?_⟩
  obtain ⟨to, po, qo⟩ := ho.run W tk
  refine ⟨_, pe_bm0 pa slot hty hm po hbase hline, fun E σ H Z S Q oe ok sat => ?_⟩
  exact mt_core (ta := fun _ H Q => Q [] H) hg qo (fun E σ H Z S Q oe ok sat => (sat : SatMs X.K cl W i E σ H Z S Q (some (.ok [] E))) [] H Z Emp S oe .nil (fun _ z _ => z) ⟨rfl, fun _ _ _ _ h => h⟩ (Step.refl.less fun _ z => z.elim False.elim (fun z => z)) (ok.less fun _ z => z.elim False.elim (fun z => z))) E σ H Z S Q oe ok sat
end

/-! ### a list's methods -/
section
variable {K : PySem.W.Frag} {cl : Str → Addr}
def gAppend : T → List T → Option (T × T)
  | .lst ts, [t] => if ts.length < 16777216 then some (.fz .non, .lst (ts ++ [t])) else none
  | _, _ => none
theorem mutv_append : MutV K cl rAppend gAppend := by
  intro u xs w vs H Z Su Sx Q ow owx d ok h
  match u, xs, vs, ow, owx, h with
  | .lst ts, [t], [v], .lst (a := a) (vs := us) (R := R) h1 h2 h3 rl, .cons (S1 := S1) q .nil a1 a2 dd, h =>
    simp only [gAppend] at h
    by_cases c : ts.length < 16777216
    case neg => rw [if_neg c] at h; exact h.elim
    rw [if_pos c] at h
    dsimp only at h
    obtain ⟨st, ok', k⟩ := wr_step (o := .lst (us ++ [v])) ok (D := a) (.inl h2)
    have kz : ∀ b, Z b → Kept H (upd H a (.lst (us ++ [v]))) b := fun b z => .of fun p e => k b p (fun q => ok.dis b (.inl (q ▸ h2)) z) e
    have r1 := rl.mono (fun _ z => z) kz fun b p z e => k b p (h3 b z).2 e
    have q1 := q.mono (fun _ z => z) kz fun b p z e => k b p (fun q => d b (q ▸ h2) (a1 b z)) e
    refine ⟨a, us, v, rfl, rfl, h1, by rw [← rl.len, sizeLine_eq]; omega, h .non _ Emp (Uni Su Sx) (.fz .non) ?_ (fun _ z _ => z) (st.less fun b z => z.elim False.elim id) (ok'.less fun b z => z.elim False.elim id) fun b o n e => k b o (fun q => n (q ▸ h2)) e⟩
    refine .lst (R := Uni R S1) upd_same (.inl h2) (fun b z => z.elim (fun z => ⟨.inl (h3 b z).1, (h3 b z).2⟩) fun z => ⟨.inr (a1 b z), fun q => d b (q ▸ h2) (a1 b z)⟩) (r1.snoc q1 fun b x y => d b (h3 b y).1 (a1 b x))
end
end VL

namespace VL
open PySem PySem.Spec PyProof.Rows L2

/-! ### methods of texts and lists, by values -/
section
variable {X : Cx} {cl : Str → Addr} {kp : Keep} {pos : Pos}
def tyD : String → D → Bool
  | "str", .str _ => true
  | "list", .lst _ => true
  | _, _ => false
theorem tyD_ty {K : PySem.W.Frag} {H : Hp} {Z : PA1} {n : String} {d : D} {v : V} (r : Rp K cl H Z d v) (k : tyD n d = true) : tyV K n v H := by
  cases r with
  | str x =>
    have : n = "str" := by
      unfold tyD at k
      split at k <;> simp_all
    subst this; rfl
  | lst h0 h1 rl =>
    have : n = "list" := by
      unfold tyD at k
      split at k <;> simp_all
    subst this
    exact .inl ⟨rfl, _, SqL.of h1⟩
  | _ => simp [tyD] at k
def eMv (n : String) (g : D → List D → Option T) (to : Ev T) (ts : Ev (List D)) : Ev T := fun E => bnd (to E) fun x E1 => if tyD n (frz x) = true then bnd (ts E1) fun xs E2 => opt (g (frz x) xs) E2 else none
theorem mv_core {W : WX} {n : String} {r : V → List V → Hp → VK → Prop} {g : D → List D → Option T} {to : Ev T} {ts : Ev (List D)} {to' : TE} {ta' : TA} (hg : MtV X.K cl r g)
    (qa : ∀ E σ H Z (S : PA1) Q, OwnE X.K cl H Z E σ S → Okk H Z S → SatD X.K cl W σ H Z S Q (to E) → to' σ H Q) (qb : ∀ E σ H Z (S : PA1) Q, OwnE X.K cl H Z E σ S → Okk H Z S → SatA X.K cl W σ H Z S Q (ts E) → ta' σ H Q)
    (E : En) (σ : L2.St) (H : Hp) (Z S : PA1) (Q : VK) (oe : OwnE X.K cl H Z E σ S) (ok : Okk H Z S) (sat : SatV X.K cl W σ H Z S Q (eMv n g to ts E)) : tBM X.K n r to' ta' σ H Q := by
  refine qa E σ H Z S _ oe ok (satD_bnd (β := T) (κ := VK) (q := Q) sat fun x E1 sat1 v H1 Z1 S1 oe1 rp1 st1 ok1 => ?_)
  have sat2 : SatV X.K cl W σ H1 Z1 S1 Q (if tyD n (frz x) = true then bnd (ts E1) fun xs E2 => opt (g (frz x) xs) E2 else none) := SatV.re st1 sat1
  by_cases c : tyD n (frz x) = true
  case neg => rw [if_neg c] at sat2; exact sat2.elim
  rw [if_pos c] at sat2
  refine ⟨tyD_ty rp1 c, ?_⟩
  refine qb E1 σ H1 Z1 S1 _ oe1 ok1 (satA_bnd (β := T) (κ := VK) (q := Q) sat2 fun xs E2 sat3 vs H2 Z2 S2 oe2 rps st2 ok2 => ?_)
  exact hg _ v xs vs H2 Z2 Q ok2.za (st2.rp ok1.dis rp1) rps (op_fin oe2 ok2 (SatV.re st2 sat3))
theorem ie_mv {T' id : String} {r : V → List V → Hp → VK → Prop} {g : D → List D → Option T} {o e : Expr} {es : List Expr} {to : Ev T} {ts : Ev (List D)} {name : Str} {apos cpos : Pos} (pa : PlainAttrs T') (slot : Slot T' name id)
    (hty : typeOf (.builtin id) = pure (.type "method_descriptor")) (hm : MtR X id r) (hg : MtV X.K cl r g) (ho : IE X cl o to) (ha : IA X cl (e :: es) ts)
    (hbase : attributeBase o name X.env (eval o X.env) = eval o X.env := by rfl)
    (hfew : ((backTo cpos (starEach (e :: es) X.env)).all (fun x => !x.1) && (backToKw cpos (keywordEach [] X.env)).all (fun x => x.1.isSome)
      && decide ((e :: es).length + ([] : List Keyword).length + (if ([] : List Keyword).isEmpty then 0 else 1) < 30)) = true := by rfl)
    (hline : (apos.endLine == cpos.line) = true := by rfl) (hs : starEach (e :: es) X.env = (false, eval e X.env) :: starEach es X.env := by rfl) (hplain : (backTo cpos (starEach es X.env)).any (·.1) = false := by rfl) :
    IE X cl (.Call (.Attribute o name apos) (e :: es) [] cpos) (eMv T' g to ts) := by
  refine ⟨fun W tk => ?_⟩
  obtain ⟨to', po, qo⟩ := ho.fz W tk
  obtain ⟨ta', pa', qa⟩ := ha.run W tk
  exact ⟨_, pe_bm pa slot hty hm po pa' hbase hfew hline hs hplain, mv_core hg qo qa⟩
theorem ie_mv0 {T' id : String} {r : V → List V → Hp → VK → Prop} {g : D → List D → Option T} {o : Expr} {to : Ev T} {name : Str} {apos cpos : Pos} (pa : PlainAttrs T') (slot : Slot T' name id)
    (hty : typeOf (.builtin id) = pure (.type "method_descriptor")) (hm : MtR X id r) (hg : MtV X.K cl r g) (ho : IE X cl o to)
    (hbase : attributeBase o name X.env (eval o X.env) = eval o X.env := by rfl) (hline : (apos.endLine == cpos.line) = true := by rfl) :
    IE X cl (.Call (.Attribute o name apos) [] [] cpos) (eMv T' g to aNil) := by
  refine ⟨fun W tk => ?_⟩
  obtain ⟨to', po, qo⟩ := ho.fz W tk
  refine ⟨_, pe_bm0 pa slot hty hm po hbase hline, fun E σ H Z S Q oe ok sat => ?_⟩
  exact mv_core (ta' := fun _ H Q => Q [] H) hg qo (fun E σ H Z S Q oe ok sat => (sat : SatA X.K cl W σ H Z S Q (some (.ok [] E))) [] H Z S oe .nil Step.refl ok) E σ H Z S Q oe ok sat
end
section
variable {K : PySem.W.Frag} {cl : Str → Addr} {H : Hp} {Z : PA1} {Q : VK}
def strsOf : List D → Option (List Str)
  | [] => some []
  | .str x :: ds => (strsOf ds).map (x :: ·)
  | _ :: _ => none
theorem strsOf_rp : ∀ {ds vs xs}, RpL K cl H Z ds vs → strsOf ds = some xs → vs = xs.map V.str
  | [], _, _, .nil, h => by cases h; rfl
  | .str b :: ds, _, bs, .cons (.str _) r, h => by
    simp only [strsOf] at h
    cases e : strsOf ds with
    | none => rw [e] at h; cases h
    | some l => rw [e] at h; cases h; rw [strsOf_rp r e]; rfl
def mJoin : D → List D → Option T
  | .str a, [.lst ds] => (strsOf ds).bind fun ys => if (ys.map (·.length)).sum + ys.length * a.length ≤ 16777216 then some (.fz (.str (Txt.join a ys))) else none
  | .str a, [.tup ds] => (strsOf ds).bind fun ys => if (ys.map (·.length)).sum + ys.length * a.length ≤ 16777216 then some (.fz (.str (Txt.join a ys))) else none
  | _, _ => none
theorem mtv_join : MtV K cl (fun x xs H Q => ∃ a p, ∃ ys : List Str, x = .str a ∧ xs = [.ref p] ∧ (SqL K H p (ys.map V.str) ∨ SqT K H p (ys.map V.str)) ∧ (ys.map (·.length)).sum + ys.length * a.length ≤ 16777216 ∧ Q (.str (Txt.join a ys)) H) mJoin := by
  intro x v xs vs H Z Q hz rx rs ok
  match x, v, xs, vs, rx, rs, ok with
  | .str a, _, [.lst ds], [_], .str _, .cons (.lst _ q r) .nil, ok =>
    simp only [mJoin] at ok
    cases e : strsOf ds with
    | none => rw [e] at ok; exact okr_none ok
    | some ys =>
      rw [e] at ok
      simp only [Option.bind_some] at ok
      by_cases c : (ys.map (·.length)).sum + ys.length * a.length ≤ 16777216
      · rw [if_pos c] at ok
        have := strsOf_rp r e
        subst this
        exact ⟨a, _, ys, rfl, rfl, .inl (SqL.of q), c, okr_fz hz ok (.str _)⟩
      · rw [if_neg c] at ok; exact okr_none ok
  | .str a, _, [.tup ds], [_], .str _, .cons (.tup _ q r) .nil, ok =>
    simp only [mJoin] at ok
    cases e : strsOf ds with
    | none => rw [e] at ok; exact okr_none ok
    | some ys =>
      rw [e] at ok
      simp only [Option.bind_some] at ok
      by_cases c : (ys.map (·.length)).sum + ys.length * a.length ≤ 16777216
      · rw [if_pos c] at ok
        have := strsOf_rp r e
        subst this
        exact ⟨a, _, ys, rfl, rfl, .inr (SqT.of q), c, okr_fz hz ok (.str _)⟩
      · rw [if_neg c] at ok; exact okr_none ok
def mUpper : D → List D → Option T
  | .str a, [] => if a.length ≤ 5592405 then some (.fz (.str (Txt.upper a))) else none
  | _, _ => none
theorem mtv_upper : MtV K cl (fun x xs H Q => ∃ a, x = .str a ∧ xs = [] ∧ a.length ≤ 5592405 ∧ Q (.str (Txt.upper a)) H) mUpper := by
  intro x v xs vs H Z Q hz rx rs ok
  match x, v, xs, vs, rx, rs, ok with
  | .str a, _, [], [], .str _, .nil, ok =>
    simp only [mUpper] at ok
    by_cases c : a.length ≤ 5592405
    · rw [if_pos c] at ok
      exact ⟨a, rfl, rfl, c, okr_fz hz ok (.str _)⟩
    · rw [if_neg c] at ok; exact okr_none ok
end

/-! ### dict displays -/
def SatQ (K : PySem.W.Frag) (cl : Str → Addr) (W : WX) (σ : L2.St) (H : Hp) (Z S : PA1) (Q : List (V × V) → Hp → Prop) : Option (Out (List (Key × T))) → Prop
  | none => False
  | some (.ok ks E') => ∀ (kvs : List (Key × V)) H' Z' (St S' : PA1), ks.map (·.1) = kvs.map (·.1) → OwnE K cl H' Z' E' σ S' → OwnL K cl H' Z' (ks.map (·.2)) (kvs.map (·.2)) St → Dis St S' → Step H Z S H' Z' (Uni St S') → Okk H' Z' (Uni St S') → Q (kvs.map fun kv => (kV kv.1, kv.2)) H'
  | some (.ex x E') => SatX K cl W σ H Z S x E'
theorem SatQ.re {K : PySem.W.Frag} {cl : Str → Addr} {W : WX} {σ : L2.St} {H H1 : Hp} {Z S Z1 S1 : PA1} {Q : List (V × V) → Hp → Prop} {o} (st : Step H Z S H1 Z1 S1) (h : SatQ K cl W σ H Z S Q o) : SatQ K cl W σ H1 Z1 S1 Q o := by
  match o with
  | none => exact h
  | some (.ok r E') => exact fun v H' Z' St S' e a b d s o => h v H' Z' St S' e a b d (st.trans s) o
  | some (.ex x E') => exact SatX.re st h
structure SQk where
  q : List (V × V) → Hp → Prop
instance : Sats (List (Key × T)) SQk := ⟨fun K cl W σ H Z S q o => SatQ K cl W σ H Z S q.q o, fun st h => SatQ.re st h, fun h => h, fun h => h⟩
structure IQ (X : Cx) (cl : Str → Addr) (pos : Pos) (keys : List (Option Expr)) (values : List Expr) (t : Ev (List (Key × T))) : Prop where
  run : ∀ W, Takes X W → ∃ trs, PPs X pos keys values trs ∧ ∀ E σ H Z (S : PA1) Q, OwnE X.K cl H Z E σ S → Okk H Z S → SatQ X.K cl W σ H Z S Q (t E) → tPairs trs σ H Q
section
variable {X : Cx} {cl : Str → Addr} {pos : Pos}
def qNil : Ev (List (Key × T)) := fun E => some (.ok [] E)
def qCons (tk tv : Ev T) (r : Ev (List (Key × T))) : Ev (List (Key × T)) := fun E => bnd (tk E) fun x E1 => match keyD (frz x) with
  | some k => bnd (tv E1) fun v E2 => bnd (r E2) fun ks E3 => some (.ok ((k, v) :: ks) E3)
  | none => none
theorem iq_nil : IQ X cl pos [] [] qNil := ⟨fun W tk => ⟨[], pps_nil, fun E σ H Z S Q oe ok sat =>
  (sat : SatQ X.K cl W σ H Z S Q (some (.ok [] E))) [] H Z Emp S rfl oe .nil (fun _ z _ => z) (Step.refl.less fun _ z => z.elim False.elim (fun z => z)) (ok.less fun _ z => z.elim False.elim (fun z => z))⟩⟩
theorem iq_cons {k v : Expr} {ks : List (Option Expr)} {vs : List Expr} {tk tv : Ev T} {r : Ev (List (Key × T))} (hk : IE X cl k tk) (hv : IE X cl v tv) (hr : IQ X cl pos ks vs r) : IQ X cl pos (some k :: ks) (v :: vs) (qCons tk tv r) := by
  refine ⟨fun W tkk => ?_⟩
  obtain ⟨tk', pk, qk⟩ := hk.fz W tkk
  obtain ⟨tv', pv, qv⟩ := hv.run W tkk
  obtain ⟨trs, pr, qr⟩ := hr.run W tkk
  refine ⟨_, pps_cons pk pv pr, fun E σ H Z S Q oe ok sat => ?_⟩
  refine qk E σ H Z S _ oe ok (satD_bnd (β := List (Key × T)) (κ := SQk) (q := ⟨Q⟩) sat fun x E1 sat1 xv H1 Z1 S1 oe1 rp1 st1 ok1 => ?_)
  match hx : keyD (frz x) with
  | none => rw [hx] at sat1; exact (sat1 : False).elim
  | some key =>
    rw [hx] at sat1
    dsimp only at sat1
    have ex := keyD_rp rp1 hx
    subst ex
    have sat2 : SatQ X.K cl W σ H1 Z1 S1 Q _ := SatQ.re st1 sat1
    refine qv E1 σ H1 Z1 S1 _ oe1 ok1 (satV_bnd (β := List (Key × T)) (κ := SQk) (q := ⟨Q⟩) sat2 fun y E2 sat3 yv H2 Z2 Sr S2 oe2 ow2 d2 st2 ok2 => ?_)
    have sat4 : SatQ X.K cl W σ H1 Z1 S1 Q (bnd (r E2) fun ks E3 => some (.ok ((key, y) :: ks) E3)) := sat3
    have ok2' : Okk H2 Z2 S2 := ok2.less fun _ z => .inr z
    refine qr E2 σ H2 Z2 S2 _ oe2 ok2' ?_
    match hE : r E2, sat4 with
    | none, sat4 => exact sat4.elim
    | some (.ex x E3), sat4 => exact SatX.re (st2.less fun _ z => .inr z) sat4
    | some (.ok kts E3), sat4 =>
      intro kvs H3 Z3 Sq S3 ek oe3 ow3 d3 st3 ok3
      have sat5 : SatQ X.K cl W σ H1 Z1 S1 Q (some (.ok ((key, y) :: kts) E3)) := sat4
      have dd := st3.dis (R := Sr) (fun a z => ok2.sa a (.inl z)) d2
      have owy := st3.own ok2'.dis d2 ow2
      have sub : ∀ a, Uni (Uni Sr Sq) S3 a → Uni Sr (Uni Sq S3) a := by intro a z; simp only [Uni] at z ⊢; grind
      refine sat5 ((key, yv) :: kvs) H3 Z3 (Uni Sr Sq) S3 (by simp [ek]) oe3 (.cons owy ow3 (fun _ z => .inl z) (fun _ z => .inr z) fun a x y => dd a x (.inl y)) (fun a x y => x.elim (fun x => dd a x (.inr y)) fun x => d3 a x y)
        ((st2.trans (st3.frame (R := Sr))).less sub) ((st3.okk (R := Sr) ok2 ok3 d2).less sub)
theorem mergeK_nodup : ∀ {kvs acc : List (Key × V)}, (kvs.map (·.1)).Nodup → (∀ k ∈ kvs.map (·.1), k ∉ acc.map (·.1)) → mergeK acc kvs = acc ++ kvs
  | [], acc, _, _ => by simp [mergeK]
  | p :: r, acc, nd, h => by
    have h1 : putK acc p.1 p.2 = acc ++ [(p.1, p.2)] := putK_new' (by
      cases e : keyIx (acc.map (·.1)) p.1 with
      | none => rfl
      | some n => exact absurd (List.mem_of_getElem? (keyIx_some e)) (h p.1 (by simp)))
    have nd' := nd
    rw [List.map_cons, List.nodup_cons] at nd'
    show mergeK (putK acc p.1 p.2) r = _
    rw [h1, mergeK_nodup nd'.2 fun k hk => ?_]
    · simp
    · simp only [List.map_append, List.map_cons, List.map_nil, List.mem_append, List.mem_singleton, not_or]
      exact ⟨h k (by rw [List.map_cons]; exact List.mem_cons_of_mem _ hk), fun e => nd'.1 (e ▸ hk)⟩
def eDct (t : Ev (List (Key × T))) : Ev T := fun E => bnd (t E) fun ks E1 => if (ks.map (·.1)).Nodup ∧ ks.length ≤ 15 then some (.ok (.dct ks) E1) else none
theorem ie_dct {keys : List (Option Expr)} {values : List Expr} {t : Ev (List (Key × T))} (h : IQ X cl pos keys values t) (hall : keys.all (·.isSome) = true := by rfl) (hl : keys.length = values.length := by rfl) (h0 : keys ≠ [] := by exact fun h => nomatch h)
    (h15 : keys.length ≤ 15 := by decide) : IE X cl (.Dict keys values pos) (eDct t) := by
  refine ⟨fun W tk => ?_⟩
  obtain ⟨trs, p, q⟩ := h.run W tk
  refine ⟨_, pe_disp p hall hl h0 h15, fun E σ H Z S Q oe ok sat D hD => ?_⟩
  obtain ⟨oeD, stD, okD, dD, kpD⟩ := newObj (St := Emp) (o := .dK []) (ok.less fun _ z => z.elim False.elim (fun z => z)) (fun _ z _ => z) oe hD
  have stD' : Step H Z S (upd H D (.dK [])) Z (Uni (fun a => a = D) S) := (stD.more fun _ z => z.elim False.elim (fun z => z)).less fun a z => z.imp .inl (fun z => z)
  have okD' : Okk (upd H D (.dK [])) Z (Uni (fun a => a = D) S) := okD.less fun a z => z.imp .inl (fun z => z)
  have dD' : Dis (fun a => a = D) S := fun a x y => dD a (.inl x) y
  have okS : Okk (upd H D (.dK [])) Z S := okD'.less fun _ z => .inr z
  refine q E σ (upd H D (.dK [])) Z S _ oeD okS ?_
  unfold eDct at sat
  match hE : t E, sat with
  | none, sat => exact sat.elim
  | some (.ex x E1), sat => exact SatX.re (stD'.less fun _ z => .inr z) sat
  | some (.ok ks E1), sat =>
    simp only [bnd_ok] at sat
    by_cases c : (ks.map (·.1)).Nodup ∧ ks.length ≤ 15
    case neg => rw [if_neg c] at sat; exact sat.elim
    rw [if_pos c] at sat
    intro kvs H1 Z1 Sq S1 ek oe1 ow1 d1 st1 ok1
    have hD1 : H1 D = some (.dK []) := st1.kp D _ upd_same fun z => dD' D rfl z
    have hlen : ks.length = kvs.length := by have := congrArg List.length ek; simpa using this
    refine ⟨hD1, kvs, rfl, by omega, ?_⟩
    rw [mergeK_nodup (acc := []) (by rw [← ek]; exact c.1) (fun _ _ => by simp), List.nil_append]
    have dd := st1.dis (R := fun a => a = D) (fun a z => by subst z; rw [upd_same]; simp) dD'
    have okA : Okk H1 Z1 (Uni (fun a => a = D) (Uni Sq S1)) := st1.okk okD' ok1 dD'
    obtain ⟨stw, okw, kw⟩ := wr_step (o := .dK kvs) okA (D := D) (.inl rfl)
    have kz : ∀ b, Z1 b → Kept H1 (upd H1 D (.dK kvs)) b := fun b z => .of fun p e => kw b p (fun q => okA.dis b (.inl q) z) e
    have sat2 : SatV X.K cl W σ H Z S Q (some (.ok (.dct ks) E1)) := sat
    have sub : ∀ a, Uni (fun a => a = D ∨ Sq a) S1 a → Uni (fun a => a = D) (Uni Sq S1) a := by intro a z; simp only [Uni] at z ⊢; grind
    refine sat2 (.ref D) (upd H1 D (.dK kvs)) Z1 (fun a => a = D ∨ Sq a) S1 (oe1.mono (fun _ z => z) kz fun a o z e => kw a o (fun q => dd a q (.inr z)) e)
      (.dct (R := Sq) upd_same (.inl rfl) (fun b z => ⟨.inr z, fun q => dd b q (.inl z)⟩) ek (ow1.mono (fun _ z => z) kz fun a o z e => kw a o (fun q => dd a q (.inl z)) e)) (fun a x y => x.elim (fun x => dd a x (.inr y)) fun x => d1 a x y) ?_ (okw.less sub)
    exact ((stD'.trans (st1.frame (R := fun a => a = D))).trans stw).less sub
theorem ie_dnew : IE X cl (.Dict [] [] pos) eDnew := by
  refine ⟨fun W tk => ⟨_, pe_dnewK, fun E σ H Z S Q oe ok sat D hD => ?_⟩⟩
  obtain ⟨oeD, stD, okD, dD, kpD⟩ := newObj (St := Emp) (o := .dK []) (ok.less fun _ z => z.elim False.elim (fun z => z)) (fun _ z _ => z) oe hD
  exact (sat : SatV X.K cl W σ H Z S Q (some (.ok (.dct []) E))) (.ref D) _ Z _ S oeD (.dct (R := Emp) upd_same (.inl rfl) (fun _ z => z.elim) rfl .nil) dD (stD.more fun _ z => z.elim False.elim (fun z => z)) okD
theorem ie_dnewT : IE X cl (.Dict [] [] pos) eDnewT := by
  refine ⟨fun W tk => ⟨_, pe_dnewT, fun E σ H Z S Q oe ok sat D hD => ?_⟩⟩
  obtain ⟨oeD, stD, okD, dD, kpD⟩ := newObj (St := Emp) (o := .dT []) (ok.less fun _ z => z.elim False.elim (fun z => z)) (fun _ z _ => z) oe hD
  exact (sat : SatV X.K cl W σ H Z S Q (some (.ok (.dcT []) E))) (.ref D) _ Z _ S oeD (.dcT (R := Emp) upd_same (.inl rfl) (fun _ z => z.elim) rfl .nil) dD (stD.more fun _ z => z.elim False.elim (fun z => z)) okD
end
end VL

namespace VL
open PySem PySem.Spec PyProof.Rows L2

/-! ### repr -/
mutual
def toPyF : D → Option PyData
  | .non => some .none
  | .bl b => some (.bool b)
  | .int i => some (.int i)
  | .str x => some (.str x)
  | .lst xs => (toPyFL xs).map .list
  | .tup xs => (toPyFL xs).map .tuple
  | .dct ks => (toPyFK ks).map .dict
  | .dcT ks => (toPyFQ ks).map .dict
  | _ => none
def toPyFL : List D → Option (List PyData)
  | [] => some []
  | d :: ds => match toPyF d, toPyFL ds with | some x, some l => some (x :: l) | _, _ => none
def toPyFK : List (Key × D) → Option (List (PyData × PyData))
  | [] => some []
  | (k, d) :: ds => match toPyF d, toPyFK ds with | some x, some l => some ((keyPy k, x) :: l) | _, _ => none
def toPyFQ : List (List Key × D) → Option (List (PyData × PyData))
  | [] => some []
  | (k, d) :: ds => match toPyF d, toPyFQ ds with | some x, some l => some ((.tuple (k.map keyPy), x) :: l) | _, _ => none
end
theorem toPyFK_eq : ∀ {ds : List (Key × D)} {ps}, toPyFK ds = some ps → toPyFL (ds.map (·.2)) = some (ps.map (·.2)) ∧ ps.map (·.1) = ds.map fun p => keyPy p.1
  | [], _, h => by simp only [toPyFK] at h; cases h; exact ⟨rfl, rfl⟩
  | (k, d) :: ds, ps, h => by
    simp only [toPyFK] at h
    cases e1 : toPyF d with
    | none => rw [e1] at h; cases h
    | some x =>
      cases e2 : toPyFK ds with
      | none => rw [e1, e2] at h; cases h
      | some l =>
        rw [e1, e2] at h; cases h
        obtain ⟨h1, h2⟩ := toPyFK_eq e2
        simp [toPyFL, e1, h1, h2]
theorem toPyFQ_eq : ∀ {ds : List (List Key × D)} {ps}, toPyFQ ds = some ps → toPyFL (ds.map (·.2)) = some (ps.map (·.2)) ∧ ps.map (·.1) = ds.map fun p => .tuple (p.1.map keyPy)
  | [], _, h => by simp only [toPyFQ] at h; cases h; exact ⟨rfl, rfl⟩
  | (k, d) :: ds, ps, h => by
    simp only [toPyFQ] at h
    cases e1 : toPyF d with
    | none => rw [e1] at h; cases h
    | some x =>
      cases e2 : toPyFQ ds with
      | none => rw [e1, e2] at h; cases h
      | some l =>
        rw [e1, e2] at h; cases h
        obtain ⟨h1, h2⟩ := toPyFQ_eq e2
        simp [toPyFL, e1, h1, h2]
section
variable {X : Cx} {pins : List (Addr × Obj)} {σ : L2.St} {H : Hp} {s : Shared} {cl : Str → Addr} {Z : PA1}
theorem key_reads {h : Heap} {k : Key} {u : Value} (r : RelV (kV k) u) : Reads h u (keyPy k) [] := by
  cases k with
  | inl i => obtain ⟨t, rfl⟩ := r; exact .int i t
  | inr x => obtain ⟨t, rfl⟩ := r; exact .str x t
theorem keys_reads {h : Heap} : ∀ {ks : List Key} {us : List Value}, Vals (ks.map kV) us → ReadsAll h us (ks.map keyPy) []
  | [], _, .nil => .nil
  | k :: ks, _, .cons r rs => .cons (key_reads r) (keys_reads rs)
theorem kv_vals : ∀ {kvs : List (Key × V)} {vs : List (Key × Value)} {es : List DictEntry} {P : Program} {w : World}, KV kvs vs → Pairs (mixKind P w) es vs → Vals (kvs.map fun p => kV p.1) (es.map (·.key)) ∧ Vals (kvs.map (·.2)) (es.map (·.val))
  | [], _, _, _, _, .nil, .nil => ⟨.nil, .nil⟩
  | p :: kvs, _, _, P, w, .cons h t, .cons h1 h2 h3 => by
    obtain ⟨a, b⟩ := kv_vals t h3
    refine ⟨.cons ?_ a, .cons (by dsimp only; rw [h2]; exact h.2) b⟩
    have := relV_key h1
    rw [← h.1] at this
    exact this
theorem kt_vals : ∀ {kvs : List (List Key × V)} {xs : List (List Key × Addr × Value)} {P : Program} {w : World}, Paired (fun (p : List Key × V) (q : List Key × Addr × Value) => p.1 = q.1 ∧ H q.2.1 = some (.tup (p.1.map kV)) ∧ RelV p.2 q.2.2) kvs xs →
    Vals (kvs.map (·.2)) ((xs.map (entryOfKey (tupleKind (mixKind P w)))).map (·.val))
  | [], _, _, _, .nil => .nil
  | p :: kvs, _, P, w, .cons h t => .cons h.2.2 (kt_vals t)
theorem kt_keys (I : Inv X pins σ H s) : ∀ {kvs : List (List Key × V)} {xs : List (List Key × Addr × Value)}, Paired (fun (p : List Key × V) (q : List Key × Addr × Value) => p.1 = q.1 ∧ H q.2.1 = some (.tup (p.1.map kV)) ∧ RelV p.2 q.2.2) kvs xs →
    ReadsAll s.heap ((xs.map (entryOfKey (tupleKind (mixKind X.prog X.w)))).map (·.key)) (kvs.map fun p => .tuple (p.1.map keyPy)) []
  | [], _, .nil => .nil
  | p :: kvs, _, .cons h t => by
    obtain ⟨its, rv, ⟨o, ho, hc, n, hd⟩, _⟩ := I.tuple (SqT.of h.2.1)
    exact .cons (.tuple ho hc hd (keys_reads rv)) (kt_keys I t)
mutual
theorem rp_reads (I : Inv X pins σ H s) (hs : ∃ o, X.base.get? sysModules = some o) : ∀ {d v u p}, Rp X.K cl H Z d v → RelV v u → toPyF d = some p → ∃ as, Reads s.heap u p as ∧ sysModules ∉ as
  | _, _, _, _, .non, r, h => by simp only [toPyF] at h; cases h; cases r; exact ⟨_, .none, by simp⟩
  | _, _, _, _, .bl b, r, h => by simp only [toPyF] at h; cases h; cases r; exact ⟨_, .bool b, by simp⟩
  | _, _, _, _, .int i, r, h => by simp only [toPyF] at h; cases h; obtain ⟨t, rfl⟩ := r; exact ⟨_, .int i t, by simp⟩
  | _, _, _, _, .str x, r, h => by simp only [toPyF] at h; cases h; obtain ⟨t, rfl⟩ := r; exact ⟨_, .str x t, by simp⟩
  | _, _, _, _, .ty _, _, h => by simp [toPyF] at h
  | _, _, _, _, .gl _, _, h => by simp [toPyF] at h
  | _, _, _, _, .scr _, _, h => by simp [toPyF] at h
  | _, _, _, _, .kt _ _, _, h => by simp [toPyF] at h
  | _, _, _, _, .ins _ _ _ _, _, h => by simp [toPyF] at h
  | _, _, _, p, .lst (a := a) (vs := vs) (xs := xs) _ q rl, r, h => by
    simp only [toPyF] at h
    cases e : toPyFL xs with
    | none => rw [e] at h; cases h
    | some l =>
      rw [e] at h; cases h
      cases r
      obtain ⟨its, rv, ⟨o, n, ho, hc, _, hd⟩, _⟩ := I.list (SqL.of q)
      obtain ⟨as, hr, hn⟩ := rpl_reads I hs rl rv e
      refine ⟨_, .list ho hc hd hr, ?_⟩
      simp only [List.mem_cons, not_or]
      refine ⟨fun z => ?_, hn⟩
      obtain ⟨o', ho'⟩ := hs
      have := (I.bs _ _ ho').2
      rw [z, q] at this; cases this
  | _, _, _, p, .tup (a := a) (vs := vs) (xs := xs) _ q rl, r, h => by
    simp only [toPyF] at h
    cases e : toPyFL xs with
    | none => rw [e] at h; cases h
    | some l =>
      rw [e] at h; cases h
      cases r
      obtain ⟨its, rv, ⟨o, ho, hc, n, hd⟩, _⟩ := I.tuple (SqT.of q)
      obtain ⟨as, hr, hn⟩ := rpl_reads I hs rl rv e
      exact ⟨_, .tuple ho hc hd hr, hn⟩
  | _, _, _, p, .dct (a := a) (kvs := kvs) (ds := ds) _ q ek rl, r, h => by
    simp only [toPyF] at h
    cases e : toPyFK ds with
    | none => rw [e] at h; cases h
    | some l =>
      rw [e] at h; cases h
      cases r
      obtain ⟨z, hd, vs, rel, o, es, ep, ho, hex, hdat, hkeys, prs, nd⟩ := dk_rd I.hok q
      obtain ⟨e1, e2⟩ := toPyFK_eq e
      obtain ⟨r1, r2⟩ := kv_vals rel prs
      obtain ⟨as, hr, hn⟩ := rpl_reads I hs rl r2 e1
      have ek' : l.map (·.1) = (kvs.map (·.1)).map keyPy := by rw [e2, ← ek]; simp
      have r1' : ReadsAll s.heap (es.toList.map (·.key)) (l.map (·.1)) [] := by
        rw [ek']
        refine keys_reads ?_
        rw [List.map_map]
        exact r1
      refine ⟨_, .dict ho hex.1 hdat r1' hr, ?_⟩
      simp only [List.append_nil, List.cons_append, List.nil_append, List.mem_cons, not_or]
      exact ⟨fun z => by rw [← z] at hd; simp at hd, hn⟩
  | _, _, _, p, .dcT (a := a) (kvs := kvs) (ds := ds) _ q ek rl, r, h => by
    simp only [toPyF] at h
    cases e : toPyFQ ds with
    | none => rw [e] at h; cases h
    | some l =>
      rw [e] at h; cases h
      cases r
      obtain ⟨z, hd, xs, rel, o, es, ep, ho, hex, hdat, hes, hkeys, nd⟩ := dt_rd I.hok q
      obtain ⟨e1, e2⟩ := toPyFQ_eq e
      obtain ⟨as, hr, hn⟩ := rpl_reads I hs rl (kt_vals (P := X.prog) (w := X.w) rel) e1
      have ek' : l.map (·.1) = kvs.map fun p => .tuple (p.1.map keyPy) := by
        have : kvs.map (fun p => PyData.tuple (p.1.map keyPy)) = (kvs.map (·.1)).map fun k => PyData.tuple (k.map keyPy) := by simp
        rw [e2, this, ← ek]; simp
      have r1' : ReadsAll s.heap (es.toList.map (·.key)) (l.map (·.1)) [] := by
        rw [ek', hes]
        exact kt_keys I rel
      refine ⟨_, .dict ho hex.1 hdat r1' (by rw [hes]; exact hr), ?_⟩
      simp only [List.append_nil, List.cons_append, List.nil_append, List.mem_cons, not_or]
      exact ⟨fun z => by rw [← z] at hd; simp at hd, hn⟩
theorem rpl_reads (I : Inv X pins σ H s) (hs : ∃ o, X.base.get? sysModules = some o) : ∀ {ds vs us ps}, RpL X.K cl H Z ds vs → Vals vs us → toPyFL ds = some ps → ∃ as, ReadsAll s.heap us ps as ∧ sysModules ∉ as
  | _, _, _, _, .nil, .nil, h => by simp only [toPyFL] at h; cases h; exact ⟨_, .nil, by simp⟩
  | d :: ds, _, _, _, .cons r rs, .cons q qs, h => by
    simp only [toPyFL] at h
    cases e1 : toPyF d with
    | none => rw [e1] at h; cases h
    | some x =>
      cases e2 : toPyFL ds with
      | none => rw [e1, e2] at h; cases h
      | some l =>
        rw [e1, e2] at h; cases h
        obtain ⟨as, a1, a2⟩ := rp_reads I hs r q e1
        obtain ⟨bs, b1, b2⟩ := rpl_reads I hs rs qs e2
        exact ⟨_, .cons a1 b1, by simp only [List.mem_append, not_or]; exact ⟨a2, b2⟩⟩
end
end
/-- what may be shown, and is -/
def reprS (d : D) : Option Str := match toPyF d with
  | some p => if p.showable = true ∧ p.depth ≤ 60 ∧ p.shown.length ≤ 16777216 then some p.shown else none
  | none => none
def rRepr (K : PySem.W.Frag) (cl : Str → Addr) : List V → Hp → VK → Prop := fun vs H Q => ∃ (Z : PA1) (x : D) (v : V) (z : Str), vs = [v] ∧ Rp K cl H Z x v ∧ reprS x = some z ∧ Q (.str z) H
theorem call_reprA {X : Cx} {cl : Str → Addr} (hu : X.A.units + 64 < cLine) (hg : X.A.guards = some []) (hs : ∃ o, X.base.get? sysModules = some o) : CallR X (.builtin "repr") (rRepr X.K cl) := by
  intro pins s σ H xs us Q I r h
  obtain ⟨Z, x, v, z, rfl, rp, hz, q⟩ := h
  obtain ⟨u, rfl, ru⟩ := r.one
  unfold reprS at hz
  cases e : toPyF x with
  | none => rw [e] at hz; cases hz
  | some p =>
    rw [e] at hz
    dsimp only at hz
    split at hz
    case isFalse => cases hz
    rename_i c
    cases hz
    obtain ⟨c1, c2, c3⟩ := c
    have c3' : p.shown.length ≤ sizeLine := by rw [sizeLine_eq]; exact c3
    obtain ⟨as, rd, hn⟩ := rp_reads I hs rp ru e
    cases v with
    | non =>
      cases rp
      cases ru
      simp only [toPyF] at e; cases e
      exact PySem.P.repr_of_none ⟨.str _, H, I.tok _, ⟨_, rfl⟩, q⟩
    | bl b =>
      cases rp
      cases ru
      simp only [toPyF] at e; cases e
      exact PySem.P.repr_of_bool ⟨.str _, H, I.tok _, ⟨_, rfl⟩, q⟩
    | int i =>
      cases rp
      obtain ⟨t, rfl⟩ := ru
      simp only [toPyF] at e; cases e
      exact PySem.P.repr_of_int (by simpa [PyData.showable] using c1) ⟨.str _, H, I.tok _, ⟨_, rfl⟩, q⟩
    | str i =>
      cases rp
      obtain ⟨t, rfl⟩ := ru
      simp only [toPyF] at e; cases e
      exact PySem.P.repr_of_str ⟨.str _, H, I.tok _, ⟨_, rfl⟩, q⟩ (by simpa [PyData.shown] using c3')
    | ref a =>
      cases ru
      refine repr_of_reads' rd c1 (fun _ => hn) hg (by omega) (fun b o e => e) (fun h' t tk k => ?_) c3'
      exact ⟨.str p.shown, H, I.kept k, ⟨_, rfl⟩, q⟩
    | ty n => cases rp; simp [toPyF] at e
    | _ => cases rp
def reprD : List D → Option T
  | [x] => (reprS x).map fun z => .fz (.str z)
  | _ => none
theorem callv_repr {K : PySem.W.Frag} {cl : Str → Addr} : CallV K cl (rRepr K cl) reprD := by
  intro xs vs H Z Q hz rs ok
  match xs, vs, rs, ok with
  | [x], [v], .cons rx .nil, ok =>
    simp only [reprD] at ok
    cases e : reprS x with
    | none => rw [e] at ok; exact okr_none ok
    | some z => rw [e] at ok; exact ⟨Z, x, v, z, rfl, rx, e, okr_fz hz ok (.str _)⟩
end VL

namespace VL
open PySem PySem.Spec PyProof.Rows L2
/-! ### the rules as a derivation names them -/
section
variable {X : Cx} {cl : Str → Addr} {kp : Keep} {pos : Pos} {k : Nat} {a b c e : Expr} {ta tb tc : Ev T} {es : List Expr} {ts : Ev (List D)}
theorem iv (i : Nat) {x : Str} {pos : Pos} (hN : X.N[i]? = some x := by rfl) (hv : Vis X.env.scope x := by first | exact Or.inl rfl | exact Or.inr (Or.inl rfl) | exact Or.inr (Or.inr rfl)) (hd : (x == ("__debug__" : Str)) = false := by decide) (hcd : (x == ("__classdict__" : Str)) = false := by decide) : IE X cl (.Name x pos) (eVar i) := ie_var hN hv hd hcd
theorem ifz (i : Nat) {x : Str} {pos : Pos} (hN : X.N[i]? = some x := by rfl) (hv : Vis X.env.scope x := by first | exact Or.inl rfl | exact Or.inr (Or.inl rfl) | exact Or.inr (Or.inr rfl)) (hd : (x == ("__debug__" : Str)) = false := by decide) (hcd : (x == ("__classdict__" : Str)) = false := by decide) : IE X cl (.Name x pos) (eFrz i) := ie_frz hN hv hd hcd
theorem imv (i : Nat) {x : Str} {pos : Pos} (hN : X.N[i]? = some x := by rfl) (hv : Vis X.env.scope x := by first | exact Or.inl rfl | exact Or.inr (Or.inl rfl) | exact Or.inr (Or.inr rfl)) (hd : (x == ("__debug__" : Str)) = false := by decide) (hcd : (x == ("__classdict__" : Str)) = false := by decide) : IE X cl (.Name x pos) (eMov i) := ie_mov hN hv hd hcd
theorem igint {x : Str} {i : Int} {pos : Pos} (hm : ∃ t, X.mg x = some (.int i t)) (hg : Gl X x := by rfl) (hd : (x == ("__debug__" : Str)) = false := by decide) : IE X cl (.Name x pos) (eC (.int i)) := let ⟨_, h⟩ := hm; ie_gint h hg hd
theorem igstr {x : Str} {i : Str} {pos : Pos} (hm : ∃ t, X.mg x = some (.str i t)) (hg : Gl X x := by rfl) (hd : (x == ("__debug__" : Str)) = false := by decide) : IE X cl (.Name x pos) (eC (.str i)) := let ⟨_, h⟩ := hm; ie_gstr h hg hd
theorem ity {x : Str} {n : String} {pos : Pos} (hm : X.mg x = none) (hb : bootBuiltins x = some (.type n)) (hg : Gl X x := by rfl) (hn : x ≠ "__name__" := by decide) (hd : (x == ("__debug__" : Str)) = false := by decide) : IE X cl (.Name x pos) (eC (.ty n)) := ie_ty hm hb hg hn hd
theorem u65 (hr : Room k X.A) : X.A.units + 65 < cLine := by have := hr.un; omega
theorem u1 (hr : Room k X.A) : X.A.units + 1 < cLine := by have := hr.un; omega
theorem bAdd (ha : IE X cl a ta) (hb : IE X cl b tb) : IE X cl (.BinOp a .Add b pos) (eBin addD ta tb) := ie_bin op_addA opv_add ha hb
theorem bSub (ha : IE X cl a ta) (hb : IE X cl b tb) : IE X cl (.BinOp a .Sub b pos) (eBin subD ta tb) := ie_bin op_sub opv_sub ha hb
theorem bMul (ha : IE X cl a ta) (hb : IE X cl b tb) : IE X cl (.BinOp a .Mult b pos) (eBin mulD ta tb) := ie_bin op_mulA opv_mul ha hb
theorem bDiv (ha : IE X cl a ta) (hb : IE X cl b tb) : IE X cl (.BinOp a .FloorDiv b pos) (eBin fdivD ta tb) := ie_bin op_fdiv opv_int ha hb
theorem bMod (ha : IE X cl a ta) (hb : IE X cl b tb) : IE X cl (.BinOp a .Mod b pos) (eBin modD ta tb) := ie_bin op_mod opv_int ha hb
theorem bPow (ha : IE X cl a ta) (hb : IE X cl b tb) : IE X cl (.BinOp a .Pow b pos) (eBin powD ta tb) := ie_bin op_pow opv_int ha hb
theorem uNeg (ha : IE X cl a ta) : IE X cl (.UnaryOp .USub a pos) (eUn negD ta) := ie_un un_neg unv_neg ha
/-- the readings of comparisons -/
structure CmpW (X : Cx) (cl : Str → Addr) (op : CmpOp) (g : D → D → Option T) : Prop where
  ex : ∃ r, OpR X (compareOp op) r ∧ OpV X.K cl r g
theorem kEq (hr : Room k X.A) : CmpW X cl .Eq eqA := ⟨_, op_eqA hr.units, opv_eqA⟩
theorem kNe (hr : Room k X.A) : CmpW X cl .NotEq neA := ⟨_, op_neA hr.units, opv_neA⟩
theorem kLt : CmpW X cl .Lt ltD := ⟨_, op_lt, opv_cmp⟩
theorem kLe : CmpW X cl .LtE leD := ⟨_, op_le, opv_cmp⟩
theorem kGt : CmpW X cl .Gt gtD := ⟨_, op_gt, opv_cmp⟩
theorem kGe : CmpW X cl .GtE geD := ⟨_, op_ge, opv_cmp⟩
theorem kIn (hr : Room k X.A) : CmpW X cl .In (inA false) := ⟨_, op_inA (u65 hr), opv_in⟩
theorem kNin (hr : Room k X.A) : CmpW X cl .NotIn (inA true) := ⟨_, op_ninA (u65 hr), opv_nin⟩
theorem kIs : CmpW X cl .Is isND := ⟨_, op_isN, opv_isN⟩
theorem kIsnt : CmpW X cl .IsNot notND := ⟨_, op_notN, opv_notN⟩
theorem vCmp {op : CmpOp} {g : D → D → Option T} (h : CmpW X cl op g) (ha : IE X cl a ta) (hb : IE X cl b tb) (hm : behindInMarks op b = false := by with_unfolding_all rfl) : IE X cl (.Compare a [op] [b] pos) (eBin g ta tb) := let ⟨_, ho, hg⟩ := h.ex; ie_cmp ho hg ha hb hm
theorem qCmp {op : CmpOp} {g : D → D → Option T} (h : CmpW X cl op g) (ha : IE X cl a ta) (hb : IE X cl b tb) (hm : behindInMarks op b = false := by with_unfolding_all rfl) : IB X cl (.Compare a [op] [b] pos) (bBin g ta tb) := let ⟨_, ho, hg⟩ := h.ex; ib_cmp ho hg ha hb hm
theorem vChn {op op' : CmpOp} {g g' : D → D → Option T} (h : CmpW X cl op g) (h' : CmpW X cl op' g') (ha : IE X cl a ta) (hb : IE X cl b tb) (hc : IE X cl c tc) (hm : lastMarks [op, op'] [b, c] = false := by with_unfolding_all rfl) : IE X cl (.Compare a [op, op'] [b, c] pos) (eChn g g' ta tb tc) :=
  let ⟨_, ho, hg⟩ := h.ex; let ⟨_, ho', hg'⟩ := h'.ex; ie_chn ho hg ho' hg' ha hb hc hm
theorem qChn {op op' : CmpOp} {g g' : D → D → Option T} (h : CmpW X cl op g) (h' : CmpW X cl op' g') (ha : IE X cl a ta) (hb : IE X cl b tb) (hc : IE X cl c tc) (hm : lastMarks [op, op'] [b, c] = false := by with_unfolding_all rfl) : IB X cl (.Compare a [op, op'] [b, c] pos) (bVal (eChn g g' ta tb tc)) :=
  let ⟨_, ho, hg⟩ := h.ex; let ⟨_, ho', hg'⟩ := h'.ex; ib_chn ho hg ho' hg' ha hb hc hm
theorem ix (hr : Room k X.A) (ha : IE X cl a ta) (hb : IE X cl b tb) (hs : PlainIx b := by exact fun _ _ => rfl) : IE X cl (.Subscript a b pos) (eBin ixA ta tb) := ie_ix (ix_all (u1 hr)) opv_ixA ha hb hs
theorem sl_allR : SlR X (rSlAll X.K) := sl_list.or (sl_tupA.or sl_str)
theorem islice {lo hi : Option Expr} {p2 : Pos} {tl th : Ev (Option Int)} (ha : IE X cl a ta) (hl : IO X cl lo tl) (hh : IO X cl hi th) : IE X cl (.Subscript a (.Slice lo hi none p2) pos) (eSl slD ta tl th) := ie_slice sl_allR slv_all ha hl hh
/-- the readings of calls of built-ins -/
structure CallW (X : Cx) (cl : Str → Addr) (f : Value) (g : List D → Option T) : Prop where
  ex : ∃ r, CallR X f r ∧ CallV X.K cl r g
theorem fLen : CallW X cl (.builtin "len") lenD := ⟨_, call_len, callv_len⟩
theorem fAbs : CallW X cl (.builtin "abs") absD := ⟨_, call_abs, callv_abs⟩
theorem fAll (hc : X.calm = true := by rfl) : CallW X cl (.builtin "all") allD := ⟨_, cr_all hc, callv_all⟩
theorem fIsi : CallW X cl (.builtin "isinstance") isTyD := ⟨_, call_isi, callv_isTy⟩
theorem fRepr (hr : Room k X.A) (hg : X.A.guards = some []) (hs : ∃ o, X.base.get? sysModules = some o) : CallW X cl (.builtin "repr") reprD := ⟨_, call_reprA hr.units hg hs, callv_repr⟩
theorem fList : CallW X cl (.type "list") listD := ⟨_, call_list_of, callv_list⟩
theorem fTuple : CallW X cl (.type "tuple") tupleD := ⟨_, call_tuple_of, callv_tuple⟩
theorem iB {x : Str} {id : String} {p : Pos} {g : List D → Option T} (h : CallW X cl (.builtin id) g) (hm : X.mg x = none) (hv : bootBuiltins x = some (.builtin id)) (ha : IA X cl (e :: es) ts)
    (hg : Gl X x := by rfl) (hn : x ≠ "__name__" := by decide) (hdb : (x == ("__debug__" : Str)) = false := by decide)
    (he : starEach (e :: es) X.env = (false, eval e X.env) :: starEach es X.env := by rfl) (hpl : (backTo pos (starEach es X.env)).any (·.1) = false := by rfl) : IE X cl (.Call (.Name x p) (e :: es) [] pos) (eCall g ts) := let ⟨_, hc, hgv⟩ := h.ex; ie_callB hc hgv hm hv ha hg hn hdb he hpl
theorem iT {x : Str} {n : String} {p : Pos} {g : List D → Option T} (h : CallW X cl (.type n) g) (hm : X.mg x = none) (hv : bootBuiltins x = some (.type n)) (ha : IA X cl (e :: es) ts)
    (hg : Gl X x := by rfl) (hn : x ≠ "__name__" := by decide) (hdb : (x == ("__debug__" : Str)) = false := by decide)
    (he : starEach (e :: es) X.env = (false, eval e X.env) :: starEach es X.env := by rfl) (hpl : (backTo pos (starEach es X.env)).any (·.1) = false := by rfl) : IE X cl (.Call (.Name x p) (e :: es) [] pos) (eCall g ts) := let ⟨_, hc, hgv⟩ := h.ex; ie_callT hc hgv hm hv ha hg hn hdb he hpl
/-- methods -/
theorem mJoinR {o : Expr} {to : Ev T} {apos cpos : Pos} (ho : IE X cl o to) (ha : IA X cl [e] ts) (hbase : attributeBase o "join" X.env (eval o X.env) = eval o X.env := by rfl)
    (hfew : ((backTo cpos (starEach [e] X.env)).all (fun x => !x.1) && (backToKw cpos (keywordEach [] X.env)).all (fun x => x.1.isSome)
      && decide (([e] : List Expr).length + ([] : List Keyword).length + (if ([] : List Keyword).isEmpty then 0 else 1) < 30)) = true := by rfl)
    (hline : (apos.endLine == cpos.line) = true := by rfl) (hs : starEach [e] X.env = (false, eval e X.env) :: starEach [] X.env := by rfl) (hplain : (backTo cpos (starEach [] X.env)).any (·.1) = false := by rfl) :
    IE X cl (.Call (.Attribute o "join" apos) [e] [] cpos) (eMv "str" mJoin to ts) := ie_mv F.plainAttrs_str F.slot_str_join F.type_str_join mt_join mtv_join ho ha hbase hfew hline hs hplain
theorem mUpperR {o : Expr} {to : Ev T} {apos cpos : Pos} (ho : IE X cl o to) (hbase : attributeBase o "upper" X.env (eval o X.env) = eval o X.env := by rfl) (hline : (apos.endLine == cpos.line) = true := by rfl) :
    IE X cl (.Call (.Attribute o "upper" apos) [] [] cpos) (eMv "str" mUpper to aNil) := ie_mv0 F.plainAttrs_str F.slot_str_upper F.type_str_upper mt_upper mtv_upper ho hbase hline
theorem mAppendR (i : Nat) {o : Expr} {tp : Ev Loc} {ms : Ev (List T)} {apos cpos : Pos} (ho : IP X cl o tp) (ha : IMs X cl i [e] ms) (hbase : attributeBase o "append" X.env (eval o X.env) = eval o X.env := by rfl)
    (hfew : ((backTo cpos (starEach [e] X.env)).all (fun x => !x.1) && (backToKw cpos (keywordEach [] X.env)).all (fun x => x.1.isSome)
      && decide (([e] : List Expr).length + ([] : List Keyword).length + (if ([] : List Keyword).isEmpty then 0 else 1) < 30)) = true := by rfl)
    (hline : (apos.endLine == cpos.line) = true := by rfl) (hs : starEach [e] X.env = (false, eval e X.env) :: starEach [] X.env := by rfl) (hplain : (backTo cpos (starEach [] X.env)).any (·.1) = false := by rfl) :
    IE X cl (.Call (.Attribute o "append" apos) [e] [] cpos) (eMt i "list" gAppend tp ms) := ie_mt i F.plainAttrs_list F.slot_list_append F.type_list_append mt_append mutv_append ho ha hbase hfew hline hs hplain
end
end VL

namespace VL
open PySem PySem.Spec PyProof.Rows L2
/-! ### a, b = x, y -/
def putN : List (Nat × Bool) → List T → En → Option En
  | [], [], E => some E
  | (i, o) :: r, t :: ts, E => putN r ts (E.set i (some (if o = true then t else .fz (frz t))))
  | _, _, _ => none
def putV : List Nat → List V → L2.St → L2.St
  | i :: r, v :: vs, σ => putV r vs (σ.set i (some v))
  | _, _, σ => σ
theorem putN_run {K : PySem.W.Frag} {cl : Str → Addr} {kp : Keep} {H : Hp} : ∀ {is : List (Nat × Bool)} {ts : List T} {vs : List V} {E E' : En} {σ : L2.St} {Z Sq S : PA1}, OwnE K cl H Z E σ S → OwnL K cl H Z ts vs Sq → Dis Sq S → Okk H Z (Uni Sq S) → putN is ts E = some E' → (∀ p ∈ is, kp p.1 = false) →
    ∃ Z' S' : PA1, OwnE K cl H Z' E' (putV (is.map (·.1)) vs σ) S' ∧ Kp kp σ (putV (is.map (·.1)) vs σ) ∧ Step H Z (Uni Sq S) H Z' S' ∧ Okk H Z' S' ∧ vs.length = is.length
  | [], [], vs, E, E', σ, Z, Sq, S, oe, ow, d, ok, h, hk => by
    cases ow
    simp only [putN] at h
    cases h
    exact ⟨Z, S, oe, .refl, Step.refl.less fun _ z => .inr z, ok.less fun _ z => .inr z, rfl⟩
  | (i, o) :: r, t :: ts, _, E, E', σ, Z, Sq, S, oe, .cons (v := v) (vs := vs) (S1 := A1) (S2 := A2) q qr a1 a2 dd, d, ok, h, hk => by
    simp only [putN] at h
    have hki : kp i = false := hk (i, o) (by simp)
    cases o with
    | true =>
      rw [if_pos rfl] at h
      obtain ⟨Z', S', h1, h2, h3, h4, h5⟩ := putN_run (kp := kp) (oe.into (i := i) q fun a x y => d a (a1 a x) y) qr (fun a x y => y.elim (fun y => dd a y x) (d a (a2 a x))) (ok.less fun a z => z.elim (fun z => .inl (a2 a z)) fun z => z.imp (a1 a) id) h fun p hp => hk p (by simp [hp])
      exact ⟨Z', S', h1, (Kp.set hki).trans h2, h3.more fun a z => z.elim (fun z => .inl (a2 a z)) fun z => z.imp (a1 a) id, h4, by simp [h5]⟩
    | false =>
      rw [if_neg Bool.false_ne_true] at h
      have okA : Okk H Z (Uni A1 (Uni A2 S)) := ok.less fun a z => z.elim (fun z => .inl (a1 a z)) fun z => z.imp (a2 a) id
      have dA : Dis A1 (Uni A2 S) := fun a x y => y.elim (dd a x) (d a (a1 a x))
      obtain ⟨s2, o2⟩ := freezeStep okA dA
      have rp := q.frz (Z' := Uni Z A1) (fun _ z => .inl z) fun _ z => .inr z
      have oe1 := ((oe.zmore (Z' := Uni Z A1) fun _ z => .inl z).into (Si := Emp) (i := i) (.fz rp) fun _ z _ => z).up fun a z => z.elim False.elim id
      have qr1 := qr.mono (Z' := Uni Z A1) (fun _ z => .inl z) (fun _ _ => .refl) fun _ _ _ e => e
      obtain ⟨Z', S', h1, h2, h3, h4, h5⟩ := putN_run (kp := kp) oe1 qr1 (fun a x y => d a (a2 a x) y) o2 h fun p hp => hk p (by simp [hp])
      exact ⟨Z', S', h1, (Kp.set hki).trans h2, (s2.trans h3).more fun a z => z.elim (fun z => .inl (a1 a z)) fun z => z.imp (a2 a) id, h4, by simp [h5]⟩
  | [], t :: ts, _, _, _, _, _, _, _, _, _, _, _, h, _ => by simp [putN] at h
  | (i, o) :: r, [], _, _, _, _, _, _, _, _, _, _, _, h, _ => by simp [putN] at h
def sPar (is : List (Nat × Bool)) (ts : Ev (List T)) : Ev Fl := fun E => bnd (ts E) fun xs E1 => match putN is xs E1 with
  | some E2 => some (.ok .nx E2)
  | none => none
section
variable {X : Cx} {cl : Str → Addr} {kp : Keep} {pos : Pos} {k : Nat}
theorem par_core {W : WX} {is : List (Nat × Bool)} {ts : Ev (List T)} {ms : List (Option Nat)} {ta : TA} (hk : ∀ p ∈ is, kp p.1 = false) (q : ∀ E σ H Z (S : PA1) Q, OwnE X.K cl H Z E σ S → Okk H Z S → SatM X.K cl W ms σ H Z S Q (ts E) → ta σ H Q)
    (E : En) (σ : L2.St) (H : Hp) (Z S : PA1) (D : Ends) (oe : OwnE X.K cl H Z E σ S) (ok : Okk H Z S) (sat : SatS X.K cl W kp σ H Z S D (sPar is ts E)) : ta σ H fun vs H1 => vs.length = is.length ∧ D.nx (putV (is.map (·.1)) vs σ) H1 := by
  refine q E σ H Z S _ oe ok ?_
  unfold sPar at sat
  match hE : ts E, sat with
  | none, sat => exact sat.elim
  | some (.ex x E1), sat =>
    intro c d H' Z' S' a b s o
    exact (sat : SatXs X.K cl W kp σ H Z S x E1) c d σ H' Z' S' a .refl b s o
  | some (.ok xs E1), sat =>
    intro vs H1 Z1 Sq S1 oe1 ow1 d1 mv st1 ok1
    simp only [bnd_ok] at sat
    match hp : putN is xs E1, sat with
    | none, sat => exact sat.elim
    | some E2, sat =>
      obtain ⟨Z', S', h1, h2, h3, h4, h5⟩ := putN_run (kp := kp) oe1 ow1 d1 ok1 hp hk
      have sat2 : SatS X.K cl W kp σ H Z S D (some (.ok .nx E2)) := sat
      exact ⟨h5, sat2 _ H1 Z' S' h1 h2 (st1.trans h3) h4⟩
theorem is_par2 (i j : Nat) (oi oj : Bool) {x y : Str} {a b : Expr} {ts : Ev (List T)} {ms : List (Option Nat)} {px py pt : Pos} {kt k2 pt2} (hc : X.calm = true) (hN : X.N.Nodup) (ha : IM X cl [a, b] ms ts) (hi : X.N[i]? = some x := by rfl) (hj : X.N[j]? = some y := by rfl) (hij : i ≠ j := by decide)
    (hx : X.env.scope.names.lookup x = some .local := by rfl) (hy : X.env.scope.names.lookup y = some .local := by rfl) (hki : kp i = false := by rfl) (hkj : kp j = false := by rfl)
    (hw : swappedStores [.Tuple [.Name x px, .Name y py] kt pt] (.Tuple [a, b] k2 pt2) X.env = pure (some [x, y]) := by rfl)
    (hs : swapsWithSole [.Tuple [.Name x px, .Name y py] kt pt] (.Tuple [a, b] k2 pt2) pos.line X.env = pure false := by rfl) :
    IS X cl kp (.Assign [.Tuple [.Name x px, .Name y py] kt pt] (.Tuple [a, b] k2 pt2) pos) (sPar [(i, oi), (j, oj)] ts) := by
  refine ⟨fun W tk => ?_⟩
  obtain ⟨ta, pa, q⟩ := ha.run W tk
  refine ⟨_, ps_par hc hN hi hj hij hx hy pa hw hs, fun E σ H Z S D oe ok sat => ?_⟩
  have hk : ∀ p ∈ [(i, oi), (j, oj)], kp p.1 = false := by
    intro p hp
    simp only [List.mem_cons, List.not_mem_nil, or_false] at hp
    rcases hp with rfl | rfl
    · exact hki
    · exact hkj
  have core := par_core (ta := ta) (is := [(i, oi), (j, oj)]) hk q E σ H Z S D oe ok sat
  obtain ⟨te, pe, qe⟩ := ha.run W tk
  refine q E σ H Z S _ oe ok ?_
  unfold sPar at sat
  match hE : ts E, sat with
  | none, sat => exact sat.elim
  | some (.ex x E1), sat =>
    intro c d H' Z' S' a b s o
    exact (sat : SatXs X.K cl W kp σ H Z S x E1) c d σ H' Z' S' a .refl b s o
  | some (.ok xs E1), sat =>
    intro vs H1 Z1 Sq S1 oe1 ow1 d1 mv st1 ok1
    simp only [bnd_ok] at sat
    match hp : putN [(i, oi), (j, oj)] xs E1, sat with
    | none, sat => exact sat.elim
    | some E2, sat =>
      obtain ⟨Z', S', h1, h2, h3, h4, h5⟩ := putN_run (kp := kp) oe1 ow1 d1 ok1 hp hk
      have sat2 : SatS X.K cl W kp σ H Z S D (some (.ok .nx E2)) := sat
      match vs, h5, h1, h2 with
      | [v, w], _, h1, h2 => exact ⟨v, w, rfl, sat2 _ H1 Z' S' h1 h2 (st1.trans h3) h4⟩
theorem is_par3 (i j l : Nat) (oi oj ol : Bool) {x y z : Str} {a b c : Expr} {ts : Ev (List T)} {ms : List (Option Nat)} {px py pz pt : Pos} {kt k2 pt2} (hc : X.calm = true) (hN : X.N.Nodup) (ha : IM X cl [a, b, c] ms ts) (hi : X.N[i]? = some x := by rfl) (hj : X.N[j]? = some y := by rfl) (hl : X.N[l]? = some z := by rfl)
    (hij : i ≠ j := by decide) (hil : i ≠ l := by decide) (hjl : j ≠ l := by decide)
    (hx : X.env.scope.names.lookup x = some .local := by rfl) (hy : X.env.scope.names.lookup y = some .local := by rfl) (hz : X.env.scope.names.lookup z = some .local := by rfl) (hki : kp i = false := by rfl) (hkj : kp j = false := by rfl) (hkl : kp l = false := by rfl)
    (hw : swappedStores [.Tuple [.Name x px, .Name y py, .Name z pz] kt pt] (.Tuple [a, b, c] k2 pt2) X.env = pure (some [x, y, z]) := by rfl)
    (hs : swapsWithSole [.Tuple [.Name x px, .Name y py, .Name z pz] kt pt] (.Tuple [a, b, c] k2 pt2) pos.line X.env = pure false := by rfl) :
    IS X cl kp (.Assign [.Tuple [.Name x px, .Name y py, .Name z pz] kt pt] (.Tuple [a, b, c] k2 pt2) pos) (sPar [(i, oi), (j, oj), (l, ol)] ts) := by
  refine ⟨fun W tk => ?_⟩
  obtain ⟨ta, pa, q⟩ := ha.run W tk
  refine ⟨_, ps_par3 hc hN hi hj hl hij hil hjl hx hy hz pa hw hs, fun E σ H Z S D oe ok sat => ?_⟩
  have hk : ∀ p ∈ [(i, oi), (j, oj), (l, ol)], kp p.1 = false := by
    intro p hp
    simp only [List.mem_cons, List.not_mem_nil, or_false] at hp
    rcases hp with rfl | rfl | rfl
    · exact hki
    · exact hkj
    · exact hkl
  refine q E σ H Z S _ oe ok ?_
  unfold sPar at sat
  match hE : ts E, sat with
  | none, sat => exact sat.elim
  | some (.ex x E1), sat =>
    intro c d H' Z' S' a b s o
    exact (sat : SatXs X.K cl W kp σ H Z S x E1) c d σ H' Z' S' a .refl b s o
  | some (.ok xs E1), sat =>
    intro vs H1 Z1 Sq S1 oe1 ow1 d1 mv st1 ok1
    simp only [bnd_ok] at sat
    match hp : putN [(i, oi), (j, oj), (l, ol)] xs E1, sat with
    | none, sat => exact sat.elim
    | some E2, sat =>
      obtain ⟨Z', S', h1, h2, h3, h4, h5⟩ := putN_run (kp := kp) oe1 ow1 d1 ok1 hp hk
      have sat2 : SatS X.K cl W kp σ H Z S D (some (.ok .nx E2)) := sat
      match vs, h5, h1, h2 with
      | [v, w, u], _, h1, h2 => exact ⟨v, w, u, rfl, sat2 _ H1 Z' S' h1 h2 (st1.trans h3) h4⟩
end

/-! ### a def, as it is called -/
structure Cal (P : Program) (w : World) (K : PySem.W.Frag) (mg : Str → Option Value) (base : Heap) (cl : Str → Addr) (x : Str) (k : Nat) (ps : List Str) (F : List T → Option (Out T)) : Prop where
  ex : ∃ f fd, mg x = some (.ref f) ∧ PySem.W.keepIn K (.ref f) = true ∧ Binds K fd ps [] ∧ FnV P w K mg base cl k f fd ps F
section
variable {X : Cx} {cl : Str → Addr} {pos : Pos} {k j : Nat} {e : Expr} {es : List Expr} {ms : List (Option Nat)} {ts : Ev (List T)}
theorem iCall {x : Str} {p : Pos} {ps : List Str} {F : List T → Option (Out T)} (c : Cal X.prog X.w X.K X.mg X.base cl x j ps F) (hr : Room k X.A) (hg : X.A.guards = some []) (ha : IM X cl (e :: es) ms ts) (hj : j ≤ k := by decide) (hn : ms.length = ps.length := by rfl) (hgl : Gl X x := by rfl)
    (hdb : (x == ("__debug__" : Str)) = false := by decide) (he : starEach (e :: es) X.env = (false, eval e X.env) :: starEach es X.env := by rfl) (hpl : (backTo pos (starEach es X.env)).any (·.1) = false := by rfl) :
    IE X cl (.Call (.Name x p) (e :: es) [] pos) (eFn F ms ts) := by
  obtain ⟨f, fd, hm, hk, hb, hF⟩ := c.ex
  exact ie_call hF (hr.mono hj) hg hb hm hk ha hn hgl hdb he hpl
theorem iCall0 {x : Str} {p : Pos} {ps : List Str} {F : List T → Option (Out T)} (c : Cal X.prog X.w X.K X.mg X.base cl x j ps F) (hr : Room k X.A) (hg : X.A.guards = some []) (hj : j ≤ k := by decide) (hn : ps.length = 0 := by rfl) (hgl : Gl X x := by rfl)
    (hdb : (x == ("__debug__" : Str)) = false := by decide) : IE X cl (.Call (.Name x p) [] [] pos) (eFn F [] mNil) := by
  obtain ⟨f, fd, hm, hk, hb, hF⟩ := c.ex
  exact ie_call0 hF (hr.mono hj) hg hb hm hk hn hgl hdb
end
end VL

namespace VL
open PySem PySem.Spec PyProof.Rows L2
theorem room_caller {k : Nat} (h : Room k callerA) : callerA.guards = some [] := rfl
/-- the law's promise at the heap behind the top -/
theorem law_callV {P : Program} {w : World} {K : PySem.W.Frag} {mg mb : Str → Option Value} {cl : Str → Addr} {k : Nat} {fa a : Addr} {fd : FuncData} {x : Str} {F : List T → Option (Out T)} {s₁ : Shared} {vs : List Value} {ns : List Int}
    (KX : K.In s₁.heap) (hns : s₁.heap.Ns mainGlobals mg) (hb : s₁.heap.Ns builtinsNs mb) (hbb : ∀ x : Str, x ≠ "__name__" → mb x = bootBuiltins x) (hlim : s₁.heap.NoLimit) (hsy : ∃ m, s₁.heap.Ns sysModules m) (hg : s₁.gens = #[])
    (ha : s₁.heap.get? a = some { cls := .type "list", data := .seq vs.toArray }) (hi : IntsAre vs ns) (hl : ns.length ≤ sizeLine) (hr : Room k callerA)
    (hF : ∀ base : Heap, K.In base → base.Ns mainGlobals mg → (∃ o, base.get? sysModules = some o) → FnV P w K mg base cl k fa fd [x] F) (hbind : ∀ (s : Shared) (u : Value), BindsTo s fd ⟨[u], []⟩ [(x, u)])
    (hsp : ∃ E, F [.fz (.scr ns)] = some (.ok (.fz (.bl true)) E)) :
    codeAny (model P w) callerA (.call (.ref fa) ⟨[.ref a], []⟩) (fun r s' => r = .ok (.ret (.bool true)) ∧ OldK s₁.heap s'.heap ∧ s'.os = s₁.os ∧ AllBare s'.gens) s₁ := by
  have rv := vals_ints hi
  have lenV := hi.length
  have core : ∀ (H : Hp) (Z : PA1), (∀ a, Z a → H a ≠ none) → Only H → Rp K cl H Z (.scr ns) (.ref a) → HOk P w H s₁.heap → (∀ b, H b ≠ none → b = a) → (H a ≠ none → K.lookup a = none) →
      codeAny (model P w) callerA (.call (.ref fa) ⟨[.ref a], []⟩) (fun r s' => r = .ok (.ret (.bool true)) ∧ OldK s₁.heap s'.heap ∧ s'.os = s₁.os ∧ AllBare s'.gens) s₁ := by
    intro H Z hz hO hS hok hA hK
    have base_of : ∀ {b : Addr} {o : Obj}, s₁.heap.get? b = some o → H b = none → (hidT s₁.heap H).get? b = some o := fun e n => hidT_get e n
    have noA : ∀ {b : Addr} {o : Obj} {es : Array DictEntry} {ep : Nat}, s₁.heap.get? b = some o → o.data = .dict es ep → H b = none := fun {b o es ep} e d => by
      cases q : H b with
      | none => rfl
      | some u =>
        have e' : b = a := hA b (by rw [q]; simp)
        subst e'
        rw [ha] at e; cases e
        have d' : Data.seq vs.toArray _ = Data.dict es ep := d
        cases d'
    have nsK : ∀ {b : Addr} {m : Str → Option Value}, s₁.heap.Ns b m → (hidT s₁.heap H).Ns b m := fun {b m} ⟨o, es, ep, e, d, r⟩ => ⟨o, es, ep, base_of e (noA e d), d, r⟩
    have hKb : K.In (hidT s₁.heap H) := fun b o e => base_of (KX b o e) (by
      cases q : H b with
      | none => rfl
      | some u =>
        have e' : b = a := hA b (by rw [q]; simp)
        subst e'
        rw [hK (by rw [q]; simp)] at e; cases e)
    have hM : Mod K mg (hidT s₁.heap H) := ⟨hKb, nsK hns, ⟨mb, nsK hb, hbb⟩, let ⟨mc, h1, h2⟩ := hlim; ⟨mc, nsK h1, h2⟩⟩
    have e0 : Env0 P w K mg (hidT s₁.heap H) callerA [] s₁ H := ⟨rfl, hM, fun b o e => of_hidT e, Nat.le_of_eq (hidT_size _ _), trivial, fun b hb => absurd (show b ∈ ([] : List Addr) from hb) (by simp), hok, .of_eq hg⟩
    have hsy' : ∃ o, (hidT s₁.heap H).get? sysModules = some o := let ⟨m, o, es, ep, e, d, _⟩ := hsy; ⟨o, base_of e (noA e d)⟩
    obtain ⟨EE, hE⟩ := hsp
    have sp : SpF K cl ([x] : List Str).length F [.ref a] H (fun v _ => v = .bl true) (fun _ _ _ => False) := by
      refine ⟨rfl, [.fz (.scr ns)], Z, Emp, .cons (S1 := Emp) (S2 := Emp) (.fz hS) .nil (fun _ z => z) (fun _ z => z) fun _ z _ => z, ⟨fun _ z => z.elim, fun _ z => z.elim, hz⟩, ?_⟩
      rw [hE]
      intro v H' Z' Sr S' _ ow _ _ _
      cases ow with
      | fz rp => cases rp; rfl
    refine codeAny_mono ((hF _ hKb (nsK hns) hsy').run callerA [] s₁ H ⟨[.ref a], []⟩ [.ref a] [.ref a] _ _ hr rfl e0 (hbind s₁ (.ref a)) (.cons rfl .nil) sp) fun r s' h => ?_
    cases r with
    | error e =>
      obtain ⟨_, _, _, _, _, _, _, _, _, _, _, _, q⟩ := h
      exact q.elim
    | ok fl =>
      cases fl with
      | next => exact False.elim h
      | brk => exact False.elim h
      | cont => exact False.elim h
      | ret u =>
        obtain ⟨v, H', os, bare, un, hok', r', q⟩ := h
        have q' : v = .bl true := q
        subst q'
        obtain rfl : u = Value.bool true := r'
        refine ⟨rfl, OldK.of_keep fun b o e => ?_, os, bare⟩
        cases q : H b with
        | none => exact un.keep b o e q (by intro z; exact absurd (show b ∈ ([] : List Addr) from z) (by simp)) (by simp)
        | some u =>
          rcases hO b with z | ⟨ob, xs, z⟩
          · rw [q] at z; cases z
          · have z2 := un.frzs b ob _ z
            obtain ⟨e1, _⟩ := hok b _ z
            obtain ⟨e2, _⟩ := hok' b _ z2
            rw [e] at e1; cases e1
            exact e2
  cases hk : K.lookup a with
  | some o =>
    have e := KX a o hk
    rw [ha] at e
    cases e
    refine core (fun _ => none) Emp (fun _ z => z.elim) (fun _ => .inl rfl) (.scr (.inl ⟨_, vs.toArray, _, hk, rfl, rfl, rfl, by rw [List.size_toArray, lenV]; exact hl, by simpa using rv⟩)) (fun b u z => by have z' : (none : Option HO) = some u := z; cases z') (fun b z => absurd rfl z) fun z => absurd rfl z
  | none =>
    refine core (fun b => if b = a then some (.frz { cls := .type "list", data := .seq vs.toArray } (.lst (ns.map V.int))) else none) (fun b => b = a) (fun b z => by subst z; simp) (fun b => ?_) (.scr (.inr ⟨rfl, { cls := .type "list", data := .seq vs.toArray }, if_pos rfl⟩)) (fun b u z => ?_) (fun b z => ?_) fun _ => hk
    · by_cases hb : b = a
      · exact .inr ⟨_, _, if_pos hb⟩
      · exact .inl (if_neg hb)
    · by_cases hb : b = a
      · have z' := (if_pos hb).symm.trans z
        cases z'
        subst hb
        exact ⟨ha, by rw [List.length_map]; exact hl, vs, _, rv, ha⟩
      · have z' := (if_neg hb).symm.trans z
        cases z'
    · by_cases hb : b = a
      · exact hb
      · exact absurd (if_neg hb) z
theorem walk_ofV {l : PySem.W.OpenLaw} {n k : Nat} {q : Program} {loose : List Str} {XP : (Str → Option Value) → Heap → Prop} {YP : World → Heap → Prop} {d : DefRec} {x : Str}
    (hn : l.most = some n) (hn2 : n ≤ sizeLine) (hdf : d.params.defaults = []) (hr : Room k callerA) (him : PyProof.Rows.importsNone q = true)
    (F : ∀ (w : World) (mg : Str → Option Value) (fa : Addr) (h : Heap), YP w h → h.Ns mainGlobals mg → mg d.name = some (.ref fa) →
      ∃ (K : PySem.W.Frag) (cl : Str → Addr) (fd : FuncData) (F : List T → Option (Out T)), K.In h ∧ (∀ (s : Shared) (u : Value), BindsTo s fd ⟨[u], []⟩ [(x, u)]) ∧
        (∀ ns : List Int, ns.length ≤ n → (∀ z ∈ ns, Builtin.Int.intBits z ≤ 1048576) → ∃ E, F [.fz (.scr ns)] = some (.ok (.fz (.bl true)) E)) ∧
        ∀ base : Heap, K.In base → base.Ns mainGlobals mg → (∃ o, base.get? sysModules = some o) → FnV l.prog w K mg base cl k fa fd [x] F) :
    PySem.W.WalkO q loose XP YP l.row.toRowW d [] (fun f vs => PySem.call f vs) := by
  refine Att.attach_callB hn hdf fun w s₀ s₁ mg mb fa o pm cd doc a vs ns G Y ho hd hcd hmg hobj hints hlen hbits hg => ?_
  obtain ⟨K, cl, fd, FF, KX, hb, hsp, hF⟩ := F w mg fa _ Y G.T.g hmg
  exact law_callV KX G.T.g G.T.b G.T.builtins G.T.nolimit (let ⟨m, e, _⟩ := (G.T.seer him).mods; ⟨m, e⟩) hg hobj hints (Nat.le_trans hlen hn2) hr hF hb (hsp ns hlen hbits)
end VL

namespace VL
open PySem PySem.Spec PyProof.Rows L2
/-! ### the evaluators, applied -/
variable {α : Type} (E : En)
@[simp] theorem frzL_fz' (ds : List D) : frzL (ds.map T.fz) = ds := frzL_fz ds
@[simp] theorem frzL_fz2 {β : Type} (f : β → D) (ds : List β) : frzL (ds.map fun x => T.fz (f x)) = ds.map f := by
  have := frzL_fz (ds.map f)
  rw [List.map_map] at this
  exact this
@[simp] theorem eC_a (d : D) : eC d E = some (.ok (.fz d) E) := rfl
@[simp] theorem eVar_a (i : Nat) : eVar i E = match E[i]? with | some (some (.fz d)) => some (.ok (.fz d) E) | _ => none := rfl
@[simp] theorem eFrz_a (i : Nat) : eFrz i E = match E[i]? with | some (some t) => some (.ok (.fz (frz t)) (E.set i (some (.fz (frz t))))) | _ => none := rfl
@[simp] theorem eMov_a (i : Nat) : eMov i E = match E[i]? with | some (some t) => some (.ok t (E.set i none)) | _ => none := rfl
@[simp] theorem eBin_a (g : D → D → Option T) (ta tb : Ev T) : eBin g ta tb E = bnd (ta E) fun x E1 => bnd (tb E1) fun y E2 => opt (g (frz x) (frz y)) E2 := rfl
@[simp] theorem bBin_a (g : D → D → Option T) (ta tb : Ev T) : bBin g ta tb E = bnd (eBin g ta tb E) fun x E1 => opt (asB (frz x)) E1 := rfl
@[simp] theorem bVal_a (t : Ev T) : bVal t E = bnd (t E) fun x E1 => opt (asB (frz x)) E1 := rfl
@[simp] theorem asB_bl (b : Bool) : asB (.bl b) = some b := rfl
@[simp] theorem eChn_a (g g' : D → D → Option T) (ta tb tc : Ev T) : eChn g g' ta tb tc E = bnd (ta E) fun x E1 => bnd (tb E1) fun y E2 => bnd (opt (g (frz x) (frz y)) E2) fun z E3 => match asB (frz z) with
  | some true => bnd (tc E3) fun u E4 => opt (g' (frz y) (frz u)) E4
  | some false => some (.ok (.fz (.bl false)) E3)
  | none => none := rfl
@[simp] theorem eUn_a (g : D → Option T) (ta : Ev T) : eUn g ta E = bnd (ta E) fun x E1 => opt (g (frz x)) E1 := rfl
@[simp] theorem eCall_a (g : List D → Option T) (ts : Ev (List D)) : eCall g ts E = bnd (ts E) fun xs E1 => opt (g xs) E1 := rfl
@[simp] theorem aNil_a : aNil E = some (.ok [] E) := rfl
@[simp] theorem aCons_a (t : Ev T) (ts : Ev (List D)) : aCons t ts E = bnd (t E) fun x E1 => bnd (ts E1) fun xs E2 => some (.ok (frz x :: xs) E2) := rfl
@[simp] theorem mNil_a : mNil E = some (.ok [] E) := rfl
@[simp] theorem msNil_a : msNil E = some (.ok [] E) := rfl
@[simp] theorem mOwn_a (t : Ev T) (ts : Ev (List T)) : mOwn t ts E = bnd (t E) fun x E1 => bnd (ts E1) fun xs E2 => some (.ok (x :: xs) E2) := rfl
@[simp] theorem mVal_a (t : Ev T) (ts : Ev (List T)) : mVal t ts E = bnd (t E) fun x E1 => bnd (ts E1) fun xs E2 => some (.ok (.fz (frz x) :: xs) E2) := rfl
@[simp] theorem mLate_a (i : Nat) (ts : Ev (List T)) : mLate i ts E = match E[i]? with
  | some (some _) => bnd (ts E) fun xs E1 => match E1[i]? with
    | some (some t) => some (.ok (t :: xs) (E1.set i none))
    | _ => none
  | _ => none := rfl
@[simp] theorem eFn_a (F : List T → Option (Out T)) (ms : List (Option Nat)) (t : Ev (List T)) : eFn F ms t E = bnd (t E) fun ts E1 => match F ts with
  | none => none
  | some (.ok r P) => some (.ok r (putB ms P E1))
  | some (.ex x P) => some (.ex x (putB ms P E1)) := rfl
@[simp] theorem putB_nil (P E : En) : putB [] P E = E := by cases P <;> rfl
@[simp] theorem putB_no (ms : List (Option Nat)) (p : Option T) (P E : En) : putB (none :: ms) (p :: P) E = putB ms P E := rfl
@[simp] theorem putB_so (i : Nat) (ms : List (Option Nat)) (p : Option T) (P E : En) : putB (some i :: ms) (p :: P) E = putB ms P (E.set i p) := rfl
@[simp] theorem eTup_a (ts : Ev (List T)) : eTup ts E = bnd (ts E) fun xs E1 => some (.ok (.tup xs) E1) := rfl
@[simp] theorem eLst_a (ts : Ev (List T)) : eLst ts E = bnd (ts E) fun xs E1 => some (.ok (.lst xs) E1) := rfl
@[simp] theorem eDnew_a : eDnew E = some (.ok (.dct []) E) := rfl
@[simp] theorem eDnewT_a : eDnewT E = some (.ok (.dcT []) E) := rfl
@[simp] theorem eDct_a (t : Ev (List (Key × T))) : eDct t E = bnd (t E) fun ks E1 => if (ks.map (·.1)).Nodup ∧ ks.length ≤ 15 then some (.ok (.dct ks) E1) else none := rfl
@[simp] theorem qNil_a : qNil E = some (.ok [] E) := rfl
@[simp] theorem qCons_a (tk tv : Ev T) (r : Ev (List (Key × T))) : qCons tk tv r E = bnd (tk E) fun x E1 => match keyD (frz x) with
  | some k => bnd (tv E1) fun v E2 => bnd (r E2) fun ks E3 => some (.ok ((k, v) :: ks) E3)
  | none => none := rfl
@[simp] theorem keyD_str (x : Str) : keyD (.str x) = some (.inr x) := rfl
@[simp] theorem keyD_int (i : Int) : keyD (.int i) = some (.inl i) := rfl
@[simp] theorem eIf_a (c : Ev Bool) (ta tb : Ev T) : eIf c ta tb E = bnd (c E) fun b E1 => if b = true then ta E1 else tb E1 := rfl
@[simp] theorem eAnd_a (ta tb : Ev T) : eAnd ta tb E = bnd (ta E) fun x E1 => match asB (frz x) with
  | some true => tb E1
  | some false => some (.ok (.fz (.bl false)) E1)
  | none => none := rfl
@[simp] theorem eOr_a (ta tb : Ev T) : eOr ta tb E = bnd (ta E) fun x E1 => match asB (frz x) with
  | some true => some (.ok (.fz (.bl true)) E1)
  | some false => tb E1
  | none => none := rfl
@[simp] theorem eNot_a (ta : Ev T) : eNot ta E = bnd (ta E) fun x E1 => match asB (frz x) with
  | some b => some (.ok (.fz (.bl (!b))) E1)
  | none => none := rfl
@[simp] theorem oNo_a : oNo E = some (.ok none E) := rfl
@[simp] theorem oSo_a (t : Ev T) : oSo t E = bnd (t E) fun x E1 => match frz x with | .int i => some (.ok (some i) E1) | _ => none := rfl
@[simp] theorem eSl_a (g : D → Option Int → Option Int → Option T) (t : Ev T) (tl th : Ev (Option Int)) : eSl g t tl th E = bnd (t E) fun x E1 => bnd (tl E1) fun lo E2 => bnd (th E2) fun hi E3 => opt (g (frz x) lo hi) E3 := rfl
@[simp] theorem ePeek_a (t : Ev T) : ePeek t E = match t (frzE E) with
  | some (.ok r _) => if clT r = true then some (.ok r E) else none
  | _ => none := rfl
@[simp] theorem bPeek_a (t : Ev Bool) : bPeek t E = match t (frzE E) with
  | some (.ok b _) => some (.ok b E)
  | _ => none := rfl
@[simp] theorem mPeek_a (t : Ev (List T)) : mPeek t E = match t (frzE E) with
  | some (.ok r _) => if clL r = true then some (.ok r E) else none
  | _ => none := rfl
@[simp] theorem sid_a (i : Nat) (t : Ev α) : sid i t E = match E[i]? with
  | some (some root) => match t (E.set i none) with
    | some (.ok y E2) => some (.ok y (E2.set i (some root)))
    | some (.ex x E2) => some (.ex x (E2.set i (some root)))
    | none => none
  | _ => none := rfl
@[simp] theorem bTru_a (t : Ev T) : bTru t E = bnd (t E) fun x E1 => opt (truD (frz x)) E1 := rfl
@[simp] theorem truD_bl (b : Bool) : truD (.bl b) = some b := rfl
@[simp] theorem truD_int (i : Int) : truD (.int i) = some (i != 0) := rfl
@[simp] theorem truD_non : truD .non = some false := rfl
@[simp] theorem truD_lst (xs : List D) : truD (.lst xs) = some (!xs.isEmpty) := rfl
@[simp] theorem truD_tup (xs : List D) : truD (.tup xs) = some (!xs.isEmpty) := rfl
@[simp] theorem bNot_a (t : Ev Bool) : bNot t E = bnd (t E) fun b E1 => some (.ok (!b) E1) := rfl
@[simp] theorem bAnd_a (t u : Ev Bool) : bAnd t u E = bnd (t E) fun c E1 => if c = true then u E1 else some (.ok false E1) := rfl
@[simp] theorem bOr_a (t u : Ev Bool) : bOr t u E = bnd (t E) fun c E1 => if c = true then some (.ok true E1) else u E1 := rfl
@[simp] theorem eLc_a (ti : Ev (List D)) (g : T → En → Option En) (tb : Ev Bool) (te : Ev T) (vs : List Nat) : eLc ti g tb te vs E = bnd (ti E) fun ds E1 =>
  if ds.length ≤ 16777216 then match lcE g tb te vs ds (clr E1 vs) with
    | some (rs, E2) => some (.ok (.lst rs) (rst E1 E2 vs))
    | none => none
  else none := rfl
@[simp] theorem clr_nil : clr E [] = E := rfl
@[simp] theorem clr_cons (v : Nat) (vs : List Nat) : clr E (v :: vs) = (clr E vs).set v none := rfl
@[simp] theorem rst_nil (E2 : En) : rst E E2 [] = E2 := rfl
@[simp] theorem rst_cons (E2 : En) (v : Nat) (vs : List Nat) : rst E E2 (v :: vs) = match E[v]? with
    | some (some (.fz d)) => (rst E E2 vs).set v (some (.fz d))
    | _ => rst E E2 vs := by
  rw [rst]
  first | done | (split <;> simp_all)
@[simp] theorem iAny_a (t : Ev T) : iAny t E = bnd (t E) fun r E1 => match frz r with
  | .lst ds => some (.ok ds E1)
  | .tup ds => some (.ok ds E1)
  | .str z => some (.ok (strD z) E1)
  | _ => none := rfl
@[simp] theorem iRange1_a (ts : Ev (List D)) : iRange1 ts E = bnd (ts E) fun xs E1 => match xs with
  | [.int j] => if -(2 ^ 62) ≤ j ∧ j < 2 ^ 62 then some (.ok (rngD 0 j.toNat) E1) else none
  | _ => none := rfl
@[simp] theorem iRange2_a (ts : Ev (List D)) : iRange2 ts E = bnd (ts E) fun xs E1 => match xs with
  | [.int i, .int j] => if (-(2 ^ 62) ≤ i ∧ i < 2 ^ 62) ∧ (-(2 ^ 62) ≤ j ∧ j < 2 ^ 62) then some (.ok (rngD i (j - i).toNat) E1) else none
  | _ => none := rfl
@[simp] theorem gSet_a (i : Nat) (t : T) : gSet i t E = some (E.set i (some (.fz (frz t)))) := rfl
@[simp] theorem gOwn_a (i : Nat) (t : T) : gOwn i t E = some (E.set i (some t)) := rfl
@[simp] theorem gNil_a : gNil' [] E = some E := rfl
@[simp] theorem gCons_a (g : T → En → Option En) (gs : List T → En → Option En) (t : T) (r : List T) : gCons' g gs (t :: r) E = match g t E with | none => none | some E1 => gs r E1 := rfl
@[simp] theorem gTup_a (n : Nat) (gs : List T → En → Option En) (ts : List T) : gTup' n gs (.tup ts) E = if ts.length = n then gs ts E else none := rfl
@[simp] theorem gTup_b (n : Nat) (gs : List T → En → Option En) (ds : List D) : gTup' n gs (.fz (.tup ds)) E = if ds.length = n then gs (ds.map .fz) E else none := rfl
@[simp] theorem sNx_a : sNx E = some (.ok .nx E) := rfl
@[simp] theorem sBk_a : sBk E = some (.ok .bk E) := rfl
@[simp] theorem sCt_a : sCt E = some (.ok .ct E) := rfl
@[simp] theorem sSeq_a (t u : Ev Fl) : sSeq t u E = match t E with
  | some (.ok .nx E1) => u E1
  | o => o := rfl
@[simp] theorem sRet_a (te : Ev T) : sRet te E = bnd (te E) fun r E1 => some (.ok (.ret r) E1) := rfl
@[simp] theorem sRetN_a : sRetN E = some (.ok (.ret (.fz .non)) E) := rfl
@[simp] theorem sDrop_a (te : Ev T) : sDrop te E = bnd (te E) fun _ E1 => some (.ok .nx E1) := rfl
@[simp] theorem sIf_a (c : Ev Bool) (t u : Ev Fl) : sIf c t u E = bnd (c E) fun b E1 => if b = true then t E1 else u E1 := rfl
@[simp] theorem sOwn_a (i : Nat) (te : Ev T) : sOwn i te E = bnd (te E) fun r E1 => some (.ok .nx (E1.set i (some r))) := rfl
@[simp] theorem sSet_a (i : Nat) (te : Ev T) : sSet i te E = bnd (te E) fun r E1 => some (.ok .nx (E1.set i (some (.fz (frz r))))) := rfl
@[simp] theorem sAsg_a (te : Ev T) (g : T → En → Option En) : sAsg te g E = bnd (te E) fun r E1 => match g r E1 with | none => none | some E2 => some (.ok .nx E2) := rfl
@[simp] theorem sFor_a (ti : Ev (List D)) (g : T → En → Option En) (tb : Ev Fl) : sFor ti g tb E = bnd (ti E) fun ds E1 => forE g tb ds E1 := rfl
@[simp] theorem sPar_a (is : List (Nat × Bool)) (ts : Ev (List T)) : sPar is ts E = bnd (ts E) fun xs E1 => match putN is xs E1 with
  | some E2 => some (.ok .nx E2)
  | none => none := rfl
@[simp] theorem putN_nil : putN [] [] E = some E := rfl
@[simp] theorem putN_cons (i : Nat) (o : Bool) (r : List (Nat × Bool)) (t : T) (ts : List T) : putN ((i, o) :: r) (t :: ts) E = putN r ts (E.set i (some (if o = true then t else .fz (frz t)))) := rfl
@[simp] theorem eMv_a (n : String) (g : D → List D → Option T) (to : Ev T) (ts : Ev (List D)) : eMv n g to ts E = bnd (to E) fun x E1 => if tyD n (frz x) = true then bnd (ts E1) fun xs E2 => opt (g (frz x) xs) E2 else none := rfl
@[simp] theorem tyD_str (z : Str) : tyD "str" (.str z) = true := rfl
@[simp] theorem tyD_lst (z : List D) : tyD "list" (.lst z) = true := rfl
@[simp] theorem pName_a (i : Nat) : pName i E = match E[i]? with
  | some (some _) => some (.ok ⟨i, []⟩ E)
  | _ => none := rfl
@[simp] theorem pIx_a (i : Nat) (tp : Ev Loc) (ti : Ev T) : pIx i tp ti E = bnd (tp E) fun l E1 => if l.i = i then match getE E1 l with
  | some u => bnd (ti E1) fun y E2 => match kidIx u (frz y) with
    | some n => match (kids u)[n]? with
      | some _ => some (.ok ⟨l.i, l.p ++ [n]⟩ E2)
      | none => none
    | none => none
  | none => none else none := rfl
@[simp] theorem gPut_a (i : Nat) (tp : Ev Loc) (ti : Ev T) (t : T) : gPut i tp ti t E = match tp E with
  | some (.ok l E1) => if l.i = i then match getE E1 l with
    | some u => match ti E1 with
      | some (.ok y E2) => match putKid u (frz y) t with
        | some u' => some (setE E2 l u')
        | none => none
      | _ => none
    | none => none else none
  | _ => none := rfl
@[simp] theorem eMt_a (i : Nat) (n : String) (g : T → List T → Option (T × T)) (tp : Ev Loc) (ts : Ev (List T)) : eMt i n g tp ts E = bnd (tp E) fun l E1 => if l.i = i then match getE E1 l with
  | some u => if kindT n u = true then bnd (ts E1) fun xs E2 => match g u xs with
    | some (r, u') => some (.ok r (setE E2 l u'))
    | none => none else none
  | none => none else none := rfl
@[simp] theorem kindT_lst (ts : List T) : kindT "list" (.lst ts) = true := rfl
@[simp] theorem kindT_dct (ts : List (Key × T)) : kindT "dict" (.dct ts) = true := rfl
@[simp] theorem kindT_dcT (ts : List (List Key × T)) : kindT "dict" (.dcT ts) = true := rfl
@[simp] theorem runF_a (N : List Str) (n : Nat) (kp : Keep) (t : Ev Fl) (ts : List T) : runF N n kp t ts = match t (startE N ts) with
  | some (.ok (.ret r) E) => some (.ok r (maskE kp 0 n E))
  | some (.ok .nx E) => some (.ok (.fz .non) (maskE kp 0 n E))
  | some (.ex x E) => some (.ex x (maskE kp 0 n E))
  | _ => none := rfl
@[simp] theorem startE_a (N : List Str) (ts : List T) : startE N ts = ts.map some ++ List.replicate (N.length - ts.length) none := rfl
/-! ### operations -/
@[simp] theorem addD_i (i j : Int) : addD (.int i) (.int j) = some (.fz (.int (i + j))) := rfl
@[simp] theorem subD_i (i j : Int) : subD (.int i) (.int j) = some (.fz (.int (i - j))) := rfl
@[simp] theorem mulD_i (i j : Int) : mulD (.int i) (.int j) = if CMul i j then some (.fz (.int (i * j))) else none := rfl
@[simp] theorem mulD_s (x : Str) (j : Int) : mulD (.str x) (.int j) = if mulOkS x j then some (.fz (.str (Txt.mul x j))) else none := rfl
@[simp] theorem intD_i (C : Int → Int → Prop) [∀ i j, Decidable (C i j)] (g : Int → Int → Int) (i j : Int) : intD C g (.int i) (.int j) = if C i j then some (.fz (.int (g i j))) else none := rfl
@[simp] theorem negD_i (i : Int) : negD (.int i) = some (.fz (.int (-i))) := rfl
@[simp] theorem cmpD_i (f : Int → Int → Bool) (i j : Int) : cmpD f (.int i) (.int j) = some (.fz (.bl (f i j))) := rfl
@[simp] theorem isND_n (x : D) : isND x .non = some (.fz (.bl (isNB x))) := rfl
@[simp] theorem notND_n (x : D) : notND x .non = some (.fz (.bl (!isNB x))) := rfl
@[simp] theorem absD_i (i : Int) : absD [.int i] = some (.fz (.int (if i < 0 then -i else i))) := rfl
@[simp] theorem lenD_l (xs : List D) : lenD [.lst xs] = some (.fz (.int xs.length)) := rfl
@[simp] theorem lenD_t (xs : List D) : lenD [.tup xs] = some (.fz (.int xs.length)) := rfl
@[simp] theorem lenD_s (x : Str) : lenD [.str x] = if x.length ≤ sizeLine then some (.fz (.int x.length)) else none := rfl
@[simp] theorem listD_l (xs : List D) : listD [.lst xs] = some (.lst (xs.map .fz)) := rfl
@[simp] theorem listD_t (xs : List D) : listD [.tup xs] = some (.lst (xs.map .fz)) := rfl
@[simp] theorem tupleD_l (xs : List D) : tupleD [.lst xs] = some (.tup (xs.map .fz)) := rfl
@[simp] theorem tupleD_t (xs : List D) : tupleD [.tup xs] = some (.fz (.tup xs)) := rfl
@[simp] theorem eqA_u (x y : D) : eqA x y = (eqAD x y).map fun b => .fz (.bl b) := rfl
@[simp] theorem neA_u (x y : D) : neA x y = (eqAD x y).map fun b => .fz (.bl (!b)) := rfl
@[simp] theorem eqAD_s (x y : Str) : eqAD (.str x) (.str y) = some (x == y) := rfl
@[simp] theorem eqAD_i (x y : Int) : eqAD (.int x) (.int y) = some (x == y) := rfl
@[simp] theorem eqAD_b (x y : Bool) : eqAD (.bl x) (.bl y) = some (x == y) := rfl
@[simp] theorem inA_u (neg : Bool) (x y : D) : inA neg x y = (inB x y).map fun b => .fz (.bl (neg ^^ b)) := rfl
theorem ixA_lst (xs : List D) (i : Int) : ixA (.lst xs) (.int i) = (L2.atI xs i).map .fz := rfl
theorem ixA_tup (xs : List D) (i : Int) : ixA (.tup xs) (.int i) = (L2.atI xs i).map .fz := rfl
theorem ixA_dct (ds : List (Key × D)) (k : Str) : ixA (.dct ds) (.str k) = match findD ds (.inr k) with | some d => some (.fz d) | none => none := by
  unfold ixA; simp only [dgetD, keyD, Option.map_some]
  cases findD ds (.inr k) <;> rfl
theorem ixA_dcti (ds : List (Key × D)) (k : Int) : ixA (.dct ds) (.int k) = match findD ds (.inl k) with | some d => some (.fz d) | none => none := by
  unfold ixA; simp only [dgetD, keyD, Option.map_some]
  cases findD ds (.inl k) <;> rfl

@[simp] theorem frzL_fz3 {β : Type} (f : β → D) (ds : List β) : frzL (ds.map (T.fz ∘ f)) = ds.map f := frzL_fz2 f ds
@[simp] theorem frzL_take (ts : List T) (n : Nat) : frzL (ts.take n) = (frzL ts).take n := by rw [frzL_map, frzL_map, List.map_take]
@[simp] theorem frzL_drop (ts : List T) (n : Nat) : frzL (ts.drop n) = (frzL ts).drop n := by rw [frzL_map, frzL_map, List.map_drop]
@[simp] theorem frzL_append (ts us : List T) : frzL (ts ++ us) = frzL ts ++ frzL us := by rw [frzL_map, frzL_map, frzL_map, List.map_append]
@[simp] theorem frzL_len (ts : List T) : (frzL ts).length = ts.length := by rw [frzL_map, List.length_map]
theorem atI_some {β : Type} {xs : List β} {i : Int} (h0 : 0 ≤ i) (h1 : i < xs.length) : ∃ x, L2.atI xs i = some x ∧ x ∈ xs := by
  have hn : i.toNat < xs.length := by omega
  refine ⟨xs[i.toNat], ?_, List.getElem_mem hn⟩
  unfold L2.atI L2.ixN
  rw [if_pos h0, if_pos h1]
  simp [hn]
theorem atI_map {β γ : Type} (f : β → γ) (xs : List β) (i : Int) : L2.atI (xs.map f) i = (L2.atI xs i).map f := by
  unfold L2.atI
  rw [List.length_map]
  cases L2.ixN xs.length i <;> simp
theorem toPyL_ints : ∀ ns : List Int, toPyL (ns.map D.int) = some (ns.map PyData.int)
  | [] => rfl
  | n :: ns => by simp [toPyL, toPy, toPyL_ints ns]
theorem lay_ints : ∀ ns : List Int, PyData.canLayAll0 (ns.map PyData.int) = true ∧ PyData.depthAll (ns.map PyData.int) = 0
  | [] => ⟨rfl, rfl⟩
  | n :: ns => by
    obtain ⟨h1, h2⟩ := lay_ints ns
    simp [PyData.canLayAll0, PyData.canLay0, PyData.depthAll, PyData.depth, h1, h2]
theorem toPyL_strs : ∀ ns : List Str, toPyL (ns.map D.str) = some (ns.map PyData.str)
  | [] => rfl
  | n :: ns => by simp [toPyL, toPy, toPyL_strs ns]
theorem lay_strs : ∀ ns : List Str, (∀ z ∈ ns, PyData.strOk z = true) → PyData.canLayAll0 (ns.map PyData.str) = true ∧ PyData.depthAll (ns.map PyData.str) = 0
  | [], _ => ⟨rfl, rfl⟩
  | n :: ns, h => by
    obtain ⟨h1, h2⟩ := lay_strs ns fun z q => h z (by simp [q])
    simp [PyData.canLayAll0, PyData.canLay0, PyData.depthAll, PyData.depth, h1, h2, h n (by simp)]
theorem eqAD_ints_nil (ns : List Int) : eqAD (.lst (ns.map D.int)) (.lst []) = some ns.isEmpty := by
  obtain ⟨h1, h2⟩ := lay_ints ns
  have e : eqAD (.lst (ns.map D.int)) (.lst []) = eqDD (.lst (ns.map D.int)) (.lst []) := rfl
  rw [e]
  unfold eqDD
  simp only [toPy, toPyL_ints, toPyL]
  have c : SeqAt.shaped (.list (ns.map PyData.int)) = true ∧ SeqAt.shaped (.list []) = true := by
    constructor
    · simp [SeqAt.shaped, PyData.canLay0, PyData.depth, h1, h2]
    · decide
  rw [if_pos c]
  cases ns <;> simp [PyData.eqv, PyData.eqvAll]
theorem eqAD_strs_nil (ns : List Str) (h : ∀ z ∈ ns, PyData.strOk z = true) : eqAD (.lst (ns.map D.str)) (.lst []) = some ns.isEmpty := by
  obtain ⟨h1, h2⟩ := lay_strs ns h
  have e : eqAD (.lst (ns.map D.str)) (.lst []) = eqDD (.lst (ns.map D.str)) (.lst []) := rfl
  rw [e]
  unfold eqDD
  simp only [toPy, toPyL_strs, toPyL]
  have c : SeqAt.shaped (.list (ns.map PyData.str)) = true ∧ SeqAt.shaped (.list []) = true := by
    constructor
    · simp [SeqAt.shaped, PyData.canLay0, PyData.depth, h1, h2]
    · decide
  rw [if_pos c]
  cases ns <;> simp [PyData.eqv, PyData.eqvAll]

/-! ### loops -/
theorem forE_inv {g : T → En → Option En} {tb : Ev Fl} (I : Nat → En → Prop) : ∀ (ds : List D) (n : Nat) (E : En), I n E →
    (∀ (i : Nat) (d : D) (E : En), ds[i]? = some d → I (n + i) E → ∃ E1, g (.fz d) E = some E1 ∧ ∃ E2, (tb E1 = some (.ok .nx E2) ∨ tb E1 = some (.ok .ct E2)) ∧ I (n + i + 1) E2) →
    ∃ E', forE g tb ds E = some (.ok .nx E') ∧ I (n + ds.length) E'
  | [], n, E, h, _ => ⟨E, rfl, h⟩
  | d :: ds, n, E, h, step => by
    obtain ⟨E1, h1, E2, h2, h3⟩ := step 0 d E rfl h
    obtain ⟨E', h4, h5⟩ := forE_inv I ds (n + 1) E2 h3 fun i d' E q hI => by
      have := step (i + 1) d' E (by simpa using q) (by rw [show n + (i + 1) = n + 1 + i by omega]; exact hI)
      rw [show n + (i + 1) + 1 = n + 1 + i + 1 by omega] at this
      exact this
    refine ⟨E', ?_, by rw [List.length_cons, show n + (ds.length + 1) = n + 1 + ds.length by omega]; exact h5⟩
    simp only [forE, h1]
    rcases h2 with h2 | h2 <;> rw [h2] <;> exact h4
theorem lcE_inv {g : T → En → Option En} {tb : Ev Bool} {te : Ev T} {vs : List Nat} (I : Nat → List T → En → Prop) : ∀ (ds : List D) (n : Nat) (acc : List T) (E : En), I n acc E →
    (∀ (i : Nat) (d : D) (acc : List T) (E : En), ds[i]? = some d → I (n + i) acc E → ∃ E1, g (.fz d) E = some E1 ∧ ((∃ E2 r E3, tb E1 = some (.ok true E2) ∧ te E2 = some (.ok r E3) ∧ I (n + i + 1) (acc ++ [r]) (clr E3 vs)) ∨ ∃ E2, tb E1 = some (.ok false E2) ∧ I (n + i + 1) acc (clr E2 vs))) →
    ∃ rs E', lcE g tb te vs ds E = some (rs, E') ∧ I (n + ds.length) (acc ++ rs) E'
  | [], n, acc, E, h, _ => ⟨[], E, rfl, by simpa using h⟩
  | d :: ds, n, acc, E, h, step => by
    obtain ⟨E1, h1, h2⟩ := step 0 d acc E rfl h
    have next : ∀ acc' E', I (n + 1) acc' E' → ∃ rs E'', lcE g tb te vs ds E' = some (rs, E'') ∧ I (n + 1 + ds.length) (acc' ++ rs) E'' := fun acc' E' h' => lcE_inv I ds (n + 1) acc' E' h' fun i d' a' E q hI => by
      have := step (i + 1) d' a' E (by simpa using q) (by rw [show n + (i + 1) = n + 1 + i by omega]; exact hI)
      rw [show n + (i + 1) + 1 = n + 1 + i + 1 by omega] at this
      exact this
    have hn : n + (d :: ds).length = n + 1 + ds.length := by rw [List.length_cons]; omega
    rw [hn]
    rcases h2 with ⟨E2, r, E3, a1, a2, a3⟩ | ⟨E2, a1, a2⟩
    · obtain ⟨rs, E'', b1, b2⟩ := next _ _ a3
      exact ⟨r :: rs, E'', by simp only [lcE, h1, a1, a2, b1], by simpa using b2⟩
    · obtain ⟨rs, E'', b1, b2⟩ := next _ _ a2
      exact ⟨rs, E'', by simp only [lcE, h1, a1, b1], b2⟩
/-- a comprehension that changes nothing -/
theorem lcE_pure {v : Nat} {tb : Ev Bool} {te : Ev T} {p : D → Bool} {f : D → T} : ∀ (ds : List D) (E : En), E[v]? = some none →
    (∀ d ∈ ds, tb (E.set v (some (.fz d))) = some (.ok (p d) (E.set v (some (.fz d))))) → (∀ d ∈ ds, p d = true → te (E.set v (some (.fz d))) = some (.ok (f d) (E.set v (some (.fz d))))) →
    lcE (gSet v) tb te [v] ds E = some ((ds.filter p).map f, E)
  | [], E, _, _, _ => rfl
  | d :: ds, E, hv, h1, h2 => by
    have ih := lcE_pure ds E hv (fun d' q => h1 d' (by simp [q])) fun d' q => h2 d' (by simp [q])
    have e0 : (E.set v (some (.fz d))).set v none = E := by rw [List.set_set]; exact set_get hv
    have e1 := h1 d (by simp)
    simp only [lcE, gSet_a, frz, e1]
    cases hp : p d with
    | false => simp only [clr_cons, clr_nil, e0, ih, List.filter_cons, hp]; rfl
    | true =>
      simp only [h2 d (by simp) hp, clr_cons, clr_nil, e0, ih, List.filter_cons, hp]
      rfl
end VL

namespace Gk01
open PySem PySem.Spec PyProof.Rows L2 VL
/-! ### the text -/
def top (i : Nat) : Stmt := PySem.Challenge.pw_lastturn_k01_names_and_constants.main.body.getD i (.Pass ⟨0, 0, 0, 0⟩)
abbrev s_is_name : Stmt := top 11
theorem sc_is_name : FnScope ["value", "letter"] ["value"] (defScope s_is_name) := ⟨rfl, rfl, rfl, by decide +kernel, rfl, by decide +kernel, by decide +kernel⟩
def kp_is_name : Keep := fun i => false
def t_is_name : Ev Fl :=
  (sSeq (sIf (bOr (bNot (bTru (eCall isTyD (aCons (eVar 0) (aCons (eC (.ty "str")) aNil))))) (bNot (bVal (eChn leD leD (eC (.int 1)) (eCall lenD (aCons (eVar 0) aNil)) (eC (.int 8)))))) (sRet (eC (.bl false))) sNx)
  (sRet (eCall allD (aCons (eLc (iAny (eVar 0)) (gSet 1) bYes (eBin (inA false) (eVar 1) (eC (.str "abcdefghijklmnopqrstuvwxyz"))) [1]) aNil))))
def F_is_name : List T → Option (Out T) := runF ["value", "letter"] 1 kp_is_name t_is_name
abbrev s__law_pen : Stmt := top 13
theorem sc__law_pen : FnScope ["_law_script"] ["_law_script"] (defScope s__law_pen) := ⟨rfl, rfl, rfl, by decide +kernel, rfl, by decide +kernel, by decide +kernel⟩
def kp__law_pen : Keep := fun i => false
def t__law_pen : Ev Fl :=
  (sRet (eDct (qCons (eC (.str "cells")) (eCall listD (aCons (eSl slD (eVar 0) oNo (oSo (eC (.int 63)))) aNil)) (qCons (eC (.str "spot")) (eC (.int 0)) (qCons (eC (.str "more")) (eC (.int 0)) qNil)))))
def F__law_pen : List T → Option (Out T) := runF ["_law_script"] 1 kp__law_pen t__law_pen
abbrev s__law_draw : Stmt := top 14
theorem sc__law_draw : FnScope ["_law_pen_here", "_law_many", "_law_spot", "_law_cell", "_law_mix", "_law_digit"] ["_law_pen_here", "_law_many"] (defScope s__law_draw) := ⟨rfl, rfl, rfl, by decide +kernel, rfl, by decide +kernel, by decide +kernel⟩
def kp__law_draw : Keep := fun i => i == 0
def t__law_draw : Ev Fl :=
  (sSeq (sIf (bPeek (bBin gtD (eBin ixA (eVar 0) (eC (.str "more"))) (eC (.int 0)))) (sSeq (sSet 5 (ePeek (eBin modD (eBin ixA (eVar 0) (eC (.str "more"))) (eVar 1))))
  (sSeq (sAsg (ePeek (eBin fdivD (eBin ixA (eVar 0) (eC (.str "more"))) (eVar 1))) (gPut 0 (pName 0) (sid 0 (eC (.str "more")))))
  (sRet (eVar 5)))) sNx)
  (sSeq (sSet 2 (ePeek (eBin ixA (eVar 0) (eC (.str "spot")))))
  (sSeq (sAsg (eBin addD (eVar 2) (eC (.int 1))) (gPut 0 (pName 0) (sid 0 (eC (.str "spot")))))
  (sSeq (sSet 3 (ePeek (eIf (bBin neA (eBin ixA (eVar 0) (eC (.str "cells"))) (eLst mNil)) (eBin ixA (eBin ixA (eVar 0) (eC (.str "cells"))) (eBin modD (eVar 2) (eCall lenD (aCons (eBin ixA (eVar 0) (eC (.str "cells"))) aNil)))) (eBin addD (eBin mulD (eC (.int 37)) (eVar 2)) (eC (.int 11))))))
  (sSeq (sIf (bPeek (bAnd (bBin ltD (eVar 2) (eCall lenD (aCons (eBin ixA (eVar 0) (eC (.str "cells"))) aNil))) (bBin geD (eCall absD (aCons (eVar 3) aNil)) (eBin powD (eC (.int 10)) (eC (.int 18)))))) (sSeq (sAsg (eBin fdivD (eBin subD (eCall absD (aCons (eVar 3) aNil)) (eBin powD (eC (.int 10)) (eC (.int 18)))) (eVar 1)) (gPut 0 (pName 0) (sid 0 (eC (.str "more")))))
  (sRet (eBin modD (eBin subD (eCall absD (aCons (eVar 3) aNil)) (eBin powD (eC (.int 10)) (eC (.int 18)))) (eVar 1)))) sNx)
  (sSeq (sSet 4 (eBin modD (eBin addD (eBin addD (eBin addD (eBin mulD (eBin modD (eVar 3) (eC (.int 2147483647))) (eC (.int 69621))) (eBin mulD (eBin mulD (eC (.int 48271)) (eVar 2)) (eVar 2))) (eBin mulD (eC (.int 30011)) (eVar 2))) (eC (.int 13))) (eC (.int 2147483629))))
  (sSeq (sSet 4 (eBin modD (eBin addD (eBin addD (eBin addD (eBin mulD (eVar 4) (eVar 4)) (eBin mulD (eC (.int 40692)) (eVar 4))) (eBin mulD (eC (.int 7)) (eVar 2))) (eC (.int 3))) (eC (.int 2147483587))))
  (sRet (eBin modD (eBin fdivD (eBin modD (eBin mulD (eVar 4) (eBin addD (eVar 4) (eC (.int 16807)))) (eC (.int 2147483579))) (eC (.int 32))) (eVar 1))))))))))
def F__law_draw : List T → Option (Out T) := runF ["_law_pen_here", "_law_many", "_law_spot", "_law_cell", "_law_mix", "_law_digit"] 2 kp__law_draw t__law_draw
abbrev s__law_pick : Stmt := top 15
theorem sc__law_pick : FnScope ["_law_pen_here", "_law_some"] ["_law_pen_here", "_law_some"] (defScope s__law_pick) := ⟨rfl, rfl, rfl, by decide +kernel, rfl, by decide +kernel, by decide +kernel⟩
def kp__law_pick : Keep := fun i => i == 0
def t__law_pick : Ev Fl :=
  (sRet (eBin ixA (eVar 1) (eFn F__law_draw [some 0, none] (mLate 0 (mVal (eCall lenD (aCons (eVar 1) aNil)) mNil)))))
def F__law_pick : List T → Option (Out T) := runF ["_law_pen_here", "_law_some"] 2 kp__law_pick t__law_pick
abbrev s__law_names : Stmt := top 16
theorem sc__law_names : FnScope ["_law_pen_here", "_law_many", "_law_letters", "_law_stem", "_law_k", "_law_at", "_law_begin", "_law_trim", "_law_step", "_law_found", "_law_tail"] ["_law_pen_here", "_law_many"] (defScope s__law_names) := ⟨rfl, rfl, rfl, by decide +kernel, rfl, by decide +kernel, by decide +kernel⟩
def kp__law_names : Keep := fun i => i == 0
def t__law_names : Ev Fl :=
  (sSeq (sSet 2 (eC (.str "abcdefghijklmnopqrstuvwxyz")))
  (sSeq (sSet 3 (eMv "str" mJoin (eC (.str "")) (aCons (eLc (iRange1 (aCons (eBin addD (eC (.int 1)) (eFn F__law_draw [some 0, none] (mLate 0 (mVal (eC (.int 8)) mNil)))) aNil)) (gSet 4) bYes (eFn F__law_pick [some 0, none] (mLate 0 (mVal (eVar 2) mNil))) [4]) aNil)))
  (sSeq (sPar [(5, false), (6, false), (7, false)] (mOwn (eFn F__law_draw [some 0, none] (mLate 0 (mVal (eCall lenD (aCons (eVar 3) aNil)) mNil))) (mOwn (eFn F__law_draw [some 0, none] (mLate 0 (mVal (eC (.int 26)) mNil))) (mOwn (eFn F__law_draw [some 0, none] (mLate 0 (mVal (eC (.int 2)) mNil))) mNil))))
  (sSeq (sPar [(8, false), (9, true)] (mOwn (eFn F__law_pick [some 0, none] (mLate 0 (mVal (eLst (mOwn (eC (.int 1)) (mOwn (eC (.int 3)) (mOwn (eC (.int 5)) (mOwn (eC (.int 7)) (mOwn (eC (.int 9)) (mOwn (eC (.int 11)) (mOwn (eC (.int 15)) (mOwn (eC (.int 17)) (mOwn (eC (.int 19)) (mOwn (eC (.int 21)) (mOwn (eC (.int 23)) (mOwn (eC (.int 25)) mNil))))))))))))) mNil))) (mOwn (eLst mNil) mNil)))
  (sSeq (sFor (iRange1 (aCons (eVar 1) aNil)) (gSet 4) (sSeq (sSet 10 (eIf (bBin eqA (eVar 7) (eC (.int 0))) (eSl slD (eVar 3) (oSo (eBin addD (eVar 5) (eC (.int 1)))) oNo) (eSl slD (eSl slD (eVar 3) (oSo (eBin addD (eVar 5) (eC (.int 1)))) oNo) oNo (oSo (eBin modD (eVar 4) (eC (.int 3)))))))
  (sDrop (eMt 9 "list" gAppend (pName 9) (sid 9 (mVal (eBin addD (eBin addD (eSl slD (eVar 3) oNo (oSo (eVar 5))) (eBin ixA (eVar 2) (eBin modD (eBin addD (eVar 6) (eBin mulD (eVar 8) (eVar 4))) (eC (.int 26))))) (eVar 10)) mNil))))))
  (sRet (eMov 9)))))))
def F__law_names : List T → Option (Out T) := runF ["_law_pen_here", "_law_many", "_law_letters", "_law_stem", "_law_k", "_law_at", "_law_begin", "_law_trim", "_law_step", "_law_found", "_law_tail"] 2 kp__law_names t__law_names
abbrev s__law_odd : Stmt := top 17
theorem sc__law_odd : FnScope ["_law_pen_here", "_law_some"] ["_law_pen_here"] (defScope s__law_odd) := ⟨rfl, rfl, rfl, by decide +kernel, rfl, by decide +kernel, by decide +kernel⟩
def kp__law_odd : Keep := fun i => i == 0
def t__law_odd : Ev Fl :=
  (sSeq (sSet 1 (eLst (mOwn (eC .non) (mOwn (eC (.bl true)) (mOwn (eC (.bl false)) (mOwn (eC (.int 0)) (mOwn (eC (.int 1)) (mOwn (eUn negD (eC (.int 1))) (mOwn (eC (.int 2)) (mOwn (eBin powD (eC (.int 10)) (eC (.int 60))) (mOwn (eC (.str "")) (mOwn (eC (.str "a")) (mOwn (eC (.str "Ab")) (mOwn (eC (.str "a b")) (mOwn (eC (.str "abcdefgh")) (mOwn (eC (.str "abcdefghi")) (mOwn (eC (.str "a1")) (mOwn (eTup mNil) (mOwn (eTup (mOwn (eC (.str "a")) mNil)) mNil)))))))))))))))))))
  (sRet (eFn F__law_pick [some 0, none] (mLate 0 (mVal (eBin addD (eVar 1) (eLst (mOwn (eLst mNil) (mOwn (eLst (mOwn (eC (.str "a")) mNil)) (mOwn eDnew (mOwn (eDct (qCons (eC (.str "a")) (eC (.int 1)) qNil)) (mOwn (eTup (mOwn (eTup mNil) mNil)) (mOwn (eTup (mOwn (eC (.int 0)) mNil)) (mOwn (eLst (mOwn (eC (.int 0)) mNil)) (mOwn (eTup (mOwn (eC .non) mNil)) (mOwn (eLst (mOwn (eLst mNil) mNil)) (mOwn (eTup (mOwn (eC (.str "a")) (mOwn (eC (.str "a")) mNil))) mNil)))))))))))) mNil)))))
def F__law_odd : List T → Option (Out T) := runF ["_law_pen_here", "_law_some"] 1 kp__law_odd t__law_odd
abbrev s__law_is_name : Stmt := top 18
theorem sc__law_is_name : FnScope ["_law_value", "_law_letter"] ["_law_value"] (defScope s__law_is_name) := ⟨rfl, rfl, rfl, by decide +kernel, rfl, by decide +kernel, by decide +kernel⟩
def kp__law_is_name : Keep := fun i => false
def t__law_is_name : Ev Fl :=
  (sSeq (sIf (bOr (bNot (bTru (eCall isTyD (aCons (eVar 0) (aCons (eC (.ty "str")) aNil))))) (bNot (bVal (eChn leD leD (eC (.int 1)) (eCall lenD (aCons (eVar 0) aNil)) (eC (.int 8)))))) (sRet (eC (.bl false))) sNx)
  (sRet (eBin eqA (eLc (iAny (eVar 0)) (gSet 1) (bBin (inA true) (eVar 1) (eC (.str "abcdefghijklmnopqrstuvwxyz"))) (eVar 1) [1]) (eLst mNil))))
def F__law_is_name : List T → Option (Out T) := runF ["_law_value", "_law_letter"] 1 kp__law_is_name t__law_is_name
abbrev s_law : Stmt := top 19
theorem sc_law : FnScope ["_law_script", "_law_pen_here", "_law_some", "_law_bout", "_law_name", "_law_value"] ["_law_script"] (defScope s_law) := ⟨rfl, rfl, rfl, by decide +kernel, rfl, by decide +kernel, by decide +kernel⟩
def kp_law : Keep := fun i => false
def t_law : Ev Fl :=
  (sSeq (sOwn 1 (eFn F__law_pen [none] (mVal (eVar 0) mNil)))
  (sSeq (sSet 2 (eLst (mOwn (eC (.int 16)) (mOwn (eC (.int 16)) (mOwn (eC (.int 12)) (mOwn (eC (.int 7)) (mOwn (eC (.int 6)) (mOwn (eC (.int 5)) (mOwn (eC (.int 10)) (mOwn (eC (.int 4)) mNil))))))))))
  (sSeq (sIf (bBin neA (eCall reprD (aCons (eVar 2) aNil)) (eC (.str "[16, 16, 12, 7, 6, 5, 10, 4]"))) (sRet (eC (.bl false))) sNx)
  (sSeq (sFor (iRange1 (aCons (eC (.int 12)) aNil)) (gSet 3) (sSeq (sSet 4 (eFn F__law_pick [some 1, none] (mLate 1 (mVal (eFn F__law_names [some 1, none] (mLate 1 (mVal (eC (.int 5)) mNil))) mNil))))
  (sSeq (sSet 2 (eLst (mOwn (eVar 4) (mOwn (eBin addD (eVar 4) (eC (.str "a"))) (mOwn (eSl slD (eVar 4) oNo (oSo (eUn negD (eC (.int 1))))) (mOwn (eMv "str" mUpper (eVar 4) aNil) (mOwn (eBin addD (eVar 4) (eC (.str " "))) (mOwn (eBin addD (eC (.str " ")) (eVar 4)) (mOwn (eBin addD (eVar 4) (eC (.str "1"))) (mOwn (eBin mulD (eC (.str "z")) (eC (.int 9))) (mOwn (eBin mulD (eC (.str "z")) (eC (.int 8))) mNil)))))))))))
  (sFor (iAny (eTup (mOwn (eFn F__law_pick [some 1, none] (mLate 1 (mVal (eVar 2) mNil))) (mOwn (eFn F__law_odd [some 1] (mLate 1 mNil)) mNil)))) (gSet 5) (sIf (bBin neA (eCall reprD (aCons (eFn F_is_name [none] (mVal (eVar 5) mNil)) aNil)) (eCall reprD (aCons (eFn F__law_is_name [none] (mVal (eVar 5) mNil)) aNil))) (sRet (eC (.bl false))) sNx)))))
  (sRet (eC (.bl true)))))))
def F_law : List T → Option (Out T) := runF ["_law_script", "_law_pen_here", "_law_some", "_law_bout", "_law_name", "_law_value"] 1 kp_law t_law
/-! ### what the head tells -/
structure Fx (K : PySem.W.Frag) (mg : Str → Option Value) (base : Heap) : Prop where
  sys : ∃ o, base.get? sysModules = some o
  n_abs : mg "abs" = none
  n_all : mg "all" = none
  n_isinstance : mg "isinstance" = none
  n_len : mg "len" = none
  n_list : mg "list" = none
  n_range : mg "range" = none
  n_repr : mg "repr" = none
  n_str : mg "str" = none
  c_ARRIVALS : ∃ t, mg "ARRIVALS" = some (.int 6 t)
  c_COUNTED : ∃ t, mg "COUNTED" = some (.int 12 t)
  c_GIFTS : ∃ t, mg "GIFTS" = some (.int 16 t)
  c_GUESTS : ∃ t, mg "GUESTS" = some (.int 16 t)
  c_HOUSE : ∃ t, mg "HOUSE" = some (.int 5 t)
  c_LETTERS : ∃ t, mg "LETTERS" = some (.str "abcdefghijklmnopqrstuvwxyz" t)
  c_LISTED : ∃ t, mg "LISTED" = some (.int 7 t)
  c_LOGGED : ∃ t, mg "LOGGED" = some (.int 10 t)
  c_LONGEST_NAME : ∃ t, mg "LONGEST_NAME" = some (.int 8 t)
  c_PLANNED : ∃ t, mg "PLANNED" = some (.int 4 t)
  d_is_name : ∃ f fd, mg "is_name" = some (.ref f) ∧ FunD K "is_name" "is_name" (defArgs s_is_name) (defBody s_is_name) (defScope s_is_name) [] [] f fd
  d__law_pen : ∃ f fd, mg "_law_pen" = some (.ref f) ∧ FunD K "_law_pen" "_law_pen" (defArgs s__law_pen) (defBody s__law_pen) (defScope s__law_pen) [] [] f fd
  d__law_draw : ∃ f fd, mg "_law_draw" = some (.ref f) ∧ FunD K "_law_draw" "_law_draw" (defArgs s__law_draw) (defBody s__law_draw) (defScope s__law_draw) [] [] f fd
  d__law_pick : ∃ f fd, mg "_law_pick" = some (.ref f) ∧ FunD K "_law_pick" "_law_pick" (defArgs s__law_pick) (defBody s__law_pick) (defScope s__law_pick) [] [] f fd
  d__law_names : ∃ f fd, mg "_law_names" = some (.ref f) ∧ FunD K "_law_names" "_law_names" (defArgs s__law_names) (defBody s__law_names) (defScope s__law_names) [] [] f fd
  d__law_odd : ∃ f fd, mg "_law_odd" = some (.ref f) ∧ FunD K "_law_odd" "_law_odd" (defArgs s__law_odd) (defBody s__law_odd) (defScope s__law_odd) [] [] f fd
  d__law_is_name : ∃ f fd, mg "_law_is_name" = some (.ref f) ∧ FunD K "_law_is_name" "_law_is_name" (defArgs s__law_is_name) (defBody s__law_is_name) (defScope s__law_is_name) [] [] f fd
  d_law : ∃ f fd, mg "law" = some (.ref f) ∧ FunD K "law" "law" (defArgs s_law) (defBody s_law) (defScope s_law) [] [] f fd
/-! ### each def computes what its evaluator says -/
section
variable {P : Program} {w : World} {K : PySem.W.Frag} {mg : Str → Option Value} {base : Heap} {cl : Str → Addr}
theorem v_is_name (fx : Fx K mg base) {f : Addr} {fd : FuncData} (F : FunD K "is_name" "is_name" (defArgs s_is_name) (defBody s_is_name) (defScope s_is_name) [] [] f fd) : FnV P w K mg base cl 1 f fd ["value"] F_is_name := by
  refine fnv_of F sc_is_name fun cdv A outer s H E hr hg => ?_
  exact (il_cons (is_if (iw_or (ib_not (ib_tru (iB (fIsi) fx.n_isinstance boot_isinstance (ia_cons (iv 0) (ia_cons (ity fx.n_str boot_str) ia_nil))))) (iw_or1 (ib_not (qChn kLe kLe ie_int (iB (fLen) fx.n_len boot_len (ia_cons (iv 0) ia_nil)) (igint fx.c_LONGEST_NAME))))).ib (il_one (is_ret ie_bl)) il_nil)
    (il_one (is_ret (iB (fAll) fx.n_all boot_all (ia_cons (ie_lc [("letter", 1)] rfl sc_is_name.nd (ii_any (iv 0)) (blkOk_by (by kernel_rfl)) (fun _ _ _ _ _ => (ig_set 1 sc_is_name.nd)) (fun _ _ _ _ _ => its_nil) (fun _ _ _ _ _ => (vCmp (kIn hr) (iv 1) (igstr fx.c_LETTERS)))) ia_nil)))))
theorem c_is_name (fx : Fx K mg base) : Cal P w K mg base cl "is_name" 1 ["value"] F_is_name := by
  obtain ⟨f, fd, hm, F⟩ := fx.d_is_name
  exact ⟨f, fd, hm, F.kp, F.bindsN fun _ _ _ _ _ _ us hl => match us, hl with | [_], _ => rfl, v_is_name fx F⟩
theorem v__law_pen (fx : Fx K mg base) {f : Addr} {fd : FuncData} (F : FunD K "_law_pen" "_law_pen" (defArgs s__law_pen) (defBody s__law_pen) (defScope s__law_pen) [] [] f fd) : FnV P w K mg base cl 1 f fd ["_law_script"] F__law_pen := by
  refine fnv_of F sc__law_pen fun cdv A outer s H E hr hg => ?_
  exact (il_one (is_ret (ie_dct (iq_cons ie_str (iT fList fx.n_list boot_list (ia_cons (islice (iv 0) io_no (io_so ie_int)) ia_nil)) (iq_cons ie_str ie_int (iq_cons ie_str ie_int iq_nil))))))
theorem c__law_pen (fx : Fx K mg base) : Cal P w K mg base cl "_law_pen" 1 ["_law_script"] F__law_pen := by
  obtain ⟨f, fd, hm, F⟩ := fx.d__law_pen
  exact ⟨f, fd, hm, F.kp, F.bindsN fun _ _ _ _ _ _ us hl => match us, hl with | [_], _ => rfl, v__law_pen fx F⟩
theorem v__law_draw (fx : Fx K mg base) {f : Addr} {fd : FuncData} (F : FunD K "_law_draw" "_law_draw" (defArgs s__law_draw) (defBody s__law_draw) (defScope s__law_draw) [] [] f fd) : FnV P w K mg base cl 1 f fd ["_law_pen_here", "_law_many"] F__law_draw := by
  refine fnv_of F sc__law_draw fun cdv A outer s H E hr hg => ?_
  exact (il_cons (is_if (ib_peek (qCmp kGt (ix hr (iv 0) ie_str) ie_int)) (il_cons (is_set 5 sc__law_draw.nd (ie_peek (bMod (ix hr (iv 0) ie_str) (iv 1))))
    (il_cons (is_asg (ie_peek (bDiv (ix hr (iv 0) ie_str) (iv 1))) (ig_put 0 (u1 hr) (ip_name 0) (ies_side ie_str)))
    (il_one (is_ret (iv 5))))) il_nil)
    (il_cons (is_set 2 sc__law_draw.nd (ie_peek (ix hr (iv 0) ie_str)))
    (il_cons (is_asg (bAdd (iv 2) ie_int) (ig_put 0 (u1 hr) (ip_name 0) (ies_side ie_str)))
    (il_cons (is_set 3 sc__law_draw.nd (ie_peek (ie_if (qCmp (kNe hr) (ix hr (iv 0) ie_str) (ie_lst im_nil)) (ix hr (ix hr (iv 0) ie_str) (bMod (iv 2) (iB (fLen) fx.n_len boot_len (ia_cons (ix hr (iv 0) ie_str) ia_nil)))) (bAdd (bMul ie_int (iv 2)) ie_int))))
    (il_cons (is_if (ib_peek (iw_and (qCmp kLt (iv 2) (iB (fLen) fx.n_len boot_len (ia_cons (ix hr (iv 0) ie_str) ia_nil))) (iw_and1 (qCmp kGe (iB (fAbs) fx.n_abs boot_abs (ia_cons (iv 3) ia_nil)) (bPow ie_int ie_int)))).ib) (il_cons (is_asg (bDiv (bSub (iB (fAbs) fx.n_abs boot_abs (ia_cons (iv 3) ia_nil)) (bPow ie_int ie_int)) (iv 1)) (ig_put 0 (u1 hr) (ip_name 0) (ies_side ie_str)))
    (il_one (is_ret (bMod (bSub (iB (fAbs) fx.n_abs boot_abs (ia_cons (iv 3) ia_nil)) (bPow ie_int ie_int)) (iv 1))))) il_nil)
    (il_cons (is_set 4 sc__law_draw.nd (bMod (bAdd (bAdd (bAdd (bMul (bMod (iv 3) ie_int) ie_int) (bMul (bMul ie_int (iv 2)) (iv 2))) (bMul ie_int (iv 2))) ie_int) ie_int))
    (il_cons (is_set 4 sc__law_draw.nd (bMod (bAdd (bAdd (bAdd (bMul (iv 4) (iv 4)) (bMul ie_int (iv 4))) (bMul ie_int (iv 2))) ie_int) ie_int))
    (il_one (is_ret (bMod (bDiv (bMod (bMul (iv 4) (bAdd (iv 4) ie_int)) ie_int) ie_int) (iv 1)))))))))))
theorem c__law_draw (fx : Fx K mg base) : Cal P w K mg base cl "_law_draw" 1 ["_law_pen_here", "_law_many"] F__law_draw := by
  obtain ⟨f, fd, hm, F⟩ := fx.d__law_draw
  exact ⟨f, fd, hm, F.kp, F.bindsN fun _ _ _ _ _ _ us hl => match us, hl with | [_, _], _ => rfl, v__law_draw fx F⟩
theorem v__law_pick (fx : Fx K mg base) {f : Addr} {fd : FuncData} (F : FunD K "_law_pick" "_law_pick" (defArgs s__law_pick) (defBody s__law_pick) (defScope s__law_pick) [] [] f fd) : FnV P w K mg base cl 2 f fd ["_law_pen_here", "_law_some"] F__law_pick := by
  refine fnv_of F sc__law_pick fun cdv A outer s H E hr hg => ?_
  exact (il_one (is_ret (ix hr (iv 1) (iCall (c__law_draw fx) hr hg (im_late 0 (im_val (iB (fLen) fx.n_len boot_len (ia_cons (iv 1) ia_nil)) im_nil))))))
theorem c__law_pick (fx : Fx K mg base) : Cal P w K mg base cl "_law_pick" 2 ["_law_pen_here", "_law_some"] F__law_pick := by
  obtain ⟨f, fd, hm, F⟩ := fx.d__law_pick
  exact ⟨f, fd, hm, F.kp, F.bindsN fun _ _ _ _ _ _ us hl => match us, hl with | [_, _], _ => rfl, v__law_pick fx F⟩
theorem v__law_names (fx : Fx K mg base) {f : Addr} {fd : FuncData} (F : FunD K "_law_names" "_law_names" (defArgs s__law_names) (defBody s__law_names) (defScope s__law_names) [] [] f fd) : FnV P w K mg base cl 3 f fd ["_law_pen_here", "_law_many"] F__law_names := by
  refine fnv_of F sc__law_names fun cdv A outer s H E hr hg => ?_
  exact (il_cons (is_set 2 sc__law_names.nd ie_str)
    (il_cons (is_set 3 sc__law_names.nd (mJoinR ie_str (ia_cons (ie_lc [("_law_k", 4)] rfl sc__law_names.nd (ii_range1 fx.n_range (ia_cons (bAdd ie_int (iCall (c__law_draw fx) hr hg (im_late 0 (im_val ie_int im_nil)))) ia_nil)) (blkOk_by (by kernel_rfl)) (fun _ _ _ _ _ => (ig_set 4 sc__law_names.nd)) (fun _ _ _ _ _ => its_nil) (fun _ _ _ _ _ => (iCall (c__law_pick fx) hr hg (im_late 0 (im_val (iv 2) im_nil))))) ia_nil)))
    (il_cons (is_par3 5 6 7 false false false rfl sc__law_names.nd (im_own (iCall (c__law_draw fx) hr hg (im_late 0 (im_val (iB (fLen) fx.n_len boot_len (ia_cons (iv 3) ia_nil)) im_nil))) (im_own (iCall (c__law_draw fx) hr hg (im_late 0 (im_val ie_int im_nil))) (im_own (iCall (c__law_draw fx) hr hg (im_late 0 (im_val ie_int im_nil))) im_nil))))
    (il_cons (is_par2 8 9 false true rfl sc__law_names.nd (im_own (iCall (c__law_pick fx) hr hg (im_late 0 (im_val (ie_lst (im_own ie_int (im_own ie_int (im_own ie_int (im_own ie_int (im_own ie_int (im_own ie_int (im_own ie_int (im_own ie_int (im_own ie_int (im_own ie_int (im_own ie_int (im_own ie_int im_nil))))))))))))) im_nil))) (im_own (ie_lst im_nil) im_nil)))
    (il_cons (is_for (passes_of rfl) rfl (ii_range1 fx.n_range (ia_cons (iv 1) ia_nil)) (ig_set 4 sc__law_names.nd) (il_cons (is_set 10 sc__law_names.nd (ie_if (qCmp (kEq hr) (iv 7) ie_int) (islice (iv 3) (io_so (bAdd (iv 5) ie_int)) io_no) (islice (islice (iv 3) (io_so (bAdd (iv 5) ie_int)) io_no) io_no (io_so (bMod (iv 4) ie_int)))))
    (il_one (is_expr (mAppendR 9 (ip_name 9) (ims_side (im_val (bAdd (bAdd (islice (iv 3) io_no (io_so (iv 5))) (ix hr (iv 2) (bMod (bAdd (iv 6) (bMul (iv 8) (iv 4))) ie_int))) (iv 10)) im_nil)))))))
    (il_one (is_ret (imv 9))))))))
theorem c__law_names (fx : Fx K mg base) : Cal P w K mg base cl "_law_names" 3 ["_law_pen_here", "_law_many"] F__law_names := by
  obtain ⟨f, fd, hm, F⟩ := fx.d__law_names
  exact ⟨f, fd, hm, F.kp, F.bindsN fun _ _ _ _ _ _ us hl => match us, hl with | [_, _], _ => rfl, v__law_names fx F⟩
theorem v__law_odd (fx : Fx K mg base) {f : Addr} {fd : FuncData} (F : FunD K "_law_odd" "_law_odd" (defArgs s__law_odd) (defBody s__law_odd) (defScope s__law_odd) [] [] f fd) : FnV P w K mg base cl 3 f fd ["_law_pen_here"] F__law_odd := by
  refine fnv_of F sc__law_odd fun cdv A outer s H E hr hg => ?_
  exact (il_cons (is_set 1 sc__law_odd.nd (ie_lst (im_own ie_non (im_own ie_bl (im_own ie_bl (im_own ie_int (im_own ie_int (im_own (uNeg ie_int) (im_own ie_int (im_own (bPow ie_int ie_int) (im_own ie_str (im_own ie_str (im_own ie_str (im_own ie_str (im_own ie_str (im_own ie_str (im_own ie_str (im_own (ie_tup im_nil) (im_own (ie_tup (im_own ie_str im_nil)) im_nil)))))))))))))))))))
    (il_one (is_ret (iCall (c__law_pick fx) hr hg (im_late 0 (im_val (bAdd (iv 1) (ie_lst (im_own (ie_lst im_nil) (im_own (ie_lst (im_own ie_str im_nil)) (im_own ie_dnew (im_own (ie_dct (iq_cons ie_str ie_int iq_nil)) (im_own (ie_tup (im_own (ie_tup im_nil) im_nil)) (im_own (ie_tup (im_own ie_int im_nil)) (im_own (ie_lst (im_own ie_int im_nil)) (im_own (ie_tup (im_own ie_non im_nil)) (im_own (ie_lst (im_own (ie_lst im_nil) im_nil)) (im_own (ie_tup (im_own ie_str (im_own ie_str im_nil))) im_nil)))))))))))) im_nil))))))
theorem c__law_odd (fx : Fx K mg base) : Cal P w K mg base cl "_law_odd" 3 ["_law_pen_here"] F__law_odd := by
  obtain ⟨f, fd, hm, F⟩ := fx.d__law_odd
  exact ⟨f, fd, hm, F.kp, F.bindsN fun _ _ _ _ _ _ us hl => match us, hl with | [_], _ => rfl, v__law_odd fx F⟩
theorem v__law_is_name (fx : Fx K mg base) {f : Addr} {fd : FuncData} (F : FunD K "_law_is_name" "_law_is_name" (defArgs s__law_is_name) (defBody s__law_is_name) (defScope s__law_is_name) [] [] f fd) : FnV P w K mg base cl 1 f fd ["_law_value"] F__law_is_name := by
  refine fnv_of F sc__law_is_name fun cdv A outer s H E hr hg => ?_
  exact (il_cons (is_if (iw_or (ib_not (ib_tru (iB (fIsi) fx.n_isinstance boot_isinstance (ia_cons (iv 0) (ia_cons (ity fx.n_str boot_str) ia_nil))))) (iw_or1 (ib_not (qChn kLe kLe ie_int (iB (fLen) fx.n_len boot_len (ia_cons (iv 0) ia_nil)) ie_int)))).ib (il_one (is_ret ie_bl)) il_nil)
    (il_one (is_ret (vCmp (kEq hr) (ie_lc [("_law_letter", 1)] rfl sc__law_is_name.nd (ii_any (iv 0)) (blkOk_by (by kernel_rfl)) (fun _ _ _ _ _ => (ig_set 1 sc__law_is_name.nd)) (fun _ _ _ _ _ => (its_one (qCmp (kNin hr) (iv 1) ie_str))) (fun _ _ _ _ _ => (iv 1))) (ie_lst im_nil)))))
theorem c__law_is_name (fx : Fx K mg base) : Cal P w K mg base cl "_law_is_name" 1 ["_law_value"] F__law_is_name := by
  obtain ⟨f, fd, hm, F⟩ := fx.d__law_is_name
  exact ⟨f, fd, hm, F.kp, F.bindsN fun _ _ _ _ _ _ us hl => match us, hl with | [_], _ => rfl, v__law_is_name fx F⟩
theorem v_law (fx : Fx K mg base) {f : Addr} {fd : FuncData} (F : FunD K "law" "law" (defArgs s_law) (defBody s_law) (defScope s_law) [] [] f fd) : FnV P w K mg base cl 4 f fd ["_law_script"] F_law := by
  refine fnv_of F sc_law fun cdv A outer s H E hr hg => ?_
  exact (il_cons (is_own 1 sc_law.nd (iCall (c__law_pen fx) hr hg (im_val (iv 0) im_nil)))
    (il_cons (is_set 2 sc_law.nd (ie_lst (im_own (igint fx.c_GUESTS) (im_own (igint fx.c_GIFTS) (im_own (igint fx.c_COUNTED) (im_own (igint fx.c_LISTED) (im_own (igint fx.c_ARRIVALS) (im_own (igint fx.c_HOUSE) (im_own (igint fx.c_LOGGED) (im_own (igint fx.c_PLANNED) im_nil))))))))))
    (il_cons (is_if (qCmp (kNe hr) (iB (fRepr hr hg fx.sys) fx.n_repr boot_repr (ia_cons (iv 2) ia_nil)) ie_str) (il_one (is_ret ie_bl)) il_nil)
    (il_cons (is_for (passes_of rfl) rfl (ii_range1 fx.n_range (ia_cons ie_int ia_nil)) (ig_set 3 sc_law.nd) (il_cons (is_set 4 sc_law.nd (iCall (c__law_pick fx) hr hg (im_late 1 (im_val (iCall (c__law_names fx) hr hg (im_late 1 (im_val ie_int im_nil))) im_nil))))
    (il_cons (is_set 2 sc_law.nd (ie_lst (im_own (iv 4) (im_own (bAdd (iv 4) ie_str) (im_own (islice (iv 4) io_no (io_so (uNeg ie_int))) (im_own (mUpperR (iv 4)) (im_own (bAdd (iv 4) ie_str) (im_own (bAdd ie_str (iv 4)) (im_own (bAdd (iv 4) ie_str) (im_own (bMul ie_str ie_int) (im_own (bMul ie_str ie_int) im_nil)))))))))))
    (il_one (is_for (passes_of rfl) rfl (ii_any (ie_tup (im_own (iCall (c__law_pick fx) hr hg (im_late 1 (im_val (iv 2) im_nil))) (im_own (iCall (c__law_odd fx) hr hg (im_late 1 im_nil)) im_nil)))) (ig_set 5 sc_law.nd) (il_one (is_if (qCmp (kNe hr) (iB (fRepr hr hg fx.sys) fx.n_repr boot_repr (ia_cons (iCall (c_is_name fx) hr hg (im_val (iv 5) im_nil)) ia_nil)) (iB (fRepr hr hg fx.sys) fx.n_repr boot_repr (ia_cons (iCall (c__law_is_name fx) hr hg (im_val (iv 5) im_nil)) ia_nil))) (il_one (is_ret ie_bl)) il_nil)))))))
    (il_one (is_ret ie_bl))))))
theorem c_law (fx : Fx K mg base) : Cal P w K mg base cl "law" 4 ["_law_script"] F_law := by
  obtain ⟨f, fd, hm, F⟩ := fx.d_law
  exact ⟨f, fd, hm, F.kp, F.bindsN fun _ _ _ _ _ _ us hl => match us, hl with | [_], _ => rfl, v_law fx F⟩
end
end Gk01

namespace Gk01
open PySem PySem.Spec PyProof.Rows L2 VL
theorem n1 : ¬ ("cells" : Str) = "spot" := by decide
theorem n2 : ¬ ("cells" : Str) = "more" := by decide
theorem n3 : ¬ ("spot" : Str) = "more" := by decide
theorem n4 : ¬ ("spot" : Str) = "cells" := by decide
theorem n5 : ¬ ("more" : Str) = "cells" := by decide
theorem n6 : ¬ ("more" : Str) = "spot" := by decide
/-- a law's pen -/
def pen (ns : List Int) (sp mo : Int) : T := .dct [(.inr "cells", .lst (ns.map fun n => .fz (.int n))), (.inr "spot", .fz (.int sp)), (.inr "more", .fz (.int mo))]
theorem cut63 (ns : List Int) : VL.cutD (ns.map D.int) none (some 63) = (ns.take 63).map D.int := by
  unfold VL.cutD
  rw [HT.sIx_none, show (63 : Int) = ((63 : Nat) : Int) from rfl, HT.sIx_nat]
  simp [List.map_take]
theorem comp_fz {β : Type} (f : β → D) : (T.fz ∘ f) = fun x => T.fz (f x) := rfl
theorem pen_spec (ns : List Int) : F__law_pen [.fz (.scr ns)] = some (.ok (pen (ns.take 63) 0 0) [none]) := by
  simp [F__law_pen, t__law_pen, kp__law_pen, slD, cut63, pen, n1, n2, n3, n4, n5, n6, List.nodup_cons, comp_fz]
theorem cmul_l {i j : Int} (h : 0 ≤ i) (h2 : i < 18446744073709551616) : CMul i j := .inl ⟨by omega, by omega⟩
theorem cmul_r {i j : Int} (h : 0 ≤ j) (h2 : j < 18446744073709551616) : CMul i j := .inr ⟨by omega, by omega⟩
theorem eqAD_nil2 : eqAD (.lst []) (.lst []) = some true := eqAD_ints_nil []
theorem cdiv_i {i j : Int} : CDiv i j = (0 < j ∧ j < 1073741824) := rfl
theorem draw_tail (c sp : Int) (h0 : 0 ≤ sp) (h1 : sp ≤ 100000) : CMul (c % 2147483647) 69621 ∧ CMul 48271 sp ∧ CMul (48271 * sp) sp ∧ CMul 30011 sp ∧ CMul 7 sp ∧ CMul 37 sp ∧ (∀ m : Int, CMul (m % 2147483629) (m % 2147483629) ∧ CMul 40692 (m % 2147483629)) ∧ ∀ u : Int, CMul (u % 2147483587) (u % 2147483587 + 16807) := by
  refine ⟨cmul_r (by omega) (by omega), cmul_l (by omega) (by omega), cmul_r (by omega) (by omega), cmul_l (by omega) (by omega), cmul_l (by omega) (by omega), cmul_l (by omega) (by omega), fun m => ⟨cmul_l (Int.emod_nonneg _ (by omega)) (by have := Int.emod_lt_of_pos m (show (0:Int) < 2147483629 by omega); omega), cmul_l (by omega) (by omega)⟩, fun u => cmul_l (Int.emod_nonneg _ (by omega)) (by have := Int.emod_lt_of_pos u (show (0:Int) < 2147483587 by omega); omega)⟩
theorem p18 : CPow 10 18 := ⟨by decide, by decide, by decide⟩
theorem draw_spec (ns : List Int) (sp mo many : Int) (h0 : 0 ≤ sp) (h1 : sp ≤ 100000) (h2 : 0 ≤ mo) (hm : 0 < many) (hm2 : many < 1073741824) :
    ∃ d sp' mo', F__law_draw [pen ns sp mo, .fz (.int many)] = some (.ok (.fz (.int d)) [some (pen ns sp' mo'), none]) ∧ 0 ≤ d ∧ d < many ∧ 0 ≤ sp' ∧ sp' ≤ sp + 1 ∧ 0 ≤ mo' := by
  by_cases c : 0 < mo
  · refine ⟨mo % many, sp, mo / many, ?_, Int.emod_nonneg _ (by omega), Int.emod_lt_of_pos _ hm, h0, by omega, Int.ediv_nonneg h2 (by omega)⟩
    simp [F__law_draw, t__law_draw, kp__law_draw, pen, ixA_dct, findD, keyIx, n1, n2, n3, n4, n5, n6, c, hm, hm2, CDiv, putKid, putD]
  · have rng : ∀ x : Int, 0 ≤ x % many ∧ x % many < many := fun x => ⟨Int.emod_nonneg _ (by omega), Int.emod_lt_of_pos _ hm⟩
    have fin : ∀ x : Int, 0 ≤ x % many ∧ x % many < many ∧ 0 ≤ sp + 1 ∧ sp + 1 ≤ sp + 1 ∧ 0 ≤ mo := fun x => ⟨(rng x).1, (rng x).2, by omega, by omega, h2⟩
    by_cases e : ns = []
    · subst e
      obtain ⟨m1, m2, m3, m4, m5, m6, m7, m8⟩ := draw_tail (37 * sp + 11) sp h0 h1
      have lt0 : ¬ sp < 0 := by omega
      simp [F__law_draw, t__law_draw, kp__law_draw, pen, ixA_dct, findD, keyIx, n1, n2, n3, n4, n5, n6, c, hm, hm2, cdiv_i, putKid, putD, eqAD_nil2, ixA_lst, atI_map, m1, m2, m3, m4, m5, m6, m7, m8, lt0]
      exact ⟨_, _, _, ⟨rfl, rfl, rfl⟩, fin _⟩
    · have hl0 : 0 < ns.length := List.length_pos_iff.mpr e
      have hl : 0 < (ns.length : Int) := by omega
      obtain ⟨cell, hc, _⟩ := atI_some (xs := ns) (i := sp % ns.length) (Int.emod_nonneg _ (by omega)) (Int.emod_lt_of_pos _ hl)
      obtain ⟨m1, m2, m3, m4, m5, m6, m7, m8⟩ := draw_tail cell sp h0 h1
      by_cases b : sp < ns.length ∧ 1000000000000000000 ≤ (if cell < 0 then -cell else cell)
      · obtain ⟨b1, b2⟩ := b
        simp [F__law_draw, t__law_draw, kp__law_draw, pen, ixA_dct, findD, keyIx, n1, n2, n3, n4, n5, n6, c, hm, hm2, cdiv_i, putKid, putD, eqAD_ints_nil, e, ixA_lst, atI_map, m1, m2, m3, m4, m5, m6, m7, m8, p18, hl0, hc, b1, b2]
        exact ⟨_, _, _, ⟨rfl, rfl, rfl⟩, (rng _).1, (rng _).2, by omega, by omega, Int.ediv_nonneg (by omega) (by omega)⟩
      · by_cases b1 : sp < ns.length
        · have b2 : ¬ 1000000000000000000 ≤ (if cell < 0 then -cell else cell) := fun h => b ⟨b1, h⟩
          simp [F__law_draw, t__law_draw, kp__law_draw, pen, ixA_dct, findD, keyIx, n1, n2, n3, n4, n5, n6, c, hm, hm2, cdiv_i, putKid, putD, eqAD_ints_nil, e, ixA_lst, atI_map, m1, m2, m3, m4, m5, m6, m7, m8, p18, hl0, hc, b1, b2]
          exact ⟨_, _, _, ⟨rfl, rfl, rfl⟩, fin _⟩
        · simp [F__law_draw, t__law_draw, kp__law_draw, pen, ixA_dct, findD, keyIx, n1, n2, n3, n4, n5, n6, c, hm, hm2, cdiv_i, putKid, putD, eqAD_ints_nil, e, ixA_lst, atI_map, m1, m2, m3, m4, m5, m6, m7, m8, p18, hl0, hc, b1]
          exact ⟨_, _, _, ⟨rfl, rfl, rfl⟩, fin _⟩
end Gk01

namespace Gk01
open PySem PySem.Spec PyProof.Rows L2 VL
def Pn (p : T) (n : Nat) : Prop := ∃ ns sp mo, p = pen ns sp mo ∧ 0 ≤ sp ∧ sp ≤ (n : Int) ∧ 0 ≤ mo
theorem draw {p : T} {n : Nat} {many : Int} (hp : Pn p n) (hn : n ≤ 100000) (hm : 0 < many) (hm2 : many < 1073741824) :
    ∃ d p', F__law_draw [p, .fz (.int many)] = some (.ok (.fz (.int d)) [some p', none]) ∧ 0 ≤ d ∧ d < many ∧ Pn p' (n + 1) := by
  obtain ⟨ns, sp, mo, rfl, h1, h2, h3⟩ := hp
  obtain ⟨d, sp', mo', e, a1, a2, a3, a4, a5⟩ := draw_spec ns sp mo many h1 (by omega) h3 hm hm2
  exact ⟨d, _, e, a1, a2, ns, sp', mo', rfl, a3, by omega, a5⟩
theorem pick_list {p : T} {n : Nat} {xs : List D} (hp : Pn p n) (hn : n ≤ 100000) (h0 : xs ≠ []) (h1 : xs.length < 1073741824) :
    ∃ d p', F__law_pick [p, .fz (.lst xs)] = some (.ok (.fz d) [some p', none]) ∧ d ∈ xs ∧ Pn p' (n + 1) := by
  have hl : 0 < xs.length := List.length_pos_iff.mpr h0
  obtain ⟨d, p', e, a1, a2, a3⟩ := draw (many := (xs.length : Int)) hp hn (by omega) (by omega)
  obtain ⟨x, hx, hm⟩ := atI_some (xs := xs) a1 a2
  refine ⟨x, p', ?_, hm, a3⟩
  simp [F__law_pick, t__law_pick, kp__law_pick, e, ixA_lst, hx]
theorem pick_str {p : T} {n : Nat} {z : Str} (hp : Pn p n) (hn : n ≤ 100000) (h0 : 0 < z.length) (h1 : z.length ≤ 1000000) :
    ∃ c p', F__law_pick [p, .fz (.str z)] = some (.ok (.fz (.str ⟨#[c]⟩)) [some p', none]) ∧ c ∈ z.cps.toList ∧ Pn p' (n + 1) := by
  obtain ⟨d, p', e, a1, a2, a3⟩ := draw (many := (z.length : Int)) hp hn (by omega) (by omega)
  obtain ⟨x, hx, hm⟩ := atI_some (xs := z.cps.toList) a1 (by simpa [Str.length] using a2)
  have hz : z.length ≤ sizeLine := by rw [sizeLine_eq]; omega
  have hix : ixA (.str z) (.int d) = some (.fz (.str ⟨#[x]⟩)) := by
    show (if z.length ≤ sizeLine then (atI z.cps.toList d).map fun c => T.fz (.str ⟨#[c]⟩) else none) = _
    rw [if_pos hz, hx]; rfl
  refine ⟨x, p', ?_, hm, a3⟩
  simp [F__law_pick, t__law_pick, kp__law_pick, e, hix, hz]

/-! ### what is a name -/
def abc : List Nat := [97,98,99,100,101,102,103,104,105,106,107,108,109,110,111,112,113,114,115,116,117,118,119,120,121,122]
theorem abc_eq : ("abcdefghijklmnopqrstuvwxyz" : Str).cps.toList = abc := by decide
def nameB : D → Bool
  | .str z => decide (1 ≤ z.length ∧ z.length ≤ 8) && z.cps.toList.all fun c => decide (c ∈ abc)
  | _ => false
theorem strD_len (z : Str) : (strD z).length = z.length := by simp [strD, Str.length]
theorem isT {d : D} (h : (tyName d).isSome = true) : isTyD [d, .ty "str"] = some (.fz (.bl (match d with | .str _ => true | _ => false))) := by
  cases d <;> first | rfl | simp [tyName] at h
theorem boolsOf_map {α : Type} (f : α → Bool) : ∀ xs : List α, boolsOf (xs.map fun x => .bl (f x)) = some (xs.map f)
  | [] => rfl
  | x :: xs => by simp [boolsOf, boolsOf_map f xs]
theorem len_str {z : Str} (hz : z.length ≤ 1000) : lenD [.str z] = some (.fz (.int z.length)) := by
  rw [lenD_s, if_pos (by rw [sizeLine_eq]; omega)]
theorem inB_sg (c : Nat) (z : Str) : inB (.str ⟨#[c]⟩) (.str z) = some (decide (c ∈ z.cps.toList)) := rfl
theorem is_name_no {d : D} (h : (tyName d).isSome = true) (hs : ∀ z, d ≠ .str z) : F_is_name [.fz d] = some (.ok (.fz (.bl false)) [none]) := by
  have e : isTyD [d, .ty "str"] = some (.fz (.bl false)) := by
    rw [isT h]
    cases d <;> first | rfl | exact absurd rfl (hs _)
  simp [F_is_name, t_is_name, kp_is_name, e]
theorem strD_cut (z : Str) (p : Nat → Bool) : (strD z).filter (fun d => match d with | .str x => (match x.cps.toList with | [c] => p c | _ => false) | _ => false) = (z.cps.toList.filter p).map fun c => .str ⟨#[c]⟩ := by
  unfold strD
  rw [List.filter_map]
  rfl
theorem abc_lc (z : Str) (x : D) : lcE (gSet 1) bYes (eBin (inA false) (eVar 1) (eC (.str "abcdefghijklmnopqrstuvwxyz"))) [1] (strD z) [some (.fz x), none] = some (z.cps.toList.map fun c => .fz (.bl (decide (c ∈ abc))), [some (.fz x), none]) := by
  have h := lcE_pure (v := 1) (tb := bYes) (te := eBin (inA false) (eVar 1) (eC (.str "abcdefghijklmnopqrstuvwxyz"))) (p := fun _ => true) (f := fun d => match d with | .str x => .fz (.bl (match x.cps.toList with | [c] => decide (c ∈ abc) | _ => false)) | _ => .fz .non)
    (strD z) [some (.fz x), none] rfl (fun d _ => rfl) (fun d hd _ => by
      obtain ⟨c, hc, rfl⟩ := List.mem_map.mp hd
      simp [inB_sg, abc_eq])
  rw [h, List.filter_eq_self.mpr fun _ _ => rfl]
  simp [strD]
theorem is_name_str {z : Str} (hz : z.length ≤ 1000) : F_is_name [.fz (.str z)] = some (.ok (.fz (.bl (nameB (.str z)))) [none]) := by
  have e : isTyD [.str z, .ty "str"] = some (.fz (.bl true)) := isT rfl
  have hl : (1 : Int) ≤ z.length ↔ 1 ≤ z.length := by omega
  have hl2 : (z.length : Int) ≤ 8 ↔ z.length ≤ 8 := by omega
  by_cases c1 : 1 ≤ z.length
  · by_cases c2 : z.length ≤ 8
    · have c3 : z.length ≤ 16777216 := by omega
      simp [F_is_name, t_is_name, kp_is_name, e, len_str hz, c1, c2, hl, hl2, strD_len, abc_lc, nameB, allD, c3, boolsOf_map]
    · simp [F_is_name, t_is_name, kp_is_name, e, len_str hz, c1, c2, hl, hl2, nameB]
  · simp [F_is_name, t_is_name, kp_is_name, e, len_str hz, c1, hl, hl2, nameB]
theorem law_name_no {d : D} (h : (tyName d).isSome = true) (hs : ∀ z, d ≠ .str z) : F__law_is_name [.fz d] = some (.ok (.fz (.bl false)) [none]) := by
  have e : isTyD [d, .ty "str"] = some (.fz (.bl false)) := by
    rw [isT h]
    cases d <;> first | rfl | exact absurd rfl (hs _)
  simp [F__law_is_name, t__law_is_name, kp__law_is_name, e]
theorem abc_lc2 (z : Str) (x : D) : lcE (gSet 1) (bBin (inA true) (eVar 1) (eC (.str "abcdefghijklmnopqrstuvwxyz"))) (eVar 1) [1] (strD z) [some (.fz x), none] = some ((z.cps.toList.filter fun c => !decide (c ∈ abc)).map fun c => .fz (.str ⟨#[c]⟩), [some (.fz x), none]) := by
  have h := lcE_pure (v := 1) (tb := bBin (inA true) (eVar 1) (eC (.str "abcdefghijklmnopqrstuvwxyz"))) (te := eVar 1) (p := fun d => match d with | .str x => (match x.cps.toList with | [c] => !decide (c ∈ abc) | _ => false) | _ => false) (f := T.fz)
    (strD z) [some (.fz x), none] rfl (fun d hd => by
      obtain ⟨c, hc, rfl⟩ := List.mem_map.mp hd
      simp [inB_sg, abc_eq]) (fun d hd _ => by simp)
  rw [h, strD_cut z fun c => !decide (c ∈ abc)]
  simp
theorem filt_all (p : Nat → Bool) : ∀ l : List Nat, (l.filter fun c => !p c).isEmpty = l.all p
  | [] => rfl
  | x :: l => by
    have ih := filt_all p l
    cases h : p x <;> simp [List.filter_cons, h, ih]
theorem law_name_str {z : Str} (hz : z.length ≤ 1000) (ha : ∀ c ∈ z.cps.toList, c < 128) : F__law_is_name [.fz (.str z)] = some (.ok (.fz (.bl (nameB (.str z)))) [none]) := by
  have e : isTyD [.str z, .ty "str"] = some (.fz (.bl true)) := isT rfl
  have hl : (1 : Int) ≤ z.length ↔ 1 ≤ z.length := by omega
  have hl2 : (z.length : Int) ≤ 8 ↔ z.length ≤ 8 := by omega
  by_cases c1 : 1 ≤ z.length
  · by_cases c2 : z.length ≤ 8
    · have c3 : z.length ≤ 16777216 := by omega
      have hq := eqAD_strs_nil ((z.cps.toList.filter fun c => !decide (c ∈ abc)).map fun c => (⟨#[c]⟩ : Str)) (fun y hy => by
        obtain ⟨c, hc, rfl⟩ := List.mem_map.mp hy
        have := ha c (List.mem_filter.mp hc).1
        simp [PyData.strOk]; omega)
      rw [List.map_map] at hq
      have hq' : eqAD (D.lst (List.map (fun x => D.str { cps := #[x] }) (List.filter (fun c => !decide (c ∈ abc)) z.cps.toList))) (D.lst []) = _ := hq
      simp [F__law_is_name, t__law_is_name, kp__law_is_name, e, len_str hz, c1, c2, hl, hl2, strD_len, abc_lc2, nameB, c3, hq']
      rw [← Array.all_toList]
      exact filt_all (fun c => decide (c ∈ abc)) z.cps.toList
    · simp [F__law_is_name, t__law_is_name, kp__law_is_name, e, len_str hz, c1, c2, hl, hl2, nameB]
  · simp [F__law_is_name, t__law_is_name, kp__law_is_name, e, len_str hz, c1, hl, hl2, nameB]
end Gk01

namespace Gk01
open PySem PySem.Spec PyProof.Rows L2 VL
/-! ### texts of letters -/
def okA (n : Nat) (z : Str) : Prop := z.length ≤ n ∧ ∀ c ∈ z.cps.toList, c ∈ abc
theorem okA.mono {n m : Nat} {z : Str} (h : okA n z) (l : n ≤ m) : okA m z := ⟨Nat.le_trans h.1 l, h.2⟩
theorem okA.cut {n : Nat} {z : Str} (h : okA n z) (lo hi : Option Int) : okA n (L2.cutS z lo hi) := by
  refine ⟨?_, fun c hc => ?_⟩
  · refine Nat.le_trans ?_ h.1
    show (List.toArray _).size ≤ z.cps.size
    rw [List.size_toArray, List.length_take, List.length_drop, Array.length_toList]
    omega
  · have : c ∈ ((z.cps.toList.drop (HT.sIx z.length 0 lo)).take (HT.sIx z.length z.length hi - HT.sIx z.length 0 lo)) := by
      have h2 : (L2.cutS z lo hi).cps.toList = _ := List.toList_toArray
      rw [h2] at hc
      exact hc
    exact h.2 c (List.mem_of_mem_drop (List.mem_of_mem_take this))
theorem okA.app {n m : Nat} {x y : Str} (h : okA n x) (h2 : okA m y) : okA (n + m) (x ++ y) := by
  have e : (x ++ y).cps = x.cps ++ y.cps := rfl
  refine ⟨?_, fun c hc => ?_⟩
  · show (x ++ y).cps.size ≤ _
    rw [e, Array.size_append]
    exact Nat.add_le_add h.1 h2.1
  · rw [e, Array.toList_append, List.mem_append] at hc
    exact hc.elim (h.2 c) (h2.2 c)
theorem okA.sg {c : Nat} (h : c ∈ abc) : okA 1 ⟨#[c]⟩ := ⟨by show 1 ≤ 1; omega, fun d hd => by simp at hd; subst hd; exact h⟩
theorem joinL_sg : ∀ cs : List Nat, TL.joinL [] (cs.map fun c => [c]) = cs
  | [] => rfl
  | [c] => rfl
  | c :: d :: r => by
    have ih := joinL_sg (d :: r)
    simp only [List.map_cons] at ih ⊢
    show [c] ++ ([] ++ _) = _
    rw [ih]; rfl
theorem join_sg (cs : List Nat) : Txt.join "" (cs.map fun c => (⟨#[c]⟩ : Str)) = ⟨cs.toArray⟩ := by
  have h := TL.tl_join "" (cs.map fun c => (⟨#[c]⟩ : Str))
  have e : (cs.map fun c => (⟨#[c]⟩ : Str)).map TL.tl = cs.map fun c => [c] := by rw [List.map_map]; rfl
  have e2 : TL.tl ("" : Str) = [] := rfl
  rw [e, e2, joinL_sg] at h
  rw [TL.join_eq]
  have h' : (Str.join "" (cs.map fun c => (⟨#[c]⟩ : Str))).cps.toList = cs := h
  generalize Str.join "" (cs.map fun c => (⟨#[c]⟩ : Str)) = z at h'
  obtain ⟨a⟩ := z
  have : a = cs.toArray := by
    apply Array.toList_inj.mp
    simpa using h'
  rw [this]
theorem strsOf_map {β : Type} (f : β → Str) : ∀ xs : List β, strsOf (xs.map fun x => .str (f x)) = some (xs.map f)
  | [] => rfl
  | x :: xs => by simp [strsOf, strsOf_map f xs]
theorem sum_sg (cs : List Nat) : ((cs.map fun c => (⟨#[c]⟩ : Str)).map (·.length)).sum = cs.length := by
  induction cs with
  | nil => rfl
  | cons c r ih =>
    simp only [List.map_cons, List.sum_cons, List.length_cons]
    rw [ih]
    show 1 + r.length = _
    omega
theorem mJoin_sg (cs : List Nat) (h : cs.length ≤ 1000) : mJoin (.str "") [.lst (cs.map fun c => .str ⟨#[c]⟩)] = some (.fz (.str ⟨cs.toArray⟩)) := by
  show (strsOf (cs.map fun c => D.str ⟨#[c]⟩)).bind _ = _
  rw [strsOf_map fun c => (⟨#[c]⟩ : Str)]
  simp only [Option.bind_some]
  rw [if_pos, join_sg]
  rw [sum_sg]
  show cs.length + (List.map _ cs).length * 0 ≤ _
  omega
abbrev abcS : Str := "abcdefghijklmnopqrstuvwxyz"
theorem abc_len : abcS.length = 26 := by decide
theorem rng_get {n : Nat} {i : Nat} {d : D} (h : (rngD 0 n)[i]? = some d) : d = .int (i : Int) ∧ i < n := by
  unfold rngD at h
  rw [List.getElem?_map] at h
  by_cases hi : i < n
  · rw [List.getElem?_range hi] at h
    cases h
    exact ⟨by simp, hi⟩
  · rw [List.getElem?_eq_none (by simpa using hi)] at h; cases h
theorem stem_lc {p : T} {n : Nat} {d : Nat} {x5 x6 x7 x8 x9 x10 x3 : Option T} (hp : Pn p n) (hn : n + 20 ≤ 100000) (hd : d ≤ 9) :
    ∃ (p' : T) (cs : List Nat), lcE (gSet 4) bYes (eFn F__law_pick [some 0, none] (mLate 0 (mVal (eVar 2) mNil))) [4] (rngD 0 d) [some p, some (.fz (.int 5)), some (.fz (.str abcS)), x3, none, x5, x6, x7, x8, x9, x10] =
      some ((cs.map fun c => .fz (.str ⟨#[c]⟩)), [some p', some (.fz (.int 5)), some (.fz (.str abcS)), x3, none, x5, x6, x7, x8, x9, x10]) ∧ Pn p' (n + d) ∧ cs.length = d ∧ ∀ c ∈ cs, c ∈ abc := by
  obtain ⟨rs, E', h1, h2⟩ := lcE_inv (g := gSet 4) (tb := bYes) (te := eFn F__law_pick [some 0, none] (mLate 0 (mVal (eVar 2) mNil))) (vs := [4])
    (fun i acc E => ∃ (p' : T) (cs : List Nat), acc = (cs.map fun c => .fz (.str ⟨#[c]⟩)) ∧ E = [some p', some (.fz (.int 5)), some (.fz (.str abcS)), x3, none, x5, x6, x7, x8, x9, x10] ∧ Pn p' (n + i) ∧ cs.length = i ∧ ∀ c ∈ cs, c ∈ abc)
    (rngD 0 d) 0 [] [some p, some (.fz (.int 5)), some (.fz (.str abcS)), x3, none, x5, x6, x7, x8, x9, x10] ⟨p, [], rfl, rfl, hp, rfl, fun _ h => by simp at h⟩ (fun i dd acc E hi hI => by
      obtain ⟨p1, cs, rfl, rfl, hp1, hl, hc⟩ := hI
      obtain ⟨rfl, hid⟩ := rng_get hi
      obtain ⟨c, p2, e, hcz, hp2⟩ := pick_str (z := abcS) hp1 (by omega) (by rw [abc_len]; omega) (by rw [abc_len]; omega)
      rw [abc_eq] at hcz
      refine ⟨_, rfl, .inl ⟨_, .fz (.str ⟨#[c]⟩), _, rfl, by simp [e]; rfl, p2, cs ++ [c], by simp, by simp, by rw [show n + (0 + i + 1) = n + (0 + i) + 1 by omega]; exact hp2, by simp [hl], fun x hx => ?_⟩⟩
      rcases List.mem_append.mp hx with hx | hx
      · exact hc x hx
      · simp at hx; subst hx; exact hcz)
  obtain ⟨p', cs, e1, e2, e3, e4, e5⟩ := h2
  have hlen : (rngD 0 d).length = d := by simp [rngD]
  rw [hlen, Nat.zero_add] at e3 e4
  simp only [List.nil_append] at e1
  subst e1 e2
  exact ⟨p', cs, h1, e3, e4, e5⟩
end Gk01

namespace Gk01
open PySem PySem.Spec PyProof.Rows L2 VL
theorem slD_s {z : Str} {n : Nat} (h : okA n z) (hn : n ≤ 1000) (lo hi : Option Int) : slD (.str z) lo hi = some (.fz (.str (L2.cutS z lo hi))) := by
  show (if z.length ≤ sizeLine then some (T.fz (D.str (L2.cutS z lo hi))) else none) = _
  rw [if_pos (by rw [sizeLine_eq]; have := h.1; omega)]
theorem addD_s {x y : Str} {n m : Nat} (h : okA n x) (h2 : okA m y) (hn : n ≤ 1000) (hm : m ≤ 1000) : addD (.str x) (.str y) = some (.fz (.str (x ++ y))) := by
  show (if x.length + y.length ≤ sizeLine then some (T.fz (D.str (x ++ y))) else none) = _
  rw [if_pos (by rw [sizeLine_eq]; have := h.1; have := h2.1; omega)]
theorem ix_abc {j : Int} (h0 : 0 ≤ j) (h1 : j < 26) : ∃ c, c ∈ abc ∧ ixA (.str abcS) (.int j) = some (.fz (.str ⟨#[c]⟩)) := by
  obtain ⟨x, hx, hm⟩ := atI_some (xs := abcS.cps.toList) h0 (by rw [abc_eq]; exact h1)
  refine ⟨x, by rw [abc_eq] at hm; exact hm, ?_⟩
  show (if abcS.length ≤ sizeLine then (atI abcS.cps.toList j).map fun c => T.fz (.str ⟨#[c]⟩) else none) = _
  rw [if_pos (by rw [abc_len, sizeLine_eq]; omega), hx]; rfl
theorem names_loop {p : T} {stem : Str} {at_ begin trim step : Int} (hs : okA 8 stem) :
    ∃ (ts : List Str) (x4 x10 : Option T), forE (gSet 4) (sSeq (sSet 10 (eIf (bBin eqA (eVar 7) (eC (.int 0))) (eSl slD (eVar 3) (oSo (eBin addD (eVar 5) (eC (.int 1)))) oNo) (eSl slD (eSl slD (eVar 3) (oSo (eBin addD (eVar 5) (eC (.int 1)))) oNo) oNo (oSo (eBin modD (eVar 4) (eC (.int 3)))))))
  (sDrop (eMt 9 "list" gAppend (pName 9) (sid 9 (mVal (eBin addD (eBin addD (eSl slD (eVar 3) oNo (oSo (eVar 5))) (eBin ixA (eVar 2) (eBin modD (eBin addD (eVar 6) (eBin mulD (eVar 8) (eVar 4))) (eC (.int 26))))) (eVar 10)) mNil)))))
      (rngD 0 5) [some p, some (.fz (.int 5)), some (.fz (.str abcS)), some (.fz (.str stem)), none, some (.fz (.int at_)), some (.fz (.int begin)), some (.fz (.int trim)), some (.fz (.int step)), some (.lst []), none] =
      some (.ok .nx [some p, some (.fz (.int 5)), some (.fz (.str abcS)), some (.fz (.str stem)), x4, some (.fz (.int at_)), some (.fz (.int begin)), some (.fz (.int trim)), some (.fz (.int step)), some (.lst (ts.map fun z => .fz (.str z))), x10]) ∧ ts.length = 5 ∧ ∀ z ∈ ts, okA 17 z := by
  obtain ⟨E', h1, h2⟩ := forE_inv (g := gSet 4) (tb := (sSeq (sSet 10 (eIf (bBin eqA (eVar 7) (eC (.int 0))) (eSl slD (eVar 3) (oSo (eBin addD (eVar 5) (eC (.int 1)))) oNo) (eSl slD (eSl slD (eVar 3) (oSo (eBin addD (eVar 5) (eC (.int 1)))) oNo) oNo (oSo (eBin modD (eVar 4) (eC (.int 3)))))))
  (sDrop (eMt 9 "list" gAppend (pName 9) (sid 9 (mVal (eBin addD (eBin addD (eSl slD (eVar 3) oNo (oSo (eVar 5))) (eBin ixA (eVar 2) (eBin modD (eBin addD (eVar 6) (eBin mulD (eVar 8) (eVar 4))) (eC (.int 26))))) (eVar 10)) mNil))))))
    (fun i E => ∃ (ts : List Str) (x4 x10 : Option T), E = [some p, some (.fz (.int 5)), some (.fz (.str abcS)), some (.fz (.str stem)), x4, some (.fz (.int at_)), some (.fz (.int begin)), some (.fz (.int trim)), some (.fz (.int step)), some (.lst (ts.map fun z => .fz (.str z))), x10] ∧ ts.length = i ∧ ∀ z ∈ ts, okA 17 z)
    (rngD 0 5) 0 _ ⟨[], none, none, rfl, rfl, fun _ h => by simp at h⟩ (fun i d E hi hI => by
      obtain ⟨ts, x4, x10, rfl, hl, hts⟩ := hI
      obtain ⟨rfl, hid⟩ := rng_get hi
      refine ⟨_, rfl, ?_⟩
      have cm : CMul step (i : Int) := cmul_r (by omega) (by omega)
      obtain ⟨c, hc, hix⟩ := ix_abc (j := (begin + step * (i : Int)) % 26) (Int.emod_nonneg _ (by omega)) (Int.emod_lt_of_pos _ (by omega))
      have o1 : okA 9 (L2.cutS stem none (some at_) ++ ⟨#[c]⟩) := (hs.cut none (some at_)).app (okA.sg hc)
      have hlen : ts.length < 16777216 := by omega
      by_cases ht : trim = 0
      · have o2 : okA 17 (L2.cutS stem none (some at_) ++ ⟨#[c]⟩ ++ L2.cutS stem (some (at_ + 1)) none) := o1.app (hs.cut _ _)
        refine ⟨[some p, some (.fz (.int 5)), some (.fz (.str abcS)), some (.fz (.str stem)), some (.fz (.int i)), some (.fz (.int at_)), some (.fz (.int begin)), some (.fz (.int trim)), some (.fz (.int step)), some (.lst ((ts ++ [L2.cutS stem none (some at_) ++ ⟨#[c]⟩ ++ L2.cutS stem (some (at_ + 1)) none]).map fun z => .fz (.str z))), some (.fz (.str (L2.cutS stem (some (at_ + 1)) none)))], .inl ?_, ts ++ [L2.cutS stem none (some at_) ++ ⟨#[c]⟩ ++ L2.cutS stem (some (at_ + 1)) none], _, _, rfl, by simp [hl], fun z hz => ?_⟩
        rotate_left
        · rcases List.mem_append.mp hz with hz | hz
          · exact hts z hz
          · simp at hz; rw [hz]; exact o2
        · simp [ht, slD_s hs, cm, hix, addD_s (hs.cut none (some at_)) (okA.sg hc), addD_s o1 (hs.cut (some (at_ + 1)) none), gAppend, hlen]
      · have o2 : okA 17 (L2.cutS stem none (some at_) ++ ⟨#[c]⟩ ++ L2.cutS (L2.cutS stem (some (at_ + 1)) none) none (some ((i : Int) % 3))) := o1.app ((hs.cut _ _).cut _ _)
        refine ⟨[some p, some (.fz (.int 5)), some (.fz (.str abcS)), some (.fz (.str stem)), some (.fz (.int i)), some (.fz (.int at_)), some (.fz (.int begin)), some (.fz (.int trim)), some (.fz (.int step)), some (.lst ((ts ++ [L2.cutS stem none (some at_) ++ ⟨#[c]⟩ ++ L2.cutS (L2.cutS stem (some (at_ + 1)) none) none (some ((i : Int) % 3))]).map fun z => .fz (.str z))), some (.fz (.str (L2.cutS (L2.cutS stem (some (at_ + 1)) none) none (some ((i : Int) % 3)))))], .inl ?_, ts ++ [L2.cutS stem none (some at_) ++ ⟨#[c]⟩ ++ L2.cutS (L2.cutS stem (some (at_ + 1)) none) none (some ((i : Int) % 3))], _, _, rfl, by simp [hl], fun z hz => ?_⟩
        rotate_left
        · rcases List.mem_append.mp hz with hz | hz
          · exact hts z hz
          · simp at hz; rw [hz]; exact o2
        · simp [ht, slD_s hs, slD_s (hs.cut (some (at_ + 1)) none), cm, hix, addD_s (hs.cut none (some at_)) (okA.sg hc), addD_s o1 ((hs.cut (some (at_ + 1)) none).cut none (some ((i : Int) % 3))), gAppend, hlen])
  obtain ⟨ts, x4, x10, rfl, hl, hts⟩ := h2
  exact ⟨ts, x4, x10, h1, by rw [hl]; simp [rngD], hts⟩
end Gk01

namespace Gk01
open PySem PySem.Spec PyProof.Rows L2 VL
abbrev steps : List D := [.int 1, .int 3, .int 5, .int 7, .int 9, .int 11, .int 15, .int 17, .int 19, .int 21, .int 23, .int 25]
theorem okA_chars {cs : List Nat} {n : Nat} (h : ∀ c ∈ cs, c ∈ abc) (hl : cs.length ≤ n) : okA n ⟨cs.toArray⟩ := ⟨by show cs.toArray.size ≤ n; simpa using hl, fun c hc => h c (by simpa using hc)⟩
theorem names_spec {p : T} {n : Nat} (hp : Pn p n) (hn : n + 50 ≤ 100000) :
    ∃ (ts : List Str) (p' : T), F__law_names [p, .fz (.int 5)] = some (.ok (.lst (ts.map fun z => .fz (.str z))) [some p', none]) ∧ ts.length = 5 ∧ (∀ z ∈ ts, okA 17 z) ∧ Pn p' (n + 50) := by
  obtain ⟨d, p1, e1, d0, d1, hp1⟩ := draw (many := 8) hp (by omega) (by omega) (by omega)
  obtain ⟨p2, cs, e2, hp2, hcs, hca⟩ := stem_lc (x3 := none) (x5 := none) (x6 := none) (x7 := none) (x8 := none) (x9 := none) (x10 := none) (d := (1 + d).toNat) hp1 (by omega) (by omega)
  have hr : -4611686018427387904 ≤ 1 + d ∧ 1 + d < 4611686018427387904 := by omega
  have hrl : (rngD 0 (1 + d).toNat).length ≤ 16777216 := by simp [rngD]; omega
  have hst : okA 8 ⟨cs.toArray⟩ := okA_chars hca (by omega)
  have hlen : ((⟨cs.toArray⟩ : Str).length : Int) = ((1 + d).toNat : Int) := by show ((cs.toArray.size : Nat) : Int) = _; simp [hcs]
  have hlz : (⟨cs.toArray⟩ : Str).length ≤ sizeLine := by have := hst.1; rw [sizeLine_eq]; omega
  obtain ⟨a, p3, e3, a0, a1, hp3⟩ := draw (many := ((⟨cs.toArray⟩ : Str).length : Int)) hp2 (by omega) (by omega) (by omega)
  obtain ⟨b, p4, e4, b0, b1, hp4⟩ := draw (many := 26) hp3 (by omega) (by omega) (by omega)
  obtain ⟨t, p5, e5, t0, t1, hp5⟩ := draw (many := 2) hp4 (by omega) (by omega) (by omega)
  obtain ⟨s, p6, e6, hs, hp6⟩ := pick_list (xs := steps) hp5 (by omega) (by simp) (by simp)
  obtain ⟨s', rfl⟩ : ∃ i, s = .int i := by
    simp only [List.mem_cons, List.not_mem_nil, or_false] at hs
    rcases hs with h | h | h | h | h | h | h | h | h | h | h | h <;> exact ⟨_, h⟩
  obtain ⟨ts, x4, x10, e7, hl, hts⟩ := names_loop (p := p6) (stem := ⟨cs.toArray⟩) (at_ := a) (begin := b) (trim := t) (step := s') hst
  refine ⟨ts, p6, ?_, hl, hts, ?_⟩
  · have mj := mJoin_sg cs (by omega)
    simp [F__law_names, t__law_names, kp__law_names, e1, e2, hr, hrl, mj, hlz, e3, e4, e5, e6, e7]
  · obtain ⟨ns, sp, mo, h1, h2, h3, h4⟩ := hp6
    exact ⟨ns, sp, mo, h1, h2, by omega, h4⟩
end Gk01

namespace Gk01
open PySem PySem.Spec PyProof.Rows L2 VL
abbrev oddL : List D := [.non, .bl true, .bl false, .int 0, .int 1, .int (-1), .int 2, .int 1000000000000000000000000000000000000000000000000000000000000, .str "", .str "a", .str "Ab", .str "a b", .str "abcdefgh", .str "abcdefghi", .str "a1", .tup [], .tup [.str "a"],
  .lst [], .lst [.str "a"], .dct [], .dct [(.inr "a", .int 1)], .tup [.tup []], .tup [.int 0], .lst [.int 0], .tup [.non], .lst [.lst []], .tup [.str "a", .str "a"]]
theorem p60 : CPow 10 60 := ⟨by decide, by decide, by decide⟩
theorem odd_spec {p : T} {n : Nat} (hp : Pn p n) (hn : n + 5 ≤ 100000) : ∃ d p', F__law_odd [p] = some (.ok (.fz d) [some p']) ∧ d ∈ oddL ∧ Pn p' (n + 1) := by
  obtain ⟨d, p', e, hd, hp'⟩ := pick_list (xs := oddL) hp (by omega) (by simp) (by simp)
  refine ⟨d, p', ?_, hd, hp'⟩
  have hs : (10 : Nat) ≤ sizeLine := by rw [sizeLine_eq]; omega
  have hs2 : (27 : Nat) ≤ sizeLine := by rw [sizeLine_eq]; omega
  simp [F__law_odd, t__law_odd, kp__law_odd, p60, addD, e, hs2]
theorem upper_abc : abc.all (fun c => (Unicode.upperOf c).all fun d => decide (d < 128)) = true := by decide +kernel
end Gk01

namespace Gk01
open PySem PySem.Spec PyProof.Rows L2 VL
def okS (n : Nat) (z : Str) : Prop := z.length ≤ n ∧ ∀ c ∈ z.cps.toList, c < 128
theorem abc_lt : ∀ c ∈ abc, c < 128 := by decide
theorem okA.s {n : Nat} {z : Str} (h : okA n z) : okS n z := ⟨h.1, fun c hc => abc_lt c (h.2 c hc)⟩
theorem okS.app {n m : Nat} {x y : Str} (h : okS n x) (h2 : okS m y) : okS (n + m) (x ++ y) := by
  have e : (x ++ y).cps = x.cps ++ y.cps := rfl
  refine ⟨?_, fun c hc => ?_⟩
  · show (x ++ y).cps.size ≤ _
    rw [e, Array.size_append]
    exact Nat.add_le_add h.1 h2.1
  · rw [e, Array.toList_append, List.mem_append] at hc
    exact hc.elim (h.2 c) (h2.2 c)
theorem upper_one : ∀ c ∈ abc, Unicode.upperOf c = [c - 32] := by
  have h : abc.all (fun c => decide (Unicode.upperOf c = [c - 32])) = true := by decide +kernel
  intro c hc
  simpa using List.all_eq_true.mp h c hc
theorem okA.up {n : Nat} {z : Str} (h : okA n z) : okS n (Txt.upper z) := by
  have e : (Txt.upper z).cps = z.cps.map (fun c => c - 32) := PyProof.Rows.placed_single z _ _ fun i c hc => upper_one c (h.2 c (List.mem_of_getElem? hc))
  refine ⟨?_, fun c hc => ?_⟩
  · show (Txt.upper z).cps.size ≤ n
    rw [e, Array.size_map]; exact h.1
  · rw [e, Array.toList_map] at hc
    obtain ⟨a, ha, rfl⟩ := List.mem_map.mp hc
    have := abc_lt a (h.2 a ha)
    omega
def goodV (d : D) : Prop := (tyName d).isSome = true ∧ ∀ z, d = .str z → okS 100 z
theorem good_s {z : Str} {n : Nat} (h : okS n z) (hn : n ≤ 100) : goodV (.str z) := ⟨rfl, fun y e => by cases e; exact ⟨Nat.le_trans h.1 hn, h.2⟩⟩
theorem good_is {d : D} (h : goodV d) : F_is_name [.fz d] = some (.ok (.fz (.bl (nameB d))) [none]) := by
  by_cases c : ∃ z, d = .str z
  · obtain ⟨z, rfl⟩ := c
    have := h.2 z rfl
    exact is_name_str (Nat.le_trans this.1 (by omega))
  · have hs : ∀ z, d ≠ .str z := fun z e => c ⟨z, e⟩
    have e : nameB d = false := by cases d <;> first | rfl | exact absurd rfl (hs _)
    rw [e]
    exact is_name_no h.1 hs
theorem good_law {d : D} (h : goodV d) : F__law_is_name [.fz d] = some (.ok (.fz (.bl (nameB d))) [none]) := by
  by_cases c : ∃ z, d = .str z
  · obtain ⟨z, rfl⟩ := c
    have := h.2 z rfl
    exact law_name_str (Nat.le_trans this.1 (by omega)) this.2
  · have hs : ∀ z, d ≠ .str z := fun z e => c ⟨z, e⟩
    have e : nameB d = false := by cases d <;> first | rfl | exact absurd rfl (hs _)
    rw [e]
    exact law_name_no h.1 hs
theorem repr_bl (b : Bool) : reprD [.bl b] = some (.fz (.str (if b then "True" else "False"))) := by cases b <;> kernel_rfl
theorem odd_good : ∀ d ∈ oddL, goodV d := by
  intro d hd
  simp only [List.mem_cons, List.not_mem_nil, or_false] at hd
  have fin : ∀ z : Str, (decide (z.length ≤ 100) && z.cps.toList.all fun c => decide (c < 128)) = true → goodV (.str z) := fun z h => by
    simp only [Bool.and_eq_true, decide_eq_true_eq, List.all_eq_true] at h
    exact good_s (n := 100) h (by omega)
  rcases hd with h | h | h | h | h | h | h | h | h | h | h | h | h | h | h | h | h | h | h | h | h | h | h | h | h | h | h <;> subst h <;> first | exact fin _ (by decide) | exact ⟨rfl, fun _ e => nomatch e⟩
theorem turn2 {d : D} (h : goodV d) (a b c e f : Option T) : (sIf (bBin neA (eCall reprD (aCons (eFn F_is_name [none] (mVal (eVar 5) mNil)) aNil)) (eCall reprD (aCons (eFn F__law_is_name [none] (mVal (eVar 5) mNil)) aNil))) (sRet (eC (.bl false))) sNx) [a, b, c, e, f, some (.fz d)] = some (.ok .nx [a, b, c, e, f, some (.fz d)]) := by
  simp [good_is h, good_law h, repr_bl]
theorem head_repr : reprD [.lst [.int 16, .int 16, .int 12, .int 7, .int 6, .int 5, .int 10, .int 4]] = some (.fz (.str "[16, 16, 12, 7, 6, 5, 10, 4]")) := by kernel_rfl
theorem mok9 : mulOkS "z" 9 := ⟨by decide, by decide, by decide⟩
theorem mok8 : mulOkS "z" 8 := ⟨by decide, by decide, by decide⟩
theorem mulz9 : Txt.mul "z" 9 = "zzzzzzzzz" := by kernel_rfl
theorem mulz8 : Txt.mul "z" 8 = "zzzzzzzz" := by kernel_rfl
theorem addL {x y : Str} {n m : Nat} (h : okS n x) (h2 : okS m y) (hn : n ≤ 1000) (hm : m ≤ 1000) : addD (.str x) (.str y) = some (.fz (.str (x ++ y))) := by
  show (if x.length + y.length ≤ sizeLine then some (T.fz (D.str (x ++ y))) else none) = _
  rw [if_pos (by rw [sizeLine_eq]; have := h.1; have := h2.1; omega)]
theorem okS_of {z : Str} {n : Nat} (h : (decide (z.length ≤ n) && z.cps.toList.all fun c => decide (c < 128)) = true) : okS n z := by
  simp only [Bool.and_eq_true, decide_eq_true_eq, List.all_eq_true] at h
  exact h
def bout : Ev Fl :=
  (sSeq (sSet 4 (eFn F__law_pick [some 1, none] (mLate 1 (mVal (eFn F__law_names [some 1, none] (mLate 1 (mVal (eC (.int 5)) mNil))) mNil))))
  (sSeq (sSet 2 (eLst (mOwn (eVar 4) (mOwn (eBin addD (eVar 4) (eC (.str "a"))) (mOwn (eSl slD (eVar 4) oNo (oSo (eUn negD (eC (.int 1))))) (mOwn (eMv "str" mUpper (eVar 4) aNil) (mOwn (eBin addD (eVar 4) (eC (.str " "))) (mOwn (eBin addD (eC (.str " ")) (eVar 4)) (mOwn (eBin addD (eVar 4) (eC (.str "1"))) (mOwn (eBin mulD (eC (.str "z")) (eC (.int 9))) (mOwn (eBin mulD (eC (.str "z")) (eC (.int 8))) mNil)))))))))))
  (sFor (iAny (eTup (mOwn (eFn F__law_pick [some 1, none] (mLate 1 (mVal (eVar 2) mNil))) (mOwn (eFn F__law_odd [some 1] (mLate 1 mNil)) mNil)))) (gSet 5) (sIf (bBin neA (eCall reprD (aCons (eFn F_is_name [none] (mVal (eVar 5) mNil)) aNil)) (eCall reprD (aCons (eFn F__law_is_name [none] (mVal (eVar 5) mNil)) aNil))) (sRet (eC (.bl false))) sNx))))
theorem bout_spec (ns : List Int) (i : Nat) (d : D) (E : En) (hi : (rngD 0 12)[i]? = some d) (hI : ∃ p x2 x3 x4 x5, E = [some (.fz (.scr ns)), some p, x2, x3, x4, x5] ∧ Pn p (i * 100)) :
    ∃ E1, gSet 3 (.fz d) E = some E1 ∧ ∃ E2, (bout E1 = some (.ok .nx E2) ∨ bout E1 = some (.ok .ct E2)) ∧ ∃ p x2 x3 x4 x5, E2 = [some (.fz (.scr ns)), some p, x2, x3, x4, x5] ∧ Pn p ((i + 1) * 100) := by
    revert hi hI
    rintro hi ⟨p, x2, x3, x4, x5, rfl, hp⟩
    obtain ⟨rfl, hid⟩ := rng_get hi
    obtain ⟨ts, p1, e1, hl, hts, hp1⟩ := names_spec hp (by omega)
    have hts0 : ts ≠ [] := fun h => by rw [h] at hl; simp at hl
    obtain ⟨nm, p2, e2, hnm, hp2⟩ := pick_list (xs := ts.map D.str) hp1 (by omega) (by simpa using hts0) (by rw [List.length_map]; omega)
    obtain ⟨z, hz, rfl⟩ := List.mem_map.mp hnm
    have oz := hts z hz
    have ha : okS 1 "a" := okS_of (by decide)
    have hb : okS 1 " " := okS_of (by decide)
    have h1 : okS 1 "1" := okS_of (by decide)
    have hu : mUpper (.str z) [] = some (.fz (.str (Txt.upper z))) := by
      show (if z.length ≤ 5592405 then some (T.fz (D.str (Txt.upper z))) else none) = _
      rw [if_pos (by have := oz.1; omega)]
    obtain ⟨v1, p3, e3, hv1, hp3⟩ := pick_list (xs := [D.str z, .str (z ++ "a"), .str (L2.cutS z none (some (-1))), .str (Txt.upper z), .str (z ++ " "), .str (" " ++ z), .str (z ++ "1"), .str "zzzzzzzzz", .str "zzzzzzzz"]) hp2 (by omega) (by simp) (by simp)
    have g1 : goodV v1 := by
      simp only [List.mem_cons, List.not_mem_nil, or_false] at hv1
      rcases hv1 with h | h | h | h | h | h | h | h | h <;> subst h
      · exact good_s oz.s (by omega)
      · exact good_s (oz.s.app ha) (by omega)
      · exact good_s (oz.cut _ _).s (by omega)
      · exact good_s oz.up (by omega)
      · exact good_s (oz.s.app hb) (by omega)
      · exact good_s (hb.app oz.s) (by omega)
      · exact good_s (oz.s.app h1) (by omega)
      · exact good_s (n := 9) (okS_of (by decide)) (by omega)
      · exact good_s (n := 8) (okS_of (by decide)) (by omega)
    obtain ⟨v2, p4, e4, hv2, hp4⟩ := odd_spec hp3 (by omega)
    have g2 := odd_good v2 hv2
    refine ⟨_, rfl, [some (.fz (.scr ns)), some p4, some (.fz (.lst [D.str z, .str (z ++ "a"), .str (L2.cutS z none (some (-1))), .str (Txt.upper z), .str (z ++ " "), .str (" " ++ z), .str (z ++ "1"), .str "zzzzzzzzz", .str "zzzzzzzz"])), some (.fz (.int (i : Int))), some (.fz (.str z)), some (.fz v2)], .inl ?_, p4, _, _, _, _, rfl, ?_⟩
    rotate_left
    · obtain ⟨ns', sp, mo, q1, q2, q3, q4⟩ := hp4
      exact ⟨ns', sp, mo, q1, q2, by push_cast at q3 ⊢; omega, q4⟩
    · simp [bout, e1, e2, addL oz.s ha, addL oz.s hb, addL hb oz.s, addL oz.s h1, slD_s oz, hu, mok9, mok8, mulz9, mulz8, e3, e4, forE, good_is g1, good_law g1, good_is g2, good_law g2, repr_bl]
theorem law_spec (ns : List Int) : ∃ E, F_law [.fz (.scr ns)] = some (.ok (.fz (.bl true)) E) := by
  obtain ⟨E', h1, p, x2, x3, x4, x5, rfl, _⟩ := forE_inv (g := gSet 3) (tb := bout) (fun i E => ∃ p x2 x3 x4 x5, E = [some (.fz (.scr ns)), some p, x2, x3, x4, x5] ∧ Pn p (i * 100)) (rngD 0 12) 0
    [some (.fz (.scr ns)), some (pen (ns.take 63) 0 0), some (.fz (.lst [.int 16, .int 16, .int 12, .int 7, .int 6, .int 5, .int 10, .int 4])), none, none, none] ⟨_, _, _, _, _, rfl, _, 0, 0, rfl, by omega, by omega, by omega⟩
    fun i d E hi hI => bout_spec ns i d E hi (by simpa using hI) |>.imp fun E1 h => ⟨h.1, h.2.imp fun E2 h => ⟨h.1, by simpa using h.2⟩⟩
  unfold bout at h1
  refine ⟨[none], ?_⟩
  simp [F_law, t_law, kp_law, pen_spec, head_repr, h1]
end Gk01

namespace Gk01
open PySem PySem.Spec PyProof.Rows L2 VL
/-! ### the head: facts by names, the run -/
def dd_is_name : He.DefD := ⟨("is_name", none), "is_name", "is_name", defArgs s_is_name, defBody s_is_name, defScope s_is_name, [], []⟩
def dd__law_pen : He.DefD := ⟨("_law_pen", none), "_law_pen", "_law_pen", defArgs s__law_pen, defBody s__law_pen, defScope s__law_pen, [], []⟩
def dd__law_draw : He.DefD := ⟨("_law_draw", none), "_law_draw", "_law_draw", defArgs s__law_draw, defBody s__law_draw, defScope s__law_draw, [], []⟩
def dd__law_pick : He.DefD := ⟨("_law_pick", none), "_law_pick", "_law_pick", defArgs s__law_pick, defBody s__law_pick, defScope s__law_pick, [], []⟩
def dd__law_names : He.DefD := ⟨("_law_names", none), "_law_names", "_law_names", defArgs s__law_names, defBody s__law_names, defScope s__law_names, [], []⟩
def dd__law_odd : He.DefD := ⟨("_law_odd", none), "_law_odd", "_law_odd", defArgs s__law_odd, defBody s__law_odd, defScope s__law_odd, [], []⟩
def dd__law_is_name : He.DefD := ⟨("_law_is_name", none), "_law_is_name", "_law_is_name", defArgs s__law_is_name, defBody s__law_is_name, defScope s__law_is_name, [], []⟩
def dd_law : He.DefD := ⟨("law", none), "law", "law", defArgs s_law, defBody s_law, defScope s_law, [], []⟩
def fnL : List He.DefD := [dd_is_name, dd__law_pen, dd__law_draw, dd__law_pick, dd__law_names, dd__law_odd, dd__law_is_name, dd_law]
def faL : List He.Fa := [.glo "is_name", .glo "_law_pen", .glo "_law_draw", .glo "_law_pick", .glo "_law_names", .glo "_law_odd", .glo "_law_is_name", .glo "law", .free "abs", .free "all", .free "isinstance", .free "len", .free "list", .free "range", .free "repr", .free "str", .int "ARRIVALS" (6), .int "COUNTED" (12), .int "GIFTS" (16), .int "GUESTS" (16), .int "HOUSE" (5), .str "LETTERS" "abcdefghijklmnopqrstuvwxyz", .int "LISTED" (7), .int "LOGGED" (10), .int "LONGEST_NAME" (8), .int "PLANNED" (4)]
def looseL : List PySem.Str := ["GUESTS", "GIFTS", "COUNTED", "LISTED", "ARRIVALS", "HOUSE", "LOGGED", "PLANNED", "LETTERS", "LONGEST_NAME", "is_name", "_law_pen", "_law_draw", "_law_pick", "_law_names", "_law_odd", "_law_is_name"]
abbrev RR : PySem.W.OpenRow := PySem.W.OpenLaw.row PySem.Challenge.rw_lastturn_k01_names_and_constants
abbrev hkH : PySem.W.Hook := He.hookD 4 faL fnL
def obH (s : PySem.W.SharedT) : He.AlD := He.obsDG 4 faL fnL (HandSHeadRun.getT s)
theorem ob_eq (s : PySem.W.SharedT) : obH s = hkH.obs s.abs := He.obsDG_eq (HandSHeadRun.getT_eq s)
theorem runH (w : World) : HandSHeadRun.RunEq RR (PySem.W.view RR.prog [19]) hkH obH 3000 looseL w := by
  intro os
  kernel_rfl
theorem factsH {K : PySem.W.Frag} {h : Heap} {mg : Str → Option Value} (X : K.In h) (G : h.Ns mainGlobals mg) (c : He.SaysD faL fnL K) (base : Heap) (hs : ∃ o, base.get? sysModules = some o) : Fx K mg base := by
  obtain ⟨fd_is_name, F_is_name⟩ := c.def_ 0 (d := dd_is_name) rfl
  obtain ⟨fd__law_pen, F__law_pen⟩ := c.def_ 1 (d := dd__law_pen) rfl
  obtain ⟨fd__law_draw, F__law_draw⟩ := c.def_ 2 (d := dd__law_draw) rfl
  obtain ⟨fd__law_pick, F__law_pick⟩ := c.def_ 3 (d := dd__law_pick) rfl
  obtain ⟨fd__law_names, F__law_names⟩ := c.def_ 4 (d := dd__law_names) rfl
  obtain ⟨fd__law_odd, F__law_odd⟩ := c.def_ 5 (d := dd__law_odd) rfl
  obtain ⟨fd__law_is_name, F__law_is_name⟩ := c.def_ 6 (d := dd__law_is_name) rfl
  obtain ⟨fd_law, F_law⟩ := c.def_ 7 (d := dd_law) rfl
  exact {
    sys := hs
    n_abs := He.free_ok X G (c.fact 8 (f := .free "abs") rfl)
    n_all := He.free_ok X G (c.fact 9 (f := .free "all") rfl)
    n_isinstance := He.free_ok X G (c.fact 10 (f := .free "isinstance") rfl)
    n_len := He.free_ok X G (c.fact 11 (f := .free "len") rfl)
    n_list := He.free_ok X G (c.fact 12 (f := .free "list") rfl)
    n_range := He.free_ok X G (c.fact 13 (f := .free "range") rfl)
    n_repr := He.free_ok X G (c.fact 14 (f := .free "repr") rfl)
    n_str := He.free_ok X G (c.fact 15 (f := .free "str") rfl)
    c_ARRIVALS := He.int_ok X G (c.fact 16 (f := .int "ARRIVALS" (6)) rfl)
    c_COUNTED := He.int_ok X G (c.fact 17 (f := .int "COUNTED" (12)) rfl)
    c_GIFTS := He.int_ok X G (c.fact 18 (f := .int "GIFTS" (16)) rfl)
    c_GUESTS := He.int_ok X G (c.fact 19 (f := .int "GUESTS" (16)) rfl)
    c_HOUSE := He.int_ok X G (c.fact 20 (f := .int "HOUSE" (5)) rfl)
    c_LETTERS := He.str_ok X G (c.fact 21 (f := .str "LETTERS" "abcdefghijklmnopqrstuvwxyz") rfl)
    c_LISTED := He.int_ok X G (c.fact 22 (f := .int "LISTED" (7)) rfl)
    c_LOGGED := He.int_ok X G (c.fact 23 (f := .int "LOGGED" (10)) rfl)
    c_LONGEST_NAME := He.int_ok X G (c.fact 24 (f := .int "LONGEST_NAME" (8)) rfl)
    c_PLANNED := He.int_ok X G (c.fact 25 (f := .int "PLANNED" (4)) rfl)
    d_is_name := ⟨_, fd_is_name, He.glo_ok X G (c.fact 0 (f := .glo "is_name") rfl), F_is_name⟩
    d__law_pen := ⟨_, fd__law_pen, He.glo_ok X G (c.fact 1 (f := .glo "_law_pen") rfl), F__law_pen⟩
    d__law_draw := ⟨_, fd__law_draw, He.glo_ok X G (c.fact 2 (f := .glo "_law_draw") rfl), F__law_draw⟩
    d__law_pick := ⟨_, fd__law_pick, He.glo_ok X G (c.fact 3 (f := .glo "_law_pick") rfl), F__law_pick⟩
    d__law_names := ⟨_, fd__law_names, He.glo_ok X G (c.fact 4 (f := .glo "_law_names") rfl), F__law_names⟩
    d__law_odd := ⟨_, fd__law_odd, He.glo_ok X G (c.fact 5 (f := .glo "_law_odd") rfl), F__law_odd⟩
    d__law_is_name := ⟨_, fd__law_is_name, He.glo_ok X G (c.fact 6 (f := .glo "_law_is_name") rfl), F__law_is_name⟩
    d_law := ⟨_, fd_law, He.glo_ok X G (c.fact 7 (f := .glo "law") rfl), F_law⟩ }
theorem endH {w : World} {K : PySem.W.Frag} {h : Heap} {mg : Str → Option Value} {f : Addr} (X : K.In h) (G : h.Ns mainGlobals mg) (hfa : mg ("law" : Str) = some (.ref f)) (c : He.SaysD faL fnL K) :
    ∃ (K : PySem.W.Frag) (cl : Str → Addr) (fd : FuncData) (F : List T → Option (Out T)), K.In h ∧ (∀ (s : Shared) (u : Value), BindsTo s fd ⟨[u], []⟩ [("_law_script", u)]) ∧
      (∀ ns : List Int, ns.length ≤ 63 → (∀ z ∈ ns, Builtin.Int.intBits z ≤ 1048576) → ∃ E, F [.fz (.scr ns)] = some (.ok (.fz (.bl true)) E)) ∧
      ∀ base : Heap, K.In base → base.Ns mainGlobals mg → (∃ o, base.get? sysModules = some o) → FnV (PySem.Challenge.rw_lastturn_k01_names_and_constants).prog w K mg base cl 4 f fd ["_law_script"] F := by
  obtain ⟨fd, F⟩ := c.def_ 7 (d := dd_law) rfl
  have e := hfa.symm.trans (He.glo_ok X G (c.fact 7 (f := .glo "law") rfl))
  cases e
  have b := FunD.bindsA (ps := ["_law_script"]) F fun _ _ _ _ _ _ us hl => match us, hl with | [_], _ => rfl
  refine ⟨K, fun _ => 0, fd, F_law, X, fun s v => b s [v] rfl, fun ns h1 h2 => law_spec ns, fun base hK hG hs => ?_⟩
  exact v_law (factsH X G c base hs) F
end Gk01
open PySem PySem.W PySem.Calls PyProof.Rows
theorem PySem.Challenge.cw_lastturn_k01_names_and_constants_holds : PySem.Challenge.rw_lastturn_k01_names_and_constants.Holds := by
  w_on; o_law
  refine HandSHeadRun.head_any (r := OpenLaw.row PySem.Challenge.rw_lastturn_k01_names_and_constants) (q := view (OpenLaw.row PySem.Challenge.rw_lastturn_k01_names_and_constants).prog [19]) (H := Gk01.hkH) (ob := Gk01.obH) (M := 3000) (loose := Gk01.looseL) (d := HandSHeadRun.topDef (OpenLaw.row PySem.Challenge.rw_lastturn_k01_names_and_constants).prog 19) (kwd := []) Gk01.ob_eq
    (by kernel_rfl) (fun s => by kernel_rfl) Gk01.runH (by kernel_rfl) (by kernel_rfl) (by kernel_rfl) (by rfl) (by first | assumption | decide +kernel) (by decide +kernel) ⟨rfl, rfl, rfl, rfl, rfl, by decide +kernel⟩ ?hw ?hc
  case hw => w_witness2
  case hc =>
    refine VL.walk_ofV (l := PySem.Challenge.rw_lastturn_k01_names_and_constants) (n := 63) (k := 4) (x := "_law_script") rfl (by decide) (by kernel_rfl) ⟨rfl, by decide, by decide⟩ (by kernel_rfl) ?F
    intro w mg fa h Y G hmg0
    obtain ⟨K, KX, c⟩ := Y
    have hmg : mg ("law" : PySem.Str) = some (.ref fa) := by
      have e : (HandSHeadRun.topDef (OpenLaw.row PySem.Challenge.rw_lastturn_k01_names_and_constants).prog 19).name = ("law" : PySem.Str) := by kernel_rfl
      rw [← e]
      exact hmg0
    exact Gk01.endH KX G hmg c
