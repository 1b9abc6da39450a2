import PyProof.Rows.All
import Wide.All
import OpenK.AllK
import Wide.FinOn
import HandS.ForMost
import HandS.ForExc
import HandS.CallSlots
import HandS.Wide
import HandS.TryOnly
import HandS.Zip
import KE.GoesNew
import HandS.WideBits
import HandS.IsInst
import HandS.Replace
import PyProof.StrLawsFirst
import PySem.Challenge.RW_marktruly_k47_tails_of_hits
set_option linter.all false
set_option Elab.async false
set_option maxRecDepth 100000
namespace BV
open PySem PySem.Spec PyProof.Rows L2

/-! ### data by value, and how it lies in a heap -/
inductive D where
  | non | bl (b : Bool) | int (i : Int) | str (x : Str) | ty (n : String) | adr (a : Addr)
  | tup (xs : List D) | lst (xs : List D) | lok (xs : List D) | dct (kvs : List (Key × D)) | dcT (kvs : List (List Key × D)) | obj (C : Addr) (fs : List (Str × D))
inductive W where
  | frz (d : D) | brw (d : D)
  | olst (ws : List W) | otup (ws : List W) | odct (kvs : List (Key × W)) | odcT (kvs : List (List Key × W)) | oobj (C : Addr) (fs : List (Str × W))

theorem sameSqT {K : PySem.W.Frag} {H H' : Hp} {a : Addr} {xs : List V} (e : Same H H') (h : SqT K H a xs) : SqT K H' a xs := by
  rcases h with (h | ⟨o, h⟩) | h
  · exact .inl (.inl (e _ _ h))
  · exact .inl (.inr ⟨o, e _ _ h⟩)
  · exact .inr h
section
variable (K : PySem.W.Frag) (F : Hp)
mutual
def Rep : D → V → Prop
  | .non, v => v = .non
  | .bl b, v => v = .bl b
  | .int i, v => v = .int i
  | .str x, v => v = .str x
  | .ty n, v => v = .ty n
  | .adr a, v => v = .ref a
  | .tup xs, v => ∃ a vs, v = .ref a ∧ SqT K F a vs ∧ Reps xs vs
  | .lst xs, v => ∃ a vs, v = .ref a ∧ F a = some (.lst vs) ∧ Reps xs vs
  | .lok xs, v => ∃ a vs, v = .ref a ∧ SqL K F a vs ∧ Reps xs vs
  | .dct kvs, v => ∃ a ws, v = .ref a ∧ F a = some (.dK ws) ∧ RepK kvs ws
  | .dcT kvs, v => ∃ a ws, v = .ref a ∧ F a = some (.dT ws) ∧ RepT kvs ws
  | .obj C fs, v => ∃ a dx ws, v = .ref a ∧ F a = some (.ins C dx ws) ∧ RepF fs ws
def Reps : List D → List V → Prop
  | [], vs => vs = []
  | d :: ds, vs => ∃ v r, vs = v :: r ∧ Rep d v ∧ Reps ds r
def RepK : List (Key × D) → List (Key × V) → Prop
  | [], vs => vs = []
  | (k, d) :: ds, vs => ∃ v r, vs = (k, v) :: r ∧ Rep d v ∧ RepK ds r
def RepT : List (List Key × D) → List (List Key × V) → Prop
  | [], vs => vs = []
  | (k, d) :: ds, vs => ∃ v r, vs = (k, v) :: r ∧ Rep d v ∧ RepT ds r
def RepF : List (Str × D) → List (Str × V) → Prop
  | [], vs => vs = []
  | (k, d) :: ds, vs => ∃ v r, vs = (k, v) :: r ∧ Rep d v ∧ RepF ds r
end
end
section
variable {K : PySem.W.Frag} {F F' : Hp}
mutual
theorem Rep.mono (s : Same F F') : ∀ {d : D} {v : V}, Rep K F d v → Rep K F' d v
  | .non, _, h => h
  | .bl _, _, h => h
  | .int _, _, h => h
  | .str _, _, h => h
  | .ty _, _, h => h
  | .adr _, _, h => h
  | .tup _, _, ⟨a, vs, e, q, r⟩ => ⟨a, vs, e, sameSqT s q, Reps.mono s r⟩
  | .lst _, _, ⟨a, vs, e, q, r⟩ => ⟨a, vs, e, s _ _ q, Reps.mono s r⟩
  | .lok _, _, ⟨a, vs, e, q, r⟩ => ⟨a, vs, e, s.seq q, Reps.mono s r⟩
  | .dct _, _, ⟨a, vs, e, q, r⟩ => ⟨a, vs, e, s _ _ q, RepK.mono s r⟩
  | .dcT _, _, ⟨a, vs, e, q, r⟩ => ⟨a, vs, e, s _ _ q, RepT.mono s r⟩
  | .obj _ _, _, ⟨a, dx, vs, e, q, r⟩ => ⟨a, dx, vs, e, s _ _ q, RepF.mono s r⟩
theorem Reps.mono (s : Same F F') : ∀ {d : List D} {v : List V}, Reps K F d v → Reps K F' d v
  | [], _, h => h
  | _ :: _, _, ⟨v, r, e, h, t⟩ => ⟨v, r, e, Rep.mono s h, Reps.mono s t⟩
theorem RepK.mono (s : Same F F') : ∀ {d : List (Key × D)} {v : List (Key × V)}, RepK K F d v → RepK K F' d v
  | [], _, h => h
  | (_, _) :: _, _, ⟨v, r, e, h, t⟩ => ⟨v, r, e, Rep.mono s h, RepK.mono s t⟩
theorem RepT.mono (s : Same F F') : ∀ {d : List (List Key × D)} {v : List (List Key × V)}, RepT K F d v → RepT K F' d v
  | [], _, h => h
  | (_, _) :: _, _, ⟨v, r, e, h, t⟩ => ⟨v, r, e, Rep.mono s h, RepT.mono s t⟩
theorem RepF.mono (s : Same F F') : ∀ {d : List (Str × D)} {v : List (Str × V)}, RepF K F d v → RepF K F' d v
  | [], _, h => h
  | (_, _) :: _, _, ⟨v, r, e, h, t⟩ => ⟨v, r, e, Rep.mono s h, RepF.mono s t⟩
end
end
def D.scal : D → Bool
  | .non | .bl _ | .int _ | .str _ | .ty _ | .adr _ => true
  | _ => false
theorem Rep.scal {K : PySem.W.Frag} {F F' : Hp} : ∀ {d : D} {v : V}, d.scal = true → Rep K F d v → Rep K F' d v
  | .non, _, _, h => h
  | .bl _, _, _, h => h
  | .int _, _, _, h => h
  | .str _, _, _, h => h
  | .ty _, _, _, h => h
  | .adr _, _, _, h => h

/-! ### values of the reading: frozen, borrowed, owned -/
section
variable (K : PySem.W.Frag) (F B H : Hp)
mutual
def RepW : W → V → List Addr → Prop
  | .frz d, v, as => Rep K F d v ∧ as = []
  | .brw d, v, as => Rep K B d v ∧ as = []
  | .olst ws, v, as => ∃ a vs bs, v = .ref a ∧ H a = some (.lst vs) ∧ as = a :: bs ∧ RepWs ws vs bs
  | .otup ws, v, as => ∃ a vs bs, v = .ref a ∧ H a = some (.tup vs) ∧ as = a :: bs ∧ RepWs ws vs bs
  | .odct kvs, v, as => ∃ a ws bs, v = .ref a ∧ H a = some (.dK ws) ∧ as = a :: bs ∧ RepWK kvs ws bs
  | .odcT kvs, v, as => ∃ a ws bs, v = .ref a ∧ H a = some (.dT ws) ∧ as = a :: bs ∧ RepWT kvs ws bs
  | .oobj C fs, v, as => ∃ a dx ws bs, v = .ref a ∧ H a = some (.ins C dx ws) ∧ as = a :: bs ∧ RepWF fs ws bs
def RepWs : List W → List V → List Addr → Prop
  | [], vs, as => vs = [] ∧ as = []
  | w :: ws, vs, as => ∃ v r a1 a2, vs = v :: r ∧ as = a1 ++ a2 ∧ RepW w v a1 ∧ RepWs ws r a2
def RepWK : List (Key × W) → List (Key × V) → List Addr → Prop
  | [], vs, as => vs = [] ∧ as = []
  | (k, w) :: ws, vs, as => ∃ v r a1 a2, vs = (k, v) :: r ∧ as = a1 ++ a2 ∧ RepW w v a1 ∧ RepWK ws r a2
def RepWT : List (List Key × W) → List (List Key × V) → List Addr → Prop
  | [], vs, as => vs = [] ∧ as = []
  | (k, w) :: ws, vs, as => ∃ v r a1 a2, vs = (k, v) :: r ∧ as = a1 ++ a2 ∧ RepW w v a1 ∧ RepWT ws r a2
def RepWF : List (Str × W) → List (Str × V) → List Addr → Prop
  | [], vs, as => vs = [] ∧ as = []
  | (k, w) :: ws, vs, as => ∃ v r a1 a2, vs = (k, v) :: r ∧ as = a1 ++ a2 ∧ RepW w v a1 ∧ RepWF ws r a2
end
end
/-- p stands in as -/
abbrev In (p : Addr) (as : List Addr) : Prop := 0 < List.count p as
theorem in_l {p : Addr} {a b : List Addr} (h : In p a) : In p (a ++ b) := by unfold In at *; rw [List.count_append]; omega
theorem in_r {p : Addr} {a b : List Addr} (h : In p b) : In p (a ++ b) := by unfold In at *; rw [List.count_append]; omega
theorem in_h {p : Addr} {a : List Addr} : In p (p :: a) := by unfold In; rw [List.count_cons_self]; omega
theorem in_t {p q : Addr} {a : List Addr} (h : In p a) : In p (q :: a) := by unfold In at *; rw [List.count_cons]; omega
theorem in_app {p : Addr} {a b : List Addr} (h : In p (a ++ b)) : In p a ∨ In p b := by unfold In at *; rw [List.count_append] at h; omega
theorem in_cons {p q : Addr} {a : List Addr} (h : In p (q :: a)) : p = q ∨ In p a := by
  unfold In at *
  by_cases e : q = p
  · exact .inl e.symm
  · rw [List.count_cons_of_ne (by simpa using e)] at h
    exact .inr h
theorem in_nil {p : Addr} (h : In p []) : False := by simp [In] at h
/-- what stands at the addresses stays -/
def Kept (as : List Addr) (H H' : Hp) : Prop := ∀ p, In p as → ∀ o, H p = some o → H' p = some o
theorem Kept.l {a b : List Addr} {H H' : Hp} (k : Kept (a ++ b) H H') : Kept a H H' := fun p h => k p (in_l h)
theorem Kept.r {a b : List Addr} {H H' : Hp} (k : Kept (a ++ b) H H') : Kept b H H' := fun p h => k p (in_r h)
theorem Kept.t {a : Addr} {b : List Addr} {H H' : Hp} (k : Kept (a :: b) H H') : Kept b H H' := fun p h => k p (in_t h)
theorem Kept.h {a : Addr} {b : List Addr} {H H' : Hp} (k : Kept (a :: b) H H') {o : HO} (e : H a = some o) : H' a = some o := k a in_h o e
section
variable {K : PySem.W.Frag} {F F' B B' H H' : Hp}
mutual
theorem RepW.frame (sF : Same F F') (sB : Same B B') : ∀ {w : W} {v : V} {as : List Addr}, Kept as H H' → RepW K F B H w v as → RepW K F' B' H' w v as
  | .frz _, _, _, _, ⟨h, e⟩ => ⟨h.mono sF, e⟩
  | .brw _, _, _, _, ⟨h, e⟩ => ⟨h.mono sB, e⟩
  | .olst _, _, _, k, ⟨a, vs, bs, e, q, ea, r⟩ => by subst ea; exact ⟨a, vs, bs, e, k.h q, rfl, RepWs.frame sF sB k.t r⟩
  | .otup _, _, _, k, ⟨a, vs, bs, e, q, ea, r⟩ => by subst ea; exact ⟨a, vs, bs, e, k.h q, rfl, RepWs.frame sF sB k.t r⟩
  | .odct _, _, _, k, ⟨a, vs, bs, e, q, ea, r⟩ => by subst ea; exact ⟨a, vs, bs, e, k.h q, rfl, RepWK.frame sF sB k.t r⟩
  | .odcT _, _, _, k, ⟨a, vs, bs, e, q, ea, r⟩ => by subst ea; exact ⟨a, vs, bs, e, k.h q, rfl, RepWT.frame sF sB k.t r⟩
  | .oobj _ _, _, _, k, ⟨a, dx, vs, bs, e, q, ea, r⟩ => by subst ea; exact ⟨a, dx, vs, bs, e, k.h q, rfl, RepWF.frame sF sB k.t r⟩
theorem RepWs.frame (sF : Same F F') (sB : Same B B') : ∀ {w : List W} {v : List V} {as : List Addr}, Kept as H H' → RepWs K F B H w v as → RepWs K F' B' H' w v as
  | [], _, _, _, h => h
  | _ :: _, _, _, k, ⟨v, r, a1, a2, e, ea, h, t⟩ => by subst ea; exact ⟨v, r, a1, a2, e, rfl, RepW.frame sF sB k.l h, RepWs.frame sF sB k.r t⟩
theorem RepWK.frame (sF : Same F F') (sB : Same B B') : ∀ {w : List (Key × W)} {v : List (Key × V)} {as : List Addr}, Kept as H H' → RepWK K F B H w v as → RepWK K F' B' H' w v as
  | [], _, _, _, h => h
  | (_, _) :: _, _, _, k, ⟨v, r, a1, a2, e, ea, h, t⟩ => by subst ea; exact ⟨v, r, a1, a2, e, rfl, RepW.frame sF sB k.l h, RepWK.frame sF sB k.r t⟩
theorem RepWT.frame (sF : Same F F') (sB : Same B B') : ∀ {w : List (List Key × W)} {v : List (List Key × V)} {as : List Addr}, Kept as H H' → RepWT K F B H w v as → RepWT K F' B' H' w v as
  | [], _, _, _, h => h
  | (_, _) :: _, _, _, k, ⟨v, r, a1, a2, e, ea, h, t⟩ => by subst ea; exact ⟨v, r, a1, a2, e, rfl, RepW.frame sF sB k.l h, RepWT.frame sF sB k.r t⟩
theorem RepWF.frame (sF : Same F F') (sB : Same B B') : ∀ {w : List (Str × W)} {v : List (Str × V)} {as : List Addr}, Kept as H H' → RepWF K F B H w v as → RepWF K F' B' H' w v as
  | [], _, _, _, h => h
  | (_, _) :: _, _, _, k, ⟨v, r, a1, a2, e, ea, h, t⟩ => by subst ea; exact ⟨v, r, a1, a2, e, rfl, RepW.frame sF sB k.l h, RepWF.frame sF sB k.r t⟩
end
end
/-! ### what is read -/
mutual
def W.rd : W → D
  | .frz d => d
  | .brw d => d
  | .olst ws => .lst (rds ws)
  | .otup ws => .tup (rds ws)
  | .odct kvs => .dct (rdK kvs)
  | .odcT kvs => .dcT (rdT kvs)
  | .oobj C fs => .obj C (rdF fs)
def rds : List W → List D
  | [] => []
  | w :: ws => w.rd :: rds ws
def rdK : List (Key × W) → List (Key × D)
  | [] => []
  | (k, w) :: ws => (k, w.rd) :: rdK ws
def rdT : List (List Key × W) → List (List Key × D)
  | [] => []
  | (k, w) :: ws => (k, w.rd) :: rdT ws
def rdF : List (Str × W) → List (Str × D)
  | [] => []
  | (k, w) :: ws => (k, w.rd) :: rdF ws
end
section
variable {K : PySem.W.Frag} {F B H : Hp}
mutual
theorem RepW.rd (sF : Same F H) (sB : Same B H) : ∀ {w : W} {v : V} {as : List Addr}, RepW K F B H w v as → Rep K H w.rd v
  | .frz _, _, _, ⟨h, e⟩ => h.mono sF
  | .brw _, _, _, ⟨h, e⟩ => h.mono sB
  | .olst _, _, _, ⟨a, vs, bs, e, q, ea, r⟩ => ⟨a, vs, e, q, RepWs.rd sF sB r⟩
  | .otup _, _, _, ⟨a, vs, bs, e, q, ea, r⟩ => ⟨a, vs, e, .inl (.inl q), RepWs.rd sF sB r⟩
  | .odct _, _, _, ⟨a, vs, bs, e, q, ea, r⟩ => ⟨a, vs, e, q, RepWK.rd sF sB r⟩
  | .odcT _, _, _, ⟨a, vs, bs, e, q, ea, r⟩ => ⟨a, vs, e, q, RepWT.rd sF sB r⟩
  | .oobj _ _, _, _, ⟨a, dx, vs, bs, e, q, ea, r⟩ => ⟨a, dx, vs, e, q, RepWF.rd sF sB r⟩
theorem RepWs.rd (sF : Same F H) (sB : Same B H) : ∀ {w : List W} {v : List V} {as : List Addr}, RepWs K F B H w v as → Reps K H (rds w) v
  | [], _, _, h => h.1
  | _ :: _, _, _, ⟨v, r, a1, a2, e, ea, h, t⟩ => ⟨v, r, e, RepW.rd sF sB h, RepWs.rd sF sB t⟩
theorem RepWK.rd (sF : Same F H) (sB : Same B H) : ∀ {w : List (Key × W)} {v : List (Key × V)} {as : List Addr}, RepWK K F B H w v as → RepK K H (rdK w) v
  | [], _, _, h => h.1
  | (_, _) :: _, _, _, ⟨v, r, a1, a2, e, ea, h, t⟩ => ⟨v, r, e, RepW.rd sF sB h, RepWK.rd sF sB t⟩
theorem RepWT.rd (sF : Same F H) (sB : Same B H) : ∀ {w : List (List Key × W)} {v : List (List Key × V)} {as : List Addr}, RepWT K F B H w v as → RepT K H (rdT w) v
  | [], _, _, h => h.1
  | (_, _) :: _, _, _, ⟨v, r, a1, a2, e, ea, h, t⟩ => ⟨v, r, e, RepW.rd sF sB h, RepWT.rd sF sB t⟩
theorem RepWF.rd (sF : Same F H) (sB : Same B H) : ∀ {w : List (Str × W)} {v : List (Str × V)} {as : List Addr}, RepWF K F B H w v as → RepF K H (rdF w) v
  | [], _, _, h => h.1
  | (_, _) :: _, _, _, ⟨v, r, a1, a2, e, ea, h, t⟩ => ⟨v, r, e, RepW.rd sF sB h, RepWF.rd sF sB t⟩
end
end
/-! ### freezing -/
mutual
def W.fr : W → Option D
  | .frz d => some d
  | .brw d => if d.scal then some d else none
  | .olst ws => (frs ws).map .lst
  | .otup ws => (frs ws).map .tup
  | .odct kvs => (frK kvs).map .dct
  | .odcT kvs => (frT kvs).map .dcT
  | .oobj C fs => (frF fs).map (.obj C)
def frs : List W → Option (List D)
  | [] => some []
  | w :: ws => match w.fr, frs ws with
    | some d, some r => some (d :: r)
    | _, _ => none
def frK : List (Key × W) → Option (List (Key × D))
  | [] => some []
  | (k, w) :: ws => match w.fr, frK ws with
    | some d, some r => some ((k, d) :: r)
    | _, _ => none
def frT : List (List Key × W) → Option (List (List Key × D))
  | [] => some []
  | (k, w) :: ws => match w.fr, frT ws with
    | some d, some r => some ((k, d) :: r)
    | _, _ => none
def frF : List (Str × W) → Option (List (Str × D))
  | [] => some []
  | (k, w) :: ws => match w.fr, frF ws with
    | some d, some r => some ((k, d) :: r)
    | _, _ => none
end
theorem map_some {α β : Type} {f : α → β} {x : Option α} {y : β} (h : x.map f = some y) : ∃ z, x = some z ∧ f z = y := by
  cases x with
  | none => cases h
  | some z => exact ⟨z, rfl, Option.some.inj h⟩
theorem frs_cons {w : W} {ws : List W} {ds : List D} (h : frs (w :: ws) = some ds) : ∃ d r, w.fr = some d ∧ frs ws = some r ∧ ds = d :: r := by
  unfold frs at h
  split at h
  · rename_i d r e1 e2; exact ⟨d, r, e1, e2, (Option.some.inj h).symm⟩
  · cases h
theorem frK_cons {k : Key} {w : W} {ws : List (Key × W)} {ds : List (Key × D)} (h : frK ((k, w) :: ws) = some ds) : ∃ d r, w.fr = some d ∧ frK ws = some r ∧ ds = (k, d) :: r := by
  unfold frK at h
  split at h
  · rename_i d r e1 e2; exact ⟨d, r, e1, e2, (Option.some.inj h).symm⟩
  · cases h
theorem frT_cons {k : List Key} {w : W} {ws : List (List Key × W)} {ds : List (List Key × D)} (h : frT ((k, w) :: ws) = some ds) : ∃ d r, w.fr = some d ∧ frT ws = some r ∧ ds = (k, d) :: r := by
  unfold frT at h
  split at h
  · rename_i d r e1 e2; exact ⟨d, r, e1, e2, (Option.some.inj h).symm⟩
  · cases h
theorem frF_cons {k : Str} {w : W} {ws : List (Str × W)} {ds : List (Str × D)} (h : frF ((k, w) :: ws) = some ds) : ∃ d r, w.fr = some d ∧ frF ws = some r ∧ ds = (k, d) :: r := by
  unfold frF at h
  split at h
  · rename_i d r e1 e2; exact ⟨d, r, e1, e2, (Option.some.inj h).symm⟩
  · cases h
section
variable {K : PySem.W.Frag} {F F' B H : Hp}
mutual
theorem RepW.fr (sF : Same F F') : ∀ {w : W} {v : V} {as : List Addr} {d : D}, Kept as H F' → w.fr = some d → RepW K F B H w v as → Rep K F' d v
  | .frz _, _, _, _, _, hd, ⟨h, e⟩ => by cases hd; exact h.mono sF
  | .brw d, _, _, _, _, hd, ⟨h, e⟩ => by
    unfold W.fr at hd
    split at hd
    · rename_i hs; cases hd; exact h.scal hs
    · cases hd
  | .olst ws, _, _, _, k, hd, ⟨a, vs, bs, e, q, ea, r⟩ => by
    subst ea
    unfold W.fr at hd
    obtain ⟨z, hz, rfl⟩ := map_some hd
    exact ⟨a, vs, e, k.h q, RepWs.fr sF k.t hz r⟩
  | .otup ws, _, _, _, k, hd, ⟨a, vs, bs, e, q, ea, r⟩ => by
    subst ea
    unfold W.fr at hd
    obtain ⟨z, hz, rfl⟩ := map_some hd
    exact ⟨a, vs, e, .inl (.inl (k.h q)), RepWs.fr sF k.t hz r⟩
  | .odct ws, _, _, _, k, hd, ⟨a, vs, bs, e, q, ea, r⟩ => by
    subst ea
    unfold W.fr at hd
    obtain ⟨z, hz, rfl⟩ := map_some hd
    exact ⟨a, vs, e, k.h q, RepWK.fr sF k.t hz r⟩
  | .odcT ws, _, _, _, k, hd, ⟨a, vs, bs, e, q, ea, r⟩ => by
    subst ea
    unfold W.fr at hd
    obtain ⟨z, hz, rfl⟩ := map_some hd
    exact ⟨a, vs, e, k.h q, RepWT.fr sF k.t hz r⟩
  | .oobj C ws, _, _, _, k, hd, ⟨a, dx, vs, bs, e, q, ea, r⟩ => by
    subst ea
    unfold W.fr at hd
    obtain ⟨z, hz, rfl⟩ := map_some hd
    exact ⟨a, dx, vs, e, k.h q, RepWF.fr sF k.t hz r⟩
theorem RepWs.fr (sF : Same F F') : ∀ {w : List W} {v : List V} {as : List Addr} {d : List D}, Kept as H F' → frs w = some d → RepWs K F B H w v as → Reps K F' d v
  | [], _, _, _, _, hd, h => by cases hd; exact h.1
  | w :: ws, _, _, _, k, hd, ⟨v, r, a1, a2, e, ea, h, t⟩ => by
    subst ea
    obtain ⟨d, ds, h1, h2, rfl⟩ := frs_cons hd
    exact ⟨v, r, e, RepW.fr sF k.l h1 h, RepWs.fr sF k.r h2 t⟩
theorem RepWK.fr (sF : Same F F') : ∀ {w : List (Key × W)} {v : List (Key × V)} {as : List Addr} {d : List (Key × D)}, Kept as H F' → frK w = some d → RepWK K F B H w v as → RepK K F' d v
  | [], _, _, _, _, hd, h => by cases hd; exact h.1
  | (x, w) :: ws, _, _, _, k, hd, ⟨v, r, a1, a2, e, ea, h, t⟩ => by
    subst ea
    obtain ⟨d, ds, h1, h2, rfl⟩ := frK_cons hd
    exact ⟨v, r, e, RepW.fr sF k.l h1 h, RepWK.fr sF k.r h2 t⟩
theorem RepWT.fr (sF : Same F F') : ∀ {w : List (List Key × W)} {v : List (List Key × V)} {as : List Addr} {d : List (List Key × D)}, Kept as H F' → frT w = some d → RepWT K F B H w v as → RepT K F' d v
  | [], _, _, _, _, hd, h => by cases hd; exact h.1
  | (x, w) :: ws, _, _, _, k, hd, ⟨v, r, a1, a2, e, ea, h, t⟩ => by
    subst ea
    obtain ⟨d, ds, h1, h2, rfl⟩ := frT_cons hd
    exact ⟨v, r, e, RepW.fr sF k.l h1 h, RepWT.fr sF k.r h2 t⟩
theorem RepWF.fr (sF : Same F F') : ∀ {w : List (Str × W)} {v : List (Str × V)} {as : List Addr} {d : List (Str × D)}, Kept as H F' → frF w = some d → RepWF K F B H w v as → RepF K F' d v
  | [], _, _, _, _, hd, h => by cases hd; exact h.1
  | (x, w) :: ws, _, _, _, k, hd, ⟨v, r, a1, a2, e, ea, h, t⟩ => by
    subst ea
    obtain ⟨d, ds, h1, h2, rfl⟩ := frF_cons hd
    exact ⟨v, r, e, RepW.fr sF k.l h1 h, RepWF.fr sF k.r h2 t⟩
end
end

/-! ### the heaps: F frozen, B borrowed, H whole; as: what is owned -/
structure WF (F B H : Hp) (as : List Addr) : Prop where
  f : Same F H
  b : Same B H
  nd : ∀ p, List.count p as ≤ 1
  own : ∀ p, In p as → F p = none ∧ B p = none ∧ H p ≠ none
structure Go (F B H : Hp) (as : List Addr) (F' H' : Hp) (as' : List Addr) : Prop where
  wf : WF F' B H' as'
  ext : Same F F'
  keep : ∀ p o, ¬ In p as → H p = some o → H' p = some o
  new : ∀ p, In p as' → In p as ∨ H p = none
  fnew : ∀ p, F p = none → F' p ≠ none → In p as ∨ H p = none
section
variable {F B H F1 H1 F2 H2 : Hp} {as as1 as2 fr : List Addr}
theorem not_in_none {p : Addr} (h : ¬ (In p as ∨ H p = none)) : ¬ In p as ∧ ∃ o, H p = some o := by
  refine ⟨fun z => h (.inl z), ?_⟩
  cases e : H p with
  | none => exact absurd (.inr e) h
  | some o => exact ⟨o, rfl⟩
theorem Go.refl (w : WF F B H as) : Go F B H as F H as := ⟨w, Same.refl _, fun _ _ _ h => h, fun _ h => .inl h, fun p a b => absurd a b⟩
theorem Go.trans (g : Go F B H as F1 H1 as1) (g2 : Go F1 B H1 as1 F2 H2 as2) : Go F B H as F2 H2 as2 := by
  have back : ∀ p, In p as1 ∨ H1 p = none → In p as ∨ H p = none := fun p h => by
    refine Classical.byContradiction fun n => ?_
    obtain ⟨n1, o, e⟩ := not_in_none n
    rcases h with h | h
    · exact n (g.new p h)
    · rw [g.keep p o n1 e] at h
      cases h
  refine ⟨g2.wf, g.ext.trans g2.ext, fun p o n e => g2.keep p o (fun z => ?_) (g.keep p o n e), fun p h => back p (g2.new p h), fun p a b => ?_⟩
  · rcases g.new p z with h | h
    · exact n h
    · rw [e] at h; cases h
  · by_cases e : F1 p = none
    · exact back p (g2.fnew p e b)
    · exact g.fnew p a e
theorem WF.sub (w : WF F B H as) (h : ∀ p, List.count p as1 ≤ List.count p as) : WF F B H as1 :=
  ⟨w.f, w.b, fun p => Nat.le_trans (h p) (w.nd p), fun p i => w.own p (Nat.lt_of_lt_of_le i (h p))⟩
theorem Go.sub (g : Go F B H as F1 H1 as1) (h : ∀ p, List.count p as2 ≤ List.count p as1) : Go F B H as F1 H1 as2 :=
  ⟨g.wf.sub h, g.ext, g.keep, fun p i => g.new p (Nat.lt_of_lt_of_le i (h p)), g.fnew⟩
theorem Go.sup (g : Go F B H as F1 H1 as1) (h : ∀ p, List.count p as ≤ List.count p as2) : Go F B H as2 F1 H1 as1 :=
  ⟨g.wf, g.ext, fun p o n => g.keep p o fun z => n (Nat.lt_of_lt_of_le z (h p)), fun p i => (g.new p i).imp (fun z => Nat.lt_of_lt_of_le z (h p)) id, fun p a b => (g.fnew p a b).imp (fun z => Nat.lt_of_lt_of_le z (h p)) id⟩
/-- what else is owned stays -/
theorem Go.kept (w : WF F B H (fr ++ as)) (g : Go F B H as F1 H1 as1) : Kept fr H H1 := fun p i o e => g.keep p o (fun z => by
  have := w.nd p
  rw [List.count_append] at this
  have z' : 0 < List.count p as := z
  have i' : 0 < List.count p fr := i
  omega) e
theorem Go.frame (w : WF F B H (fr ++ as)) (g : Go F B H as F1 H1 as1) : Go F B H (fr ++ as) F1 H1 (fr ++ as1) := by
  have nfr : ∀ p, In p fr → ¬ In p as := fun p i z => by
    have := w.nd p
    rw [List.count_append] at this
    have z' : 0 < List.count p as := z
    have i' : 0 < List.count p fr := i
    omega
  have n1 : ∀ p, In p fr → ¬ (In p as ∨ H p = none) := fun p i z => by
    rcases z with z | z
    · exact nfr p i z
    · exact (w.own p (in_l i)).2.2 z
  refine ⟨⟨g.wf.f, g.wf.b, fun p => ?_, fun p i => ?_⟩, g.ext, fun p o n e => g.keep p o (fun z => n (in_r z)) e, fun p i => ?_, fun p a b => (g.fnew p a b).imp in_r id⟩
  · rw [List.count_append]
    have h1 := w.nd p
    rw [List.count_append] at h1
    have h2 := g.wf.nd p
    by_cases i : 0 < List.count p fr
    · have : ¬ 0 < List.count p as1 := fun z => n1 p i (g.new p z)
      omega
    · omega
  · rcases in_app i with i | i
    · obtain ⟨a, b, c⟩ := w.own p (in_l i)
      refine ⟨?_, b, ?_⟩
      · refine Classical.byContradiction fun z => n1 p i (g.fnew p a z)
      · cases e : H p with
        | none => exact absurd e c
        | some o =>
          rw [g.kept w p i o e]
          exact fun z => nomatch z
    · exact g.wf.own p i
  · rcases in_app i with i | i
    · exact .inl (in_l i)
    · exact (g.new p i).imp in_r id
theorem Go.swap (w : WF F B H as) (h : ∀ p, List.count p as1 = List.count p as) : Go F B H as F H as1 := (Go.refl w).sub fun p => Nat.le_of_eq (h p)
/-! the steps -/
theorem Go.alloc (w : WF F B H as) {p : Addr} (n : H p = none) (o : HO) : Go F B H as F (upd H p o) (p :: as) := by
  have ne : ∀ {q : Addr} {u : HO}, H q = some u → q ≠ p := fun e z => by rw [z, n] at e; cases e
  have k : Same H (upd H p o) := fun q u e => by rw [upd_ne (ne e)]; exact e
  refine ⟨⟨w.f.trans k, w.b.trans k, fun q => ?_, fun q i => ?_⟩, Same.refl _, fun q u _ e => k q u e, fun q i => ?_, fun q a b => absurd a b⟩
  · by_cases e : p = q
    · subst e
      rw [List.count_cons_self]
      have : ¬ In p as := fun z => (w.own p z).2.2 n
      unfold In at this
      omega
    · rw [List.count_cons_of_ne (by simpa using e)]
      exact w.nd q
  · rcases in_cons i with e | i
    · subst e
      refine ⟨w.f.free n, w.b.free n, ?_⟩
      rw [upd_same]
      exact fun z => nomatch z
    · obtain ⟨a, b, c⟩ := w.own q i
      refine ⟨a, b, fun z => ?_⟩
      rw [upd_ne (fun z => by rw [z] at c; exact c n)] at z
      exact c z
  · rcases in_cons i with e | i
    · subst e; exact .inr n
    · exact .inl i
theorem Go.allocF (w : WF F B H as) {p : Addr} (n : H p = none) (o : HO) : Go F B H as (upd F p o) (upd H p o) as := by
  have ne : ∀ {q : Addr} {u : HO}, H q = some u → q ≠ p := fun e z => by rw [z, n] at e; cases e
  have k : Same H (upd H p o) := fun q u e => by rw [upd_ne (ne e)]; exact e
  have kF : Same F (upd F p o) := fun q u e => by rw [upd_ne (ne (w.f _ _ e))]; exact e
  have np : ∀ q, In q as → q ≠ p := fun q i z => by
    have := (w.own q i).2.2
    rw [z] at this
    exact this n
  refine ⟨⟨fun q u e => ?_, w.b.trans k, w.nd, fun q i => ?_⟩, kF, fun q u _ e => k q u e, fun q i => .inl i, fun q a b => ?_⟩
  · by_cases z : q = p
    · subst z
      rw [upd_same] at e ⊢
      exact e
    · rw [upd_ne z] at e
      exact k _ _ (w.f _ _ e)
  · obtain ⟨a, b, c⟩ := w.own q i
    rw [upd_ne (np q i), upd_ne (np q i)]
    exact ⟨a, b, c⟩
  · by_cases z : q = p
    · subst z; exact .inr n
    · rw [upd_ne z] at b
      exact absurd a b
theorem Go.write (w : WF F B H as) {p : Addr} (i : In p as) (o : HO) : Go F B H as F (upd H p o) as := by
  have k : ∀ q u, ¬ In q as → H q = some u → upd H p o q = some u := fun q u nq e => by
    rw [upd_ne (fun z => nq (by rw [z]; exact i))]
    exact e
  refine ⟨⟨fun q u e => ?_, fun q u e => ?_, w.nd, fun q j => ?_⟩, Same.refl _, k, fun q i => .inl i, fun q a b => absurd a b⟩
  · refine k q u (fun z => ?_) (w.f _ _ e)
    rw [(w.own q z).1] at e; cases e
  · refine k q u (fun z => ?_) (w.b _ _ e)
    rw [(w.own q z).2.1] at e; cases e
  · obtain ⟨a, b, c⟩ := w.own q j
    refine ⟨a, b, ?_⟩
    by_cases z : q = p
    · subst z
      rw [upd_same]
      exact fun z => nomatch z
    · rw [upd_ne z]
      exact c
/-- what is owned at as1 is frozen from now on -/
def frzn (F H : Hp) (as1 : List Addr) : Hp := fun p => if 0 < List.count p as1 then H p else F p
theorem frzn_kept {as1 : List Addr} : Kept as1 H (frzn F H as1) := fun p i o e => by
  unfold frzn
  rw [if_pos i]
  exact e
theorem Go.freeze (w : WF F B H (as1 ++ as)) : Go F B H (as1 ++ as) (frzn F H as1) H as := by
  have d : ∀ p, In p as1 → ¬ In p as := fun p i z => by
    have := w.nd p
    rw [List.count_append] at this
    have z' : 0 < List.count p as := z
    have i' : 0 < List.count p as1 := i
    omega
  refine ⟨⟨fun p o e => ?_, w.b, fun p => Nat.le_trans ?_ (w.nd p), fun p i => ?_⟩, fun p o e => ?_, fun _ _ _ h => h, fun p i => .inl (in_r i), fun p a b => ?_⟩
  · unfold frzn at e
    split at e
    · exact e
    · exact w.f _ _ e
  · rw [List.count_append]; omega
  · obtain ⟨a, b, c⟩ := w.own p (in_r i)
    refine ⟨?_, b, c⟩
    unfold frzn
    rw [if_neg (fun z => d p z i)]
    exact a
  · unfold frzn
    rw [if_neg (fun z => by rw [(w.own p (in_l z)).1] at e; cases e)]
    exact e
  · unfold frzn at b
    by_cases z : 0 < List.count p as1
    · exact .inl (in_l z)
    · rw [if_neg z] at b
      exact absurd a b
end

/-! ### the locals -/
abbrev Lc := List (Option W)
section
variable (K : PySem.W.Frag) (F B H : Hp)
def SlotRel (s : Option V) : Option W → List Addr → Prop
  | none, as => as = []
  | some w, as => ∃ v, s = some v ∧ RepW K F B H w v as
def SRel : L2.St → Lc → List Addr → Prop
  | σ, [], as => σ = [] ∧ as = []
  | σ, o :: L, as => ∃ s r a1 a2, σ = s :: r ∧ as = a1 ++ a2 ∧ SlotRel K F B H s o a1 ∧ SRel r L a2
end
section
variable {K : PySem.W.Frag} {F F' B B' H H' : Hp}
theorem SlotRel.frame (sF : Same F F') (sB : Same B B') {s : Option V} : ∀ {o : Option W} {as : List Addr}, Kept as H H' → SlotRel K F B H s o as → SlotRel K F' B' H' s o as
  | none, _, _, h => h
  | some _, _, k, ⟨v, e, h⟩ => ⟨v, e, h.frame sF sB k⟩
theorem SRel.frame (sF : Same F F') (sB : Same B B') : ∀ {L : Lc} {σ : L2.St} {as : List Addr}, Kept as H H' → SRel K F B H σ L as → SRel K F' B' H' σ L as
  | [], _, _, _, h => h
  | _ :: _, _, _, k, ⟨s, r, a1, a2, e, ea, h, t⟩ => by subst ea; exact ⟨s, r, a1, a2, e, rfl, h.frame sF sB k.l, SRel.frame sF sB k.r t⟩
theorem SRel.len : ∀ {L : Lc} {σ : L2.St} {as : List Addr}, SRel K F B H σ L as → σ.length = L.length
  | [], _, _, h => by rw [h.1]; rfl
  | _ :: _, _, _, ⟨s, r, a1, a2, e, ea, h, t⟩ => by rw [e, List.length_cons, List.length_cons, t.len]
/-- slot i, and how another content is put there -/
theorem SRel.at : ∀ {L : Lc} {σ : L2.St} {as : List Addr} {i : Nat} {o : Option W}, SRel K F B H σ L as → L[i]? = some o →
    ∃ s pre a1 post, σ[i]? = some s ∧ SlotRel K F B H s o a1 ∧ as = pre ++ (a1 ++ post) ∧
      ∀ (F' B' H' : Hp) (s' : Option V) (o' : Option W) (a1' : List Addr), Same F F' → Same B B' → Kept (pre ++ post) H H' → SlotRel K F' B' H' s' o' a1' → SRel K F' B' H' (σ.set i s') (L.set i o') (pre ++ (a1' ++ post))
  | [], _, _, _, _, _, h => by cases h
  | o :: L, σ, as, 0, o', ⟨s, r, a1, a2, e, ea, h, t⟩, hi => by
    cases hi
    subst e ea
    refine ⟨s, [], a1, a2, rfl, h, rfl, fun F' B' H' s' o' a1' sF sB k h' => ?_⟩
    exact ⟨s', r, a1', a2, rfl, rfl, h', t.frame sF sB k⟩
  | o :: L, σ, as, i + 1, o', ⟨s, r, a1, a2, e, ea, h, t⟩, hi => by
    obtain ⟨s', pre, b1, post, h1, h2, h3, h4⟩ := SRel.at t hi
    subst e ea h3
    refine ⟨s', a1 ++ pre, b1, post, h1, h2, by rw [List.append_assoc], fun F' B' H' s' o' a1' sF sB k h' => ?_⟩
    rw [List.append_assoc] at k ⊢
    exact ⟨s, _, a1, _, rfl, rfl, h.frame sF sB k.l, h4 F' B' H' s' o' a1' sF sB k.r h'⟩
end
end BV

namespace BV
open PySem PySem.Spec PyProof.Rows L2

/-! ### the reading: results -/
/-- an exception: its class, its fields -/
structure Ex where
  cls : Value
  fs : List (Str × D)
inductive Res (α : Type) where
  | ok (a : α) (L : Lc) | exc (x : Ex) (L : Lc) | bad
abbrev M (α : Type) := Lc → Res α
/-- a result: a value of its own; slot i's own object -/
inductive R where
  | val (w : W) | al (i : Nat)
def R.get (L : Lc) : R → Option W
  | .val w => some w
  | .al i => match L[i]? with
    | some o => o
    | none => none
def Res.bind {α β : Type} (r : Res α) (f : α → Lc → Res β) : Res β := match r with
  | .ok a L => f a L
  | .exc x L => .exc x L
  | .bad => .bad
abbrev sc (d : D) : R := .val (.frz d)

section
variable (K : PySem.W.Frag) (F B H : Hp) (σ : L2.St)
def RepR : R → V → List Addr → Prop
  | .val w, v, as => RepW K F B H w v as
  | .al i, v, as => σ[i]? = some (some v) ∧ as = []
def RepRs : List R → List V → List Addr → Prop
  | [], vs, as => vs = [] ∧ as = []
  | r :: rs, vs, as => ∃ v t a1 a2, vs = v :: t ∧ as = a1 ++ a2 ∧ RepR K F B H σ r v a1 ∧ RepRs rs t a2
def ExRel (x : Ex) (cls : Value) (d : Option Addr) : Prop := cls = x.cls ∧ ∃ dd ws, d = some dd ∧ F dd = some (.xd ws) ∧ RepF K F x.fs ws
end
section
variable {K : PySem.W.Frag} {F F' B H H' : Hp} {σ : L2.St}
theorem RepR.frame (sF : Same F F') {r : R} {v : V} {as : List Addr} (k : Kept as H H') (h : RepR K F B H σ r v as) : RepR K F' B H' σ r v as := by
  cases r with
  | val w => exact RepW.frame sF (Same.refl _) k h
  | al i => exact h
theorem RepRs.frame (sF : Same F F') : ∀ {rs : List R} {vs : List V} {as : List Addr}, Kept as H H' → RepRs K F B H σ rs vs as → RepRs K F' B H' σ rs vs as
  | [], _, _, _, h => h
  | _ :: _, _, _, k, ⟨v, t, a1, a2, e, ea, h, r⟩ => by subst ea; exact ⟨v, t, a1, a2, e, rfl, h.frame sF k.l, RepRs.frame sF k.r r⟩
theorem RepRs.len : ∀ {rs : List R} {vs : List V} {as : List Addr}, RepRs K F B H σ rs vs as → vs.length = rs.length
  | [], _, _, h => by rw [h.1]; rfl
  | _ :: _, _, _, ⟨v, t, a1, a2, e, ea, h, r⟩ => by rw [e, List.length_cons, List.length_cons, r.len]
theorem RepR.rd {r : R} {v : V} {as as' : List Addr} {L : Lc} {w : W} (sF : Same F H) (sB : Same B H) (s : SRel K F B H σ L as') (h : RepR K F B H σ r v as) (g : r.get L = some w) : Rep K H w.rd v := by
  cases r with
  | val w' => cases g; exact RepW.rd sF sB h
  | al i =>
    have g0 : (match L[i]? with
      | some o => o
      | none => none) = some w := g
    cases e : L[i]? with
    | none => rw [e] at g0; cases g0
    | some o =>
      rw [e] at g0
      have g' : o = some w := g0
      subst g'
      obtain ⟨s', pre, a1, post, h1, ⟨v', e1, h2⟩, _⟩ := SRel.at s e
      rw [h.1] at h1
      cases h1
      cases e1
      exact RepW.rd sF sB h2
end
/-- the three ways an expression's reading ends -/
def End {α : Type} (K : PySem.W.Frag) (Wx : WX) (F B H : Hp) (as : List Addr) (σ : L2.St) (ok : α → Lc → Prop) : Res α → Prop
  | .ok a L => ok a L
  | .exc x L => ∀ cls d F' H' as', Go F B H as F' H' as' → SRel K F' B H' σ L as' → ExRel K F' x cls d → Wx cls d σ H'
  | .bad => False
section
variable (K : PySem.W.Frag) (Wx : WX)
def okE (F B H : Hp) (as : List Addr) (σ : L2.St) (Q : VK) : R → Lc → Prop := fun r L => ∀ v F' H' asr as', Go F B H as F' H' (asr ++ as') → SRel K F' B H' σ L as' → RepR K F' B H' σ r v asr → Q v H'
def okA (F B H : Hp) (as : List Addr) (σ : L2.St) (Q : List V → Hp → Prop) : List R → Lc → Prop := fun r L => ∀ vs F' H' asr as', Go F B H as F' H' (asr ++ as') → SRel K F' B H' σ L as' → RepRs K F' B H' σ r vs asr → Q vs H'
def okT (F B H : Hp) (as : List Addr) (σ : L2.St) (Q : Bool → Hp → Prop) : Bool → Lc → Prop := fun b L => ∀ F' H' as', Go F B H as F' H' as' → SRel K F' B H' σ L as' → Q b H'
def bvE (m : M R) : TE := fun σ H Q => ∃ F B L as, WF F B H as ∧ SRel K F B H σ L as ∧ End K Wx F B H as σ (okE K F B H as σ Q) (m L)
def bvA (m : M (List R)) : TA := fun σ H Q => ∃ F B L as, WF F B H as ∧ SRel K F B H σ L as ∧ End K Wx F B H as σ (okA K F B H as σ Q) (m L)
def bvT (m : M Bool) : TT := fun σ H Q => ∃ F B L as, WF F B H as ∧ SRel K F B H σ L as ∧ End K Wx F B H as σ (okT K F B H as σ Q) (m L)
end
/-! ### weakening -/
section
variable {X : Cx}
theorem pe_imp {e : Expr} {t u : TE} (h : PE X e t) (q : ∀ σ H Q, u σ H Q → t σ H Q) : PE X e u := ⟨fun pins s σ H Q I w => h.run pins s σ H Q I (q _ _ _ w)⟩
theorem pt_imp {e : Expr} {t u : TT} (h : PT X e t) (q : ∀ σ H Q, u σ H Q → t σ H Q) : PT X e u := ⟨fun pins s σ H Q I w => h.run pins s σ H Q I (q _ _ _ w)⟩
theorem pw_imp {e : Expr} {t u : TT} (h : PW X e t) (q : ∀ σ H Q, u σ H Q → t σ H Q) : PW X e u := ⟨fun wh pins s σ H Q I w => h.run wh pins s σ H Q I (q _ _ _ w)⟩
theorem pa_imp {e : List Expr} {t u : TA} (h : PA X e t) (q : ∀ σ H Q, u σ H Q → t σ H Q) : PA X e u := ⟨fun pos pins s σ H Q I w => h.run pos pins s σ H Q I (q _ _ _ w)⟩
theorem ps_imp {e : Stmt} {t u : TS} (h : PS X e t) (q : ∀ D σ H, u D σ H → t D σ H) : PS X e u := ⟨fun pins s σ H D I w => h.run pins s σ H D I (q _ _ _ w)⟩
theorem pss_imp {e : List Stmt} {t u : TS} (h : PSs X e t) (q : ∀ D σ H, u D σ H → t D σ H) : PSs X e u := ⟨fun pins s σ H D I w => h.run pins s σ H D I (q _ _ _ w)⟩
end
section
variable {K : PySem.W.Frag} {Wx : WX} {F B H F1 H1 : Hp} {as as1 asr : List Addr} {σ : L2.St} {α β : Type}
theorem le_r (a b : List Addr) : ∀ p, List.count p b ≤ List.count p (a ++ b) := fun p => by rw [List.count_append]; omega
theorem le_l (a b : List Addr) : ∀ p, List.count p a ≤ List.count p (a ++ b) := fun p => by rw [List.count_append]; omega
/-- the ends behind a first step -/
theorem End.behind (g : Go F B H as F1 H1 as1) {p q : α → Lc → Prop} {r : Res α} (h : End K Wx F B H as σ p r) (k : ∀ a L, p a L → q a L) : End K Wx F1 B H1 as1 σ q r := by
  cases r with
  | ok a L => exact k a L h
  | exc x L => exact fun cls d F' H' as' g' => h cls d F' H' as' (g.trans g')
  | bad => exact h
theorem End.imp {p q : α → Lc → Prop} {r : Res α} (h : End K Wx F B H as σ p r) (k : ∀ a L, p a L → q a L) : End K Wx F B H as σ q r := by
  cases r with
  | ok a L => exact k a L h
  | exc x L => exact h
  | bad => exact h
theorem End.bind {p : β → Lc → Prop} {r : Res α} {f : α → Lc → Res β} (h : End K Wx F B H as σ p (r.bind f)) : End K Wx F B H as σ (fun a L => End K Wx F B H as σ p (f a L)) r := by
  cases r with
  | ok a L => exact h
  | exc x L => exact h
  | bad => exact h
/-- another expression behind, what the first gave beside -/
theorem framed {fr as2 : List Addr} {F2 H2 : Hp} (g : Go F B H as F1 H1 (fr ++ as1)) (g2 : Go F1 B H1 as1 F2 H2 as2) : Go F B H as F2 H2 (fr ++ as2) ∧ Kept fr H1 H2 := ⟨g.trans (g2.frame g.wf), g2.kept g.wf⟩
end

/-! ### simple expressions -/
section
variable {X : Cx} {Wx : WX}
def mVar (i : Nat) : M R := fun L => match L[i]? with
  | some (some (.frz d)) => .ok (.val (.frz d)) L
  | some (some (.brw d)) => .ok (.val (.brw d)) L
  | some (some _) => .ok (.al i) L
  | _ => .bad
theorem be_var (i : Nat) {x : Str} {pos : Pos} (hN : X.N[i]? = some x := by rfl) (hv : Vis X.env.scope x := by first | exact Or.inl rfl | exact Or.inr (Or.inl rfl) | exact Or.inr (Or.inr rfl)) (hd : (x == ("__debug__" : Str)) = false := by decide)
    (hcd : (x == ("__classdict__" : Str)) = false := by decide) : PE X (.Name x pos) (bvE X.K Wx (mVar i)) := by
  refine pe_imp (pe_var hN hv hd hcd) fun σ H Q ⟨F, B, L, as, wf, s, h⟩ => ?_
  unfold mVar at h
  split at h
  · rename_i d e
    obtain ⟨s', pre, a1, post, h1, ⟨v, e1, h2⟩, ea, k⟩ := SRel.at s e
    subst e1
    exact ⟨v, h1, h v F H [] as (Go.refl wf) s ⟨h2.1, rfl⟩⟩
  · rename_i d e
    obtain ⟨s', pre, a1, post, h1, ⟨v, e1, h2⟩, ea, k⟩ := SRel.at s e
    subst e1
    exact ⟨v, h1, h v F H [] as (Go.refl wf) s ⟨h2.1, rfl⟩⟩
  · rename_i w e1 e2 e
    obtain ⟨s', pre, a1, post, h1, ⟨v, e1, h2⟩, ea, k⟩ := SRel.at s e
    subst e1
    exact ⟨v, h1, h v F H [] as (Go.refl wf) s ⟨h1, rfl⟩⟩
  · exact h.elim
def mC (d : D) : M R := fun L => .ok (.val (.frz d)) L
theorem of_tC {v : V} {d : D} (hd : ∀ F, Rep X.K F d v) : ∀ σ H Q, bvE X.K Wx (mC d) σ H Q → tC v σ H Q := fun σ H Q ⟨F, B, L, as, wf, s, h⟩ => h v F H [] as (Go.refl wf) s ⟨hd _, rfl⟩
theorem be_int {i : Int} {j : Nat} {pos : Pos} : PE X (.Constant (.int i) j pos) (bvE X.K Wx (mC (.int i))) := pe_imp pe_int (of_tC fun _ => rfl)
theorem be_bl {b : Bool} {j : Nat} {pos : Pos} : PE X (.Constant (.bool b) j pos) (bvE X.K Wx (mC (.bl b))) := pe_imp pe_bl (of_tC fun _ => rfl)
theorem be_non {j : Nat} {pos : Pos} : PE X (.Constant .none j pos) (bvE X.K Wx (mC .non)) := pe_imp pe_non (of_tC fun _ => rfl)
theorem be_str {x : Str} {j : Nat} {pos : Pos} : PE X (.Constant (.str x) j pos) (bvE X.K Wx (mC (.str x))) := pe_imp pe_str (of_tC fun _ => rfl)
end

/-! ### operators -/
def mOp (g : R → R → M R) (a b : M R) : M R := fun L => (a L).bind fun x L1 => (b L1).bind fun y L2 => g x y L2
/-- what an operator's rule must give for its reading g -/
def OpOk (K : PySem.W.Frag) (r : R2) (g : R → R → M R) : Prop :=
  ∀ (Wx : WX) (σ : L2.St) (F B H : Hp) (L : Lc) (as as1 as2 : List Addr) (rx ry : R) (v1 v2 : V) (Q : VK), WF F B H (as1 ++ (as2 ++ as)) → SRel K F B H σ L as → RepR K F B H σ rx v1 as1 → RepR K F B H σ ry v2 as2 →
    End K Wx F B H (as1 ++ (as2 ++ as)) σ (okE K F B H (as1 ++ (as2 ++ as)) σ Q) (g rx ry L) → r v1 v2 H Q
theorem op2 {K : PySem.W.Frag} {Wx : WX} {r : R2} {g : R → R → M R} {ma mb : M R} (hg : OpOk K r g) : ∀ σ H Q, bvE K Wx (mOp g ma mb) σ H Q → tOp r (bvE K Wx ma) (bvE K Wx mb) σ H Q := fun σ H Q ⟨F, B, L, as, wf, s, h⟩ => by
  refine ⟨F, B, L, as, wf, s, (End.bind h).imp fun x L1 h1 v1 F1 H1 asr as1 g1 s1 r1 => ?_⟩
  refine ⟨F1, B, L1, as1, g1.wf.sub (le_r _ _), s1, (End.bind h1).behind (g1.sub (le_r _ _)) fun y L2 h2 v2 F2 H2 asr2 as2 g2 s2 r2 => ?_⟩
  obtain ⟨g3, k3⟩ := framed g1 g2
  refine hg Wx σ F2 B H2 L2 as2 asr asr2 x y v1 v2 Q g3.wf s2 (r1.frame g2.ext k3) r2 (h2.behind g3 fun r L3 h3 v F' H' asr' as' g' s' r' => ?_)
  exact h3 v F' H' asr' as' (g3.trans g') s' r'
section
variable {X : Cx} {Wx : WX} {a b : Expr} {ma mb : M R} {r : R2} {g : R → R → M R} {pos : Pos}
theorem be_op {op : Operator} (ho : OpR X (binaryOp op) r) (hg : OpOk X.K r g) (ha : PE X a (bvE X.K Wx ma)) (hb : PE X b (bvE X.K Wx mb)) : PE X (.BinOp a op b pos) (bvE X.K Wx (mOp g ma mb)) :=
  pe_imp (pe_op ho ha hb) (op2 hg)
theorem be_cmp {op : CmpOp} (ho : OpR X (compareOp op) r) (hg : OpOk X.K r g) (ha : PE X a (bvE X.K Wx ma)) (hb : PE X b (bvE X.K Wx mb)) (hm : behindInMarks op b = false) : PE X (.Compare a [op] [b] pos) (bvE X.K Wx (mOp g ma mb)) :=
  pe_imp (pe_cmpR ho ha hb hm) (op2 hg)
theorem opr_or {f : Value → Value → Sem Value} {r1 r2 : R2} (h1 : OpR X f r1) (h2 : OpR X f r2) : OpR X f (fun x y H Q => r1 x y H Q ∨ r2 x y H Q) := by
  intro pins s σ H x y v u Q I rx ry h
  rcases h with h | h
  · exact h1 pins s σ H x y v u Q I rx ry h
  · exact h2 pins s σ H x y v u Q I rx ry h
end
def gOr (g1 g2 : R → R → M R) : R → R → M R := fun x y L => match g1 x y L with
  | .bad => g2 x y L
  | r => r
theorem OpOk.or {K : PySem.W.Frag} {r1 r2 : R2} {g1 g2 : R → R → M R} (h1 : OpOk K r1 g1) (h2 : OpOk K r2 g2) : OpOk K (fun x y H Q => r1 x y H Q ∨ r2 x y H Q) (gOr g1 g2) := fun Wx σ F B H L as as1 as2 rx ry v1 v2 Q wf s p1 p2 h => by
  unfold gOr at h
  split at h
  · exact .inr (h2 Wx σ F B H L as as1 as2 rx ry v1 v2 Q wf s p1 p2 h)
  · rename_i r hr
    exact .inl (h1 Wx σ F B H L as as1 as2 rx ry v1 v2 Q wf s p1 p2 h)
/-- an operator that reads data and gives a scalar -/
def mkS (g : D → D → Option D) : R → R → M R := fun x y L => match x.get L, y.get L with
  | some a, some b => match g a.rd b.rd with
    | some d => .ok (.val (.frz d)) L
    | none => .bad
  | _, _ => .bad
theorem go_drop2 {F B H : Hp} {as as1 as2 : List Addr} (wf : WF F B H (as1 ++ (as2 ++ as))) : Go F B H (as1 ++ (as2 ++ as)) F H ([] ++ as) :=
  (Go.refl wf).sub fun p => by rw [List.nil_append, List.count_append, List.count_append]; omega
theorem OpOk.scal {K : PySem.W.Frag} {r : R2} {g : D → D → Option D} (hg : ∀ H d1 d2 v1 v2 d Q, Rep K H d1 v1 → Rep K H d2 v2 → g d1 d2 = some d → (∀ v, (∀ F, Rep K F d v) → Q v H) → r v1 v2 H Q) : OpOk K r (mkS g) := fun Wx σ F B H L as as1 as2 rx ry v1 v2 Q wf s p1 p2 h => by
  unfold mkS at h
  split at h
  · rename_i w1 w2 e1 e2
    split at h
    · rename_i d ed
      refine hg H _ _ v1 v2 d Q (p1.rd wf.f wf.b s e1) (p2.rd wf.f wf.b s e2) ed fun v hv => ?_
      exact h v F H [] as (go_drop2 wf) s ⟨hv _, rfl⟩
    · exact h.elim
  · exact h.elim
/-- two ints -/
def gI (f : Int → Int → Option D) : D → D → Option D
  | .int i, .int j => f i j
  | _, _ => none
theorem gI_of {f : Int → Int → Option D} {d1 d2 d : D} (h : gI f d1 d2 = some d) : ∃ i j, d1 = .int i ∧ d2 = .int j ∧ f i j = some d := by
  unfold gI at h
  split at h
  · exact ⟨_, _, rfl, rfl, h⟩
  · cases h
theorem okI {K : PySem.W.Frag} {C : Int → Int → Prop} {g : Int → Int → V} {f : Int → Int → Option D} (h : ∀ i j d, f i j = some d → C i j ∧ ∀ F, Rep K F d (g i j)) : OpOk K (rI C g) (mkS (gI f)) :=
  .scal fun H d1 d2 v1 v2 d Q r1 r2 e q => by
    obtain ⟨i, j, rfl, rfl, e⟩ := gI_of e
    cases r1; cases r2
    obtain ⟨c, hr⟩ := h i j d e
    exact ⟨i, j, rfl, rfl, c, q _ hr⟩
theorem okI0 {K : PySem.W.Frag} {g : Int → Int → V} {f : Int → Int → Option D} (h : ∀ i j d, f i j = some d → ∀ F, Rep K F d (g i j)) : OpOk K (rI0 g) (mkS (gI f)) :=
  .scal fun H d1 d2 v1 v2 d Q r1 r2 e q => by
    obtain ⟨i, j, rfl, rfl, e⟩ := gI_of e
    cases r1; cases r2
    exact ⟨i, j, rfl, rfl, q _ (h i j d e)⟩
end BV

namespace BV
open PySem PySem.Spec PyProof.Rows L2

/-! ### handing on a value for good -/
theorem set_same {α : Type} : ∀ {l : List α} {i : Nat} {s : α}, l[i]? = some s → l.set i s = l
  | [], _, _, h => by cases h
  | _ :: _, 0, _, h => by cases h; rfl
  | a :: l, i + 1, s, h => by
    show a :: l.set i s = a :: l
    rw [set_same (l := l) h]
def toF (r : R) : M D := fun L => match r with
  | .val w => match w.fr with
    | some d => .ok d L
    | none => .bad
  | .al i => match L[i]? with
    | some (some w) => match w.fr with
      | some d => .ok d (L.set i (some (.frz d)))
      | none => .bad
    | _ => .bad
section
variable {K : PySem.W.Frag} {Wx : WX} {F B H : Hp} {as asr : List Addr} {σ : L2.St} {L L' : Lc} {d : D} {v : V}
theorem fr_slot {i : Nat} {w : W} (wf : WF F B H as) (s : SRel K F B H σ L as) (e : L[i]? = some (some w)) (hd : w.fr = some d) :
    ∃ F' as' v, Go F B H as F' H as' ∧ SRel K F' B H σ (L.set i (some (.frz d))) as' ∧ σ[i]? = some (some v) ∧ Rep K F' d v := by
  obtain ⟨s', pre, a1, post, h1, ⟨v, e1, h2⟩, ea, k⟩ := SRel.at s e
  subst e1 ea
  have wf' : WF F B H (a1 ++ (pre ++ post)) := wf.sub fun p => by simp only [List.count_append]; omega
  have g := (Go.freeze wf').sup (as2 := pre ++ (a1 ++ post)) fun p => by simp only [List.count_append]; omega
  refine ⟨frzn F H a1, pre ++ ([] ++ post), v, g.sub fun p => by simp only [List.count_append, List.count_nil]; omega, ?_, h1, ?_⟩
  · have q := k (frzn F H a1) B H (some v) (some (.frz d)) [] g.ext (Same.refl _) (fun _ _ _ h => h) ⟨v, rfl, RepW.fr g.ext frzn_kept hd h2, rfl⟩
    rw [set_same h1] at q
    exact q
  · exact RepW.fr g.ext frzn_kept hd h2
theorem toF_ok {r : R} (wf : WF F B H (asr ++ as)) (s : SRel K F B H σ L as) (h : RepR K F B H σ r v asr) (e : toF r L = .ok d L') :
    ∃ F' as', Go F B H (asr ++ as) F' H as' ∧ SRel K F' B H σ L' as' ∧ Rep K F' d v := by
  cases r with
  | val w =>
    unfold toF at e
    dsimp only at e
    split at e
    · rename_i d' hd
      cases e
      have g := Go.freeze wf
      exact ⟨_, as, g, SRel.frame g.ext (Same.refl _) (fun _ _ _ h => h) s, RepW.fr g.ext frzn_kept hd h⟩
    · cases e
  | al i =>
    obtain ⟨h1, rfl⟩ := h
    unfold toF at e
    dsimp only at e
    split at e
    · rename_i w ew
      split at e
      · rename_i d' hd
        cases e
        obtain ⟨F', as', v', g, s', hv, hr⟩ := fr_slot wf s ew hd
        rw [hv] at h1
        cases h1
        exact ⟨F', as', g, s', hr⟩
      · cases e
    · cases e
/-- never an exception -/
theorem toF_end {r : R} {p : D → Lc → Prop} (h : End K Wx F B H as σ p (toF r L)) : ∃ d L', toF r L = .ok d L' ∧ p d L' := by
  cases e : toF r L with
  | ok d L' => rw [e] at h; exact ⟨d, L', rfl, h⟩
  | bad => rw [e] at h; exact h.elim
  | exc x L' =>
    exfalso
    unfold toF at e
    split at e <;> split at e
    · cases e
    · cases e
    · split at e <;> cases e
    · cases e
end
def toFs : List R → M (List D)
  | [], L => .ok [] L
  | r :: rs, L => (toF r L).bind fun d L1 => (toFs rs L1).bind fun ds L2 => .ok (d :: ds) L2
section
variable {K : PySem.W.Frag} {Wx : WX} {σ : L2.St}
theorem toFs_ok : ∀ {rs : List R} {F B H : Hp} {as asr : List Addr} {L L' : Lc} {ds : List D} {vs : List V}, WF F B H (asr ++ as) → SRel K F B H σ L as → RepRs K F B H σ rs vs asr → toFs rs L = .ok ds L' →
    ∃ F' as', Go F B H (asr ++ as) F' H as' ∧ SRel K F' B H σ L' as' ∧ Reps K F' ds vs
  | [], F, B, H, as, asr, L, L', ds, vs, wf, s, ⟨e1, e2⟩, e => by
    cases e
    subst e1 e2
    exact ⟨F, as, Go.refl wf, s, rfl⟩
  | r :: rs, F, B, H, as, asr, L, L', ds, vs, wf, s, ⟨v, t, a1, a2, e1, e2, h, hr⟩, e => by
    subst e1 e2
    unfold toFs at e
    cases ed : toF r L with
    | ok d L1 =>
      rw [ed] at e
      have wf1 : WF F B H (a1 ++ as) := wf.sub fun p => by simp only [List.count_append]; omega
      obtain ⟨F1, as1, g1, s1, q1⟩ := toF_ok wf1 s h ed
      have wf2 : WF F B H (a2 ++ (a1 ++ as)) := wf.sub fun p => by simp only [List.count_append]; omega
      have g1' := g1.frame wf2
      have k1 := g1.kept wf2
      have e : (toFs rs L1).bind (fun ds L2 => .ok (d :: ds) L2) = .ok ds L' := e
      cases es : toFs rs L1 with
      | ok ds' L2 =>
        rw [es] at e
        cases e
        obtain ⟨F2, as2, g2, s2, q2⟩ := toFs_ok g1'.wf s1 (hr.frame g1.ext k1) es
        refine ⟨F2, as2, (g1'.sup fun p => by simp only [List.count_append]; omega).trans g2, s2, v, t, rfl, q1.mono g2.ext, q2⟩
      | exc x L2 => rw [es] at e; cases e
      | bad => rw [es] at e; cases e
    | exc x L1 => rw [ed] at e; cases e
    | bad => rw [ed] at e; cases e
theorem toFs_end {F B H : Hp} {as : List Addr} {p : List D → Lc → Prop} : ∀ {rs : List R} {L : Lc}, End K Wx F B H as σ p (toFs rs L) → ∃ ds L', toFs rs L = .ok ds L' ∧ p ds L' := fun {rs L} h => by
  have key : ∀ (rs : List R) (L : Lc), (∃ ds L', toFs rs L = .ok ds L') ∨ toFs rs L = .bad := by
    intro rs
    induction rs with
    | nil => exact fun L => .inl ⟨_, _, rfl⟩
    | cons r rs ih =>
      intro L
      unfold toFs
      cases e : toF r L with
      | ok d L1 =>
        rcases ih L1 with ⟨ds, L2, e2⟩ | e2
        · exact .inl ⟨d :: ds, L2, by show (toFs rs L1).bind _ = _; rw [e2]; rfl⟩
        · exact .inr (by show (toFs rs L1).bind _ = _; rw [e2]; rfl)
      | bad => exact .inr rfl
      | exc x L1 =>
        exfalso
        unfold toF at e
        split at e <;> split at e
        · cases e
        · cases e
        · split at e <;> cases e
        · cases e
  rcases key rs L with ⟨ds, L', e⟩ | e
  · rw [e] at h; exact ⟨ds, L', e, h⟩
  · rw [e] at h; exact h.elim
theorem Reps.len {K : PySem.W.Frag} {F : Hp} : ∀ {ds : List D} {vs : List V}, Reps K F ds vs → vs.length = ds.length
  | [], _, h => by rw [show _ = [] from h]; rfl
  | _ :: _, _, ⟨v, r, e, h, t⟩ => by rw [e, List.length_cons, List.length_cons, t.len]
theorem reps_frz {K : PySem.W.Frag} {F B H : Hp} : ∀ {ds : List D} {vs : List V}, Reps K F ds vs → RepWs K F B H (ds.map .frz) vs []
  | [], _, h => ⟨h, rfl⟩
  | _ :: _, _, ⟨v, r, e, h, t⟩ => ⟨v, r, [], [], e, rfl, ⟨h, rfl⟩, reps_frz t⟩
end

/-! ### argument lists, displays -/
def mNil : M (List R) := fun L => .ok [] L
def mCons (a : M R) (b : M (List R)) : M (List R) := fun L => (a L).bind fun r L1 => (b L1).bind fun rs L2 => .ok (r :: rs) L2
def mTup (m : M (List R)) : M R := fun L => (m L).bind fun rs L1 => (toFs rs L1).bind fun ds L2 => if ds.length ≤ sizeLine then .ok (.val (.frz (.tup ds))) L2 else .bad
def mLst (m : M (List R)) : M R := fun L => (m L).bind fun rs L1 => (toFs rs L1).bind fun ds L2 => if ds.length ≤ sizeLine then .ok (.val (.olst (ds.map .frz))) L2 else .bad
section
variable {X : Cx} {Wx : WX} {e : Expr} {es : List Expr} {ma : M R} {mr : M (List R)} {pos : Pos}
theorem ba_nil : PA X [] (bvA X.K Wx mNil) := pa_imp pa_nil fun σ H Q ⟨F, B, L, as, wf, s, h⟩ => h [] F H [] as (Go.refl wf) s ⟨rfl, rfl⟩
theorem ba_cons (ha : PE X e (bvE X.K Wx ma)) (hr : PA X es (bvA X.K Wx mr)) (hs : starEach (e :: es) X.env = (false, eval e X.env) :: starEach es X.env := by rfl) : PA X (e :: es) (bvA X.K Wx (mCons ma mr)) := by
  refine pa_imp (pa_cons ha hr hs) fun σ H Q ⟨F, B, L, as, wf, s, h⟩ => ?_
  refine ⟨F, B, L, as, wf, s, (End.bind h).imp fun x L1 h1 v1 F1 H1 asr as1 g1 s1 r1 => ?_⟩
  refine ⟨F1, B, L1, as1, g1.wf.sub (le_r _ _), s1, (End.bind h1).behind (g1.sub (le_r _ _)) fun y L2 h2 v2 F2 H2 asr2 as2 g2 s2 r2 => ?_⟩
  obtain ⟨g3, k3⟩ := framed g1 g2
  exact h2 (v1 :: v2) F2 H2 (asr ++ asr2) as2 (g3.sub fun p => by simp only [List.count_append]; omega) s2 ⟨v1, v2, asr, asr2, rfl, rfl, r1.frame g2.ext k3, r2⟩
theorem of_ite {α : Type} {c : Prop} [Decidable c] {K : PySem.W.Frag} {Wx : WX} {F B H : Hp} {as : List Addr} {σ : L2.St} {p : α → Lc → Prop} {a : α} {L : Lc} (h : End K Wx F B H as σ p (if c then .ok a L else .bad)) : c ∧ p a L := by
  by_cases hc : c
  · rw [if_pos hc] at h; exact ⟨hc, h⟩
  · rw [if_neg hc] at h; exact h.elim
theorem be_tup {x1} (h : PA X es (bvA X.K Wx mr)) : PE X (.Tuple es x1 pos) (bvE X.K Wx (mTup mr)) := by
  refine pe_imp (pe_tup h) fun σ H Q ⟨F, B, L, as, wf, s, h⟩ => ?_
  refine ⟨F, B, L, as, wf, s, (End.bind h).imp fun rs L1 h1 vs F1 H1 asr as1 g1 s1 r1 => ?_⟩
  obtain ⟨ds, L2, e2, h2⟩ := toFs_end (End.bind h1)
  obtain ⟨F2, as2, g2, s2, q2⟩ := toFs_ok g1.wf s1 r1 e2
  obtain ⟨hl, h3⟩ := of_ite h2
  refine ⟨by rw [q2.len]; exact hl, fun p np => ?_⟩
  have g3 := Go.allocF g2.wf np (.tup vs)
  refine h3 (.ref p) _ _ [] as2 ((g1.trans g2).trans g3) (SRel.frame g3.ext (Same.refl _) (fun q _ o e => ?_) s2) ⟨⟨p, vs, rfl, .inl (.inl upd_same), q2.mono g3.ext⟩, rfl⟩
  rw [upd_ne (fun z => by rw [z, np] at e; cases e)]; exact e
theorem be_lst (h : PA X es (bvA X.K Wx mr)) : PE X (.List es pos) (bvE X.K Wx (mLst mr)) := by
  refine pe_imp (pe_lst h) fun σ H Q ⟨F, B, L, as, wf, s, h⟩ => ?_
  refine ⟨F, B, L, as, wf, s, (End.bind h).imp fun rs L1 h1 vs F1 H1 asr as1 g1 s1 r1 => ?_⟩
  obtain ⟨ds, L2, e2, h2⟩ := toFs_end (End.bind h1)
  obtain ⟨F2, as2, g2, s2, q2⟩ := toFs_ok g1.wf s1 r1 e2
  obtain ⟨hl, h3⟩ := of_ite h2
  refine ⟨by rw [q2.len]; exact hl, fun p np => ?_⟩
  have g3 := Go.alloc g2.wf np (.lst vs)
  refine h3 (.ref p) _ _ [p] as2 ((g1.trans g2).trans g3) (SRel.frame g3.ext (Same.refl _) (fun q _ o e => ?_) s2) ⟨p, vs, [], rfl, upd_same, rfl, reps_frz q2⟩
  rw [upd_ne (fun z => by rw [z, np] at e; cases e)]; exact e
end

/-! ### calls of what is built in -/
def CallOk (K : PySem.W.Frag) (r : List V → Hp → VK → Prop) (g : List R → M R) : Prop :=
  ∀ (Wx : WX) (σ : L2.St) (F B H : Hp) (L : Lc) (as as1 : List Addr) (rs : List R) (vs : List V) (Q : VK), WF F B H (as1 ++ as) → SRel K F B H σ L as → RepRs K F B H σ rs vs as1 →
    End K Wx F B H (as1 ++ as) σ (okE K F B H (as1 ++ as) σ Q) (g rs L) → r vs H Q
def mCallB (g : List R → M R) (m : M (List R)) : M R := fun L => (m L).bind g
/-- a method: the receiver, then the arguments -/
def MtOk (K : PySem.W.Frag) (r : V → List V → Hp → VK → Prop) (g : R → List R → M R) : Prop :=
  ∀ (Wx : WX) (σ : L2.St) (F B H : Hp) (L : Lc) (as as0 as1 : List Addr) (rx : R) (x : V) (rs : List R) (vs : List V) (Q : VK), WF F B H (as0 ++ (as1 ++ as)) → SRel K F B H σ L as → RepR K F B H σ rx x as0 → RepRs K F B H σ rs vs as1 →
    End K Wx F B H (as0 ++ (as1 ++ as)) σ (okE K F B H (as0 ++ (as1 ++ as)) σ Q) (g rx rs L) → r x vs H Q
/-- the built-in type of what is read -/
def tyD : D → String
  | .str _ => "str" | .int _ => "int" | .lst _ => "list" | .lok _ => "list" | .dct _ => "dict" | .dcT _ => "dict" | _ => ""
def mBM (T : String) (g : R → List R → M R) (a : M R) (m : M (List R)) : M R := fun L => (a L).bind fun x L1 => match x.get L1 with
  | some w => if tyD w.rd = T then (m L1).bind fun rs L2 => g x rs L2 else .bad
  | none => .bad
theorem tyD_ok {K : PySem.W.Frag} {H : Hp} {T : String} (hT : T ≠ "") : ∀ {d : D} {v : V}, tyD d = T → Rep K H d v → tyV K T v H
  | .str _, _, e, h => by cases h; exact e.symm
  | .int _, _, e, h => by cases h; exact e.symm
  | .lst _, _, e, ⟨a, vs, e1, q, _⟩ => by subst e1; exact .inl ⟨e.symm, vs, .inl (.inl q)⟩
  | .lok _, _, e, ⟨a, vs, e1, q, _⟩ => by subst e1; exact .inl ⟨e.symm, vs, q⟩
  | .dct _, _, e, ⟨a, vs, e1, q, _⟩ => by subst e1; exact .inr (.inr (.inl ⟨e.symm, .inl ⟨_, q⟩⟩))
  | .dcT _, _, e, ⟨a, vs, e1, q, _⟩ => by subst e1; exact .inr (.inr (.inl ⟨e.symm, .inr ⟨_, q⟩⟩))
  | .non, _, e, _ => absurd e.symm hT
  | .bl _, _, e, _ => absurd e.symm hT
  | .ty _, _, e, _ => absurd e.symm hT
  | .adr _, _, e, _ => absurd e.symm hT
  | .tup _, _, e, _ => absurd e.symm hT
  | .obj _ _, _, e, _ => absurd e.symm hT
section
variable {X : Cx} {Wx : WX} {e : Expr} {es : List Expr} {ma : M R} {mr : M (List R)} {pos p : Pos} {x : Str} {id : String} {r : List V → Hp → VK → Prop} {g : List R → M R}
theorem of_cb {K : PySem.W.Frag} (hg : CallOk K r g) : ∀ σ H Q, bvE K Wx (mCallB g mr) σ H Q → tCB r (bvA K Wx mr) σ H Q := fun σ H Q ⟨F, B, L, as, wf, s, h⟩ =>
  ⟨F, B, L, as, wf, s, (End.bind h).imp fun rs L1 h1 vs F1 H1 asr as1 g1 s1 r1 => hg Wx σ F1 B H1 L1 as1 asr rs vs Q g1.wf s1 r1 (h1.behind g1 fun r L3 h3 v F' H' asr' as' g' s' r' => h3 v F' H' asr' as' (g1.trans g') s' r')⟩
theorem be_callB (hc : CallR X (.builtin id) r) (hok : CallOk X.K r g) (hg : Gl X x) (hm : X.mg x = none) (hv : bootBuiltins x = some (.builtin id)) (ha : PA X (e :: es) (bvA X.K Wx mr)) (hn : x ≠ "__name__" := by decide) (hdb : (x == ("__debug__" : Str)) = false := by decide)
    (he : starEach (e :: es) X.env = (false, eval e X.env) :: starEach es X.env := by rfl) (hpl : (backTo pos (starEach es X.env)).any (·.1) = false := by rfl) : PE X (.Call (.Name x p) (e :: es) [] pos) (bvE X.K Wx (mCallB g mr)) :=
  pe_imp (pe_callB hc hg hm hv ha hn hdb he hpl) (of_cb hok)
theorem be_callTy {T : String} (hc : CallR X (.type T) r) (hok : CallOk X.K r g) (hg : Gl X x) (hm : X.mg x = none) (hv : bootBuiltins x = some (.type T)) (ha : PA X (e :: es) (bvA X.K Wx mr)) (hn : x ≠ "__name__" := by decide) (hdb : (x == ("__debug__" : Str)) = false := by decide)
    (he : starEach (e :: es) X.env = (false, eval e X.env) :: starEach es X.env := by rfl) (hpl : (backTo pos (starEach es X.env)).any (·.1) = false := by rfl) : PE X (.Call (.Name x p) (e :: es) [] pos) (bvE X.K Wx (mCallB g mr)) :=
  pe_imp (pe_callTy hc hg hm hv ha hn hdb he hpl) (of_cb hok)
variable {o : Expr} {apos cpos : Pos} {T : String} {name : Str} {rm : V → List V → Hp → VK → Prop} {gm : R → List R → M R}
theorem be_bm0 (hT : T ≠ "") (pa : PlainAttrs T) (slot : Slot T name id) (hty : typeOf (.builtin id) = pure (.type "method_descriptor")) (hm : MtR X id rm) (hok : MtOk X.K rm gm) (ho : PE X o (bvE X.K Wx ma))
    (hbase : attributeBase o name X.env (eval o X.env) = eval o X.env := by rfl) (hline : (apos.endLine == cpos.line) = true := by rfl) : PE X (.Call (.Attribute o name apos) [] [] cpos) (bvE X.K Wx (mBM T gm ma mNil)) := by
  refine pe_imp (pe_bm0 pa slot hty hm ho hbase hline) fun σ H Q ⟨F, B, L, as, wf, s, h⟩ => ?_
  refine ⟨F, B, L, as, wf, s, (End.bind h).imp fun x L1 h1 v F1 H1 asr as1 g1 s1 r1 => ?_⟩
  split at h1
  · rename_i w ew
    by_cases ht : tyD w.rd = T
    · rw [if_pos ht] at h1
      have sF := g1.wf.f
      refine ⟨tyD_ok hT ht (r1.rd g1.wf.f g1.wf.b s1 ew), hok Wx σ F1 B H1 L1 as1 asr [] x v [] [] Q g1.wf s1 r1 ⟨rfl, rfl⟩ ?_⟩
      exact h1.behind g1 fun r L3 h3 v F' H' asr' as' g' s' r' => h3 v F' H' asr' as' (g1.trans g') s' r'
    · rw [if_neg ht] at h1
      exact h1.elim
  · exact h1.elim
theorem be_bm (hT : T ≠ "") (pa : PlainAttrs T) (slot : Slot T name id) (hty : typeOf (.builtin id) = pure (.type "method_descriptor")) (hm : MtR X id rm) (hok : MtOk X.K rm gm) (ho : PE X o (bvE X.K Wx ma)) (ha : PA X (e :: es) (bvA X.K Wx mr))
    (hbase : attributeBase o name X.env (eval o X.env) = eval o X.env := by rfl)
    (hfew : ((backTo cpos (starEach (e :: es) X.env)).all (fun x => !x.1) && (backToKw cpos (keywordEach [] X.env)).all (fun x => x.1.isSome)
      && decide ((e :: es).length + ([] : List Keyword).length + (if ([] : List Keyword).isEmpty then 0 else 1) < 30)) = true := by rfl)
    (hline : (apos.endLine == cpos.line) = true := by rfl) (hs : starEach (e :: es) X.env = (false, eval e X.env) :: starEach es X.env := by rfl) (hplain : (backTo cpos (starEach es X.env)).any (·.1) = false := by rfl) :
    PE X (.Call (.Attribute o name apos) (e :: es) [] cpos) (bvE X.K Wx (mBM T gm ma mr)) := by
  refine pe_imp (pe_bm pa slot hty hm ho ha hbase hfew hline hs hplain) fun σ H Q ⟨F, B, L, as, wf, s, h⟩ => ?_
  refine ⟨F, B, L, as, wf, s, (End.bind h).imp fun x L1 h1 v F1 H1 asr as1 g1 s1 r1 => ?_⟩
  split at h1
  · rename_i w ew
    by_cases ht : tyD w.rd = T
    · rw [if_pos ht] at h1
      refine ⟨tyD_ok hT ht (r1.rd g1.wf.f g1.wf.b s1 ew), F1, B, L1, as1, g1.wf.sub (le_r _ _), s1, (End.bind h1).behind (g1.sub (le_r _ _)) fun rs L2 h2 vs F2 H2 asr2 as2 g2 s2 r2 => ?_⟩
      obtain ⟨g3, k3⟩ := framed g1 g2
      refine hok Wx σ F2 B H2 L2 as2 asr asr2 x v rs vs Q g3.wf s2 (r1.frame g2.ext k3) r2 (h2.behind g3 fun r L3 h3 v F' H' asr' as' g' s' r' => ?_)
      exact h3 v F' H' asr' as' (g3.trans g') s' r'
    · rw [if_neg ht] at h1
      exact h1.elim
  · exact h1.elim
end
end BV

namespace BV
open PySem PySem.Spec PyProof.Rows L2

/-! ### statements -/
inductive SRes where
  | next (L : Lc) | ret (w : W) (L : Lc) | brk (L : Lc) | cnt (L : Lc) | exc (x : Ex) (L : Lc) | bad
abbrev MS := Lc → SRes
/-- fl: which slots stay (the parameters that the caller gets back) -/
def Pin (fl : List Bool) (σ σ' : L2.St) : Prop := σ'.length = σ.length ∧ ∀ j : Nat, fl[j]? = some true → σ'[j]? = σ[j]?
theorem Pin.refl (fl : List Bool) (σ : L2.St) : Pin fl σ σ := ⟨rfl, fun _ _ => rfl⟩
theorem Pin.trans {fl : List Bool} {σ σ1 σ2 : L2.St} (h : Pin fl σ σ1) (k : Pin fl σ1 σ2) : Pin fl σ σ2 := ⟨k.1.trans h.1, fun j e => (k.2 j e).trans (h.2 j e)⟩
section
variable (K : PySem.W.Frag) (Wx : WX) (fl : List Bool)
def okN (F B H : Hp) (as : List Addr) (σ : L2.St) (Q : L2.St → Hp → Prop) (L : Lc) : Prop := ∀ σ' F' H' as', Go F B H as F' H' as' → SRel K F' B H' σ' L as' → Pin fl σ σ' → Q σ' H'
def EndS (F B H : Hp) (as : List Addr) (σ : L2.St) (T : Ends) : SRes → Prop
  | .next L => okN K fl F B H as σ T.nx L
  | .brk L => okN K fl F B H as σ T.bk L
  | .cnt L => okN K fl F B H as σ T.ct L
  | .ret w L => ∀ v σ' F' H' asw as', Go F B H as F' H' (asw ++ as') → SRel K F' B H' σ' L as' → Pin fl σ σ' → RepW K F' B H' w v asw → T.rt v H'
  | .exc x L => ∀ cls d σ' F' H' as', Go F B H as F' H' as' → SRel K F' B H' σ' L as' → Pin fl σ σ' → ExRel K F' x cls d → Wx cls d σ' H'
  | .bad => False
def bvS (m : MS) : TS := fun T σ H => ∃ F B L as, WF F B H as ∧ SRel K F B H σ L as ∧ EndS K Wx fl F B H as σ T (m L)
end
section
variable {K : PySem.W.Frag} {Wx : WX} {fl : List Bool} {F B H F1 H1 : Hp} {as as1 : List Addr} {σ σ1 : L2.St} {T : Ends}
theorem okN.behind {Q : L2.St → Hp → Prop} {L : Lc} (g : Go F B H as F1 H1 as1) (p : Pin fl σ σ1) (h : okN K fl F B H as σ Q L) : okN K fl F1 B H1 as1 σ1 Q L := fun σ' F' H' as' g' s' p' => h σ' F' H' as' (g.trans g') s' (p.trans p')
theorem EndS.behind {r : SRes} (g : Go F B H as F1 H1 as1) (p : Pin fl σ σ1) (h : EndS K Wx fl F B H as σ T r) : EndS K Wx fl F1 B H1 as1 σ1 T r := by
  cases r with
  | next L => exact okN.behind g p h
  | brk L => exact okN.behind g p h
  | cnt L => exact okN.behind g p h
  | ret w L => exact fun v σ' F' H' asw as' g' s' p' r' => h v σ' F' H' asw as' (g.trans g') s' (p.trans p') r'
  | exc x L => exact fun cls d σ' F' H' as' g' s' p' r' => h cls d σ' F' H' as' (g.trans g') s' (p.trans p') r'
  | bad => exact h
/-- an expression's reading, then a statement's end -/
def Res.thenS {α : Type} (r : Res α) (f : α → Lc → SRes) : SRes := match r with
  | .ok a L => f a L
  | .exc x L => .exc x L
  | .bad => .bad
theorem EndS.thenS {α : Type} {r : Res α} {f : α → Lc → SRes} (h : EndS K Wx fl F B H as σ T (r.thenS f)) : End K Wx F B H as σ (fun a L => EndS K Wx fl F B H as σ T (f a L)) r := by
  cases r with
  | ok a L => exact h
  | exc x L => exact fun cls d F' H' as' g s r' => h cls d σ F' H' as' g s (Pin.refl _ _) r'
  | bad => exact h
theorem toF_endS {r : R} {L : Lc} {f : D → Lc → SRes} (h : EndS K Wx fl F B H as σ T ((toF r L).thenS f)) : ∃ d L', toF r L = .ok d L' ∧ EndS K Wx fl F B H as σ T (f d L') := toF_end (EndS.thenS h)
end
def sNil : MS := fun L => .next L
def sSeq (a b : MS) : MS := fun L => match a L with
  | .next L1 => b L1
  | r => r
def sBrk : MS := fun L => .brk L
def sCnt : MS := fun L => .cnt L
def sExp (m : M R) : MS := fun L => (m L).thenS fun _ L1 => .next L1
/-- what is put into slot i -/
def asgn (fl : List Bool) (i : Nat) (r : R) (L : Lc) : SRes := if fl[i]? = some true then .bad else match r with
  | .val w => .next (L.set i (some w))
  | .al j => (toF (.al j) L).thenS fun d L1 => .next (L1.set i (some (.frz d)))
def sSet (fl : List Bool) (i : Nat) (m : M R) : MS := fun L => (m L).thenS fun r L1 => asgn fl i r L1
/-- a result is handed back: slot i's own object is moved out -/
def handed (r : R) (L : Lc) : SRes := match r with
  | .val w => .ret w L
  | .al i => match L[i]? with
    | some (some w) => .ret w (L.set i none)
    | _ => .bad
def sRet (m : M R) : MS := fun L => (m L).thenS handed
def sRetN : MS := fun L => .ret (.frz .non) L
def sIf (c : M Bool) (a b : MS) : MS := fun L => (c L).thenS fun k L1 => if k = true then a L1 else b L1
section
variable {X : Cx} {Wx : WX} {fl : List Bool} {st : Stmt} {rest : List Stmt} {a b : MS} {pos : Pos}
theorem bss_nil : PSs X [] (bvS X.K Wx fl sNil) := pss_imp pss_nil fun D σ H ⟨F, B, L, as, wf, s, h⟩ => h σ F H as (Go.refl wf) s (Pin.refl _ _)
theorem bs_pass : PS X (.Pass pos) (bvS X.K Wx fl sNil) := ps_imp ps_pass fun D σ H ⟨F, B, L, as, wf, s, h⟩ => h σ F H as (Go.refl wf) s (Pin.refl _ _)
theorem bs_break : PS X (.Break pos) (bvS X.K Wx fl sBrk) := ps_imp ps_break fun D σ H ⟨F, B, L, as, wf, s, h⟩ => h σ F H as (Go.refl wf) s (Pin.refl _ _)
theorem bs_continue : PS X (.Continue pos) (bvS X.K Wx fl sCnt) := ps_imp ps_continue fun D σ H ⟨F, B, L, as, wf, s, h⟩ => h σ F H as (Go.refl wf) s (Pin.refl _ _)
theorem seq_end {K : PySem.W.Frag} {F B H : Hp} {as : List Addr} {σ : L2.St} {T : Ends} {L : Lc} (h : EndS K Wx fl F B H as σ T (sSeq a b L)) : EndS K Wx fl F B H as σ { T with nx := bvS K Wx fl b T } (a L) := by
  unfold sSeq at h
  split at h
  · rename_i L1 e
    rw [e]
    exact fun σ' F' H' as' g s p => ⟨F', B, L1, as', g.wf, s, EndS.behind g p h⟩
  · rename_i r hr
    cases e : a L with
    | next L1 => exact absurd e (hr L1)
    | brk L1 => rw [e] at h; exact h
    | cnt L1 => rw [e] at h; exact h
    | ret w L1 => rw [e] at h; exact h
    | exc x L1 => rw [e] at h; exact h
    | bad => rw [e] at h; exact h
theorem bss_cons (h1 : PS X st (bvS X.K Wx fl a)) (h2 : PSs X rest (bvS X.K Wx fl b)) : PSs X (st :: rest) (bvS X.K Wx fl (sSeq a b)) :=
  pss_imp (pss_cons h1 h2) fun D σ H ⟨F, B, L, as, wf, s, h⟩ => ⟨F, B, L, as, wf, s, seq_end h⟩
theorem bss_one (h1 : PS X st (bvS X.K Wx fl a)) : PSs X [st] (bvS X.K Wx fl a) := pss_one h1
variable {e : Expr} {m : M R} {i : Nat} {x : Str} {pos' : Pos}
theorem bs_expr (he : PE X e (bvE X.K Wx m)) (hs : swapsWith e none pos.line X.env = pure false := by rfl) : PS X (.Expr e pos) (bvS X.K Wx fl (sExp m)) :=
  ps_imp (ps_expr he hs) fun D σ H ⟨F, B, L, as, wf, s, h⟩ => ⟨F, B, L, as, wf, s, (EndS.thenS h).imp fun r L1 h1 v F' H' asr as' g' s' r' => h1 σ F' H' as' (g'.sub (le_r _ _)) s' (Pin.refl _ _)⟩
theorem pin_set {fl : List Bool} {σ : L2.St} {i : Nat} {v : Option V} (h : ¬ fl[i]? = some true) : Pin fl σ (σ.set i v) := ⟨List.length_set, fun j e => by
  have ne : i ≠ j := fun z => h (by rw [z]; exact e)
  rw [List.getElem?_set_ne ne]⟩
/-- the slot's store -/
theorem set_ok {K : PySem.W.Frag} {F B H : Hp} {as asr : List Addr} {σ : L2.St} {T : Ends} {L : Lc} {r : R} {v : V} (wf : WF F B H (asr ++ as)) (s : SRel K F B H σ L as) (rr : RepR K F B H σ r v asr)
    (h : EndS K Wx fl F B H (asr ++ as) σ T (asgn fl i r L)) : T.nx (σ.set i (some v)) H := by
  unfold asgn at h
  by_cases hp : fl[i]? = some true
  · rw [if_pos hp] at h; exact h.elim
  · rw [if_neg hp] at h
    have put : ∀ {F B H : Hp} {as asr : List Addr} {L : Lc} {w : W}, WF F B H (asr ++ as) → SRel K F B H σ L as → RepW K F B H w v asr → ∃ as', Go F B H (asr ++ as) F H as' ∧ SRel K F B H (σ.set i (some v)) (L.set i (some w)) as' := by
      intro F B H as asr L w wf s rw'
      by_cases hi : i < L.length
      · obtain ⟨s', pre, a1, post, h1, h2, ea, k⟩ := SRel.at s (List.getElem?_eq_getElem hi)
        subst ea
        exact ⟨pre ++ (asr ++ post), (Go.refl wf).sub fun p => by simp only [List.count_append]; omega, k F B H (some v) (some w) asr (Same.refl _) (Same.refl _) (fun _ _ _ z => z) ⟨v, rfl, rw'⟩⟩
      · refine ⟨as, (Go.refl wf).sub (le_r _ _), ?_⟩
        have hl := s.len
        rw [List.set_eq_of_length_le (show σ.length ≤ i by omega), List.set_eq_of_length_le (show L.length ≤ i by omega)]
        exact s
    cases r with
    | val w =>
      obtain ⟨as', g, s'⟩ := put wf s rr
      exact h _ F H as' g s' (pin_set hp)
    | al j =>
      obtain ⟨d, L1, e1, h1⟩ := toF_endS h
      obtain ⟨F1, as1, g1, s1, q1⟩ := toF_ok wf s rr e1
      obtain ⟨as', g, s'⟩ := put (asr := []) (w := .frz d) g1.wf s1 ⟨q1, rfl⟩
      exact h1 _ F1 H as' (g1.trans g) s' (pin_set hp)
theorem bs_set (hN : X.N.Nodup) (hi : X.N[i]? = some x) (hx : L2.Loc X.env.scope x) (he : PE X e (bvE X.K Wx m)) (hs : swapsWith e (some (.Name x pos')) pos.line X.env = pure false := by rfl)
    (hf : X.fn x = true ∨ X.env.scope.names.lookup x = some .local := by first | exact .inl rfl | exact .inr rfl | assumption) : PS X (.Assign [.Name x pos'] e pos) (bvS X.K Wx fl (sSet fl i m)) := by
  refine ps_imp (ps_set hN hi hx he hs hf) fun T σ H ⟨F, B, L, as, wf, s, h⟩ => ?_
  refine ⟨F, B, L, as, wf, s, (EndS.thenS h).imp fun r L1 h1 v F' H' asr as' g' s' r' => ?_⟩
  exact set_ok g'.wf s' r' (EndS.behind g' (Pin.refl _ _) h1)
theorem bs_ret (he : PE X e (bvE X.K Wx m)) : PS X (.Return (some e) pos) (bvS X.K Wx fl (sRet m)) := by
  refine ps_imp (ps_ret he) fun T σ H ⟨F, B, L, as, wf, s, h⟩ => ?_
  refine ⟨F, B, L, as, wf, s, (EndS.thenS h).imp fun r L1 h1 v F' H' asr as' g' s' r' => ?_⟩
  unfold handed at h1
  cases r with
  | val w => exact h1 v σ F' H' asr as' g' s' (Pin.refl _ _) r'
  | al j =>
    obtain ⟨hv, rfl⟩ := r'
    dsimp only at h1
    split at h1
    · rename_i w ew
      obtain ⟨s0, pre, a1, post, q1, ⟨v', e1, q2⟩, ea, k⟩ := SRel.at s' ew
      subst e1 ea
      rw [hv] at q1
      cases q1
      have s2 := k F' B H' (some v) none [] (Same.refl _) (Same.refl _) (fun _ _ _ z => z) rfl
      rw [set_same hv] at s2
      exact h1 v σ F' H' a1 (pre ++ ([] ++ post)) (g'.sub fun p => by simp only [List.count_append, List.count_nil]; omega) s2 (Pin.refl _ _) q2
    · exact h1.elim
theorem bs_retN : PS X (.Return none pos) (bvS X.K Wx fl sRetN) := ps_imp ps_retN fun T σ H ⟨F, B, L, as, wf, s, h⟩ => h .non σ F H [] as (Go.refl wf) s (Pin.refl _ _) ⟨rfl, rfl⟩
theorem bs_if {c : Expr} {mc : M Bool} {sa sb : List Stmt} (hc : PT X c (bvT X.K Wx mc)) (ha : PSs X sa (bvS X.K Wx fl a)) (hb : PSs X sb (bvS X.K Wx fl b)) : PS X (.If c sa sb pos) (bvS X.K Wx fl (sIf mc a b)) := by
  refine ps_imp (ps_if hc ha hb) fun T σ H ⟨F, B, L, as, wf, s, h⟩ => ?_
  refine ⟨F, B, L, as, wf, s, (EndS.thenS h).imp fun k L1 h1 F' H' as' g' s' => ?_⟩
  cases k with
  | true => exact iteT ⟨F', B, L1, as', g'.wf, s', EndS.behind g' (Pin.refl _ _) h1⟩
  | false => exact iteF ⟨F', B, L1, as', g'.wf, s', EndS.behind g' (Pin.refl _ _) (h1 : EndS X.K Wx fl F B H as σ T (b L1))⟩
end
/-! ### tests -/
section
variable {X : Cx} {Wx : WX} {e a b : Expr} {m : M R} {ma mb : M Bool} {rest : List Expr} {pos : Pos}
def tru : D → Option Bool
  | .non => some false
  | .bl b => some b
  | .int i => some (i != 0)
  | .str y => if y.length ≤ sizeLine then some ((y.length : Int) != 0) else none
  | .lst xs => some (!xs.isEmpty)
  | .lok xs => some (!xs.isEmpty)
  | .tup xs => some (!xs.isEmpty)
  | .dct xs => some (!xs.isEmpty)
  | _ => none
def mTru (m : M R) : M Bool := fun L => (m L).bind fun r L1 => match r.get L1 with
  | some w => match tru w.rd with
    | some k => .ok k L1
    | none => .bad
  | none => .bad
theorem emp_of {K : PySem.W.Frag} {F : Hp} : ∀ {xs : List D} {vs : List V}, Reps K F xs vs → (!xs.isEmpty) = !vs.isEmpty
  | [], _, h => by rw [show _ = [] from h]; rfl
  | _ :: _, _, ⟨v, r, e, _, _⟩ => by rw [e]; rfl
theorem empK_of {K : PySem.W.Frag} {F : Hp} : ∀ {xs : List (Key × D)} {vs : List (Key × V)}, RepK K F xs vs → (!xs.isEmpty) = !vs.isEmpty
  | [], _, h => by rw [show _ = [] from h]; rfl
  | (_, _) :: _, _, ⟨v, r, e, _, _⟩ => by rw [e]; rfl
theorem tru_of {K : PySem.W.Frag} {H : Hp} : ∀ {d : D} {v : V} {k : Bool}, tru d = some k → Rep K H d v → TruV K v H k
  | .non, _, _, e, h => by cases h; cases e; exact rfl
  | .bl _, _, _, e, h => by cases h; cases e; exact rfl
  | .int _, _, _, e, h => by cases h; cases e; exact rfl
  | .str y, _, _, e, h => by
    cases h
    have e' : (if y.length ≤ sizeLine then some ((y.length : Int) != 0) else none) = some _ := e
    split at e'
    · rename_i hy; cases e'; exact ⟨hy, rfl⟩
    · cases e'
  | .lst xs, _, _, e, ⟨a, vs, e1, q, r⟩ => by subst e1; cases e; exact .inl ⟨vs, .inl (.inl q), emp_of r⟩
  | .lok xs, _, _, e, ⟨a, vs, e1, q, r⟩ => by subst e1; cases e; exact .inl ⟨vs, q, emp_of r⟩
  | .tup xs, _, _, e, ⟨a, vs, e1, q, r⟩ => by subst e1; cases e; exact .inr (.inl ⟨vs, q, emp_of r⟩)
  | .dct xs, _, _, e, ⟨a, vs, e1, q, r⟩ => by subst e1; cases e; exact .inr (.inr ⟨vs, q, empK_of r⟩)
  | .ty _, _, _, e, _ => nomatch e
  | .adr _, _, _, e, _ => nomatch e
  | .dcT _, _, _, e, _ => nomatch e
  | .obj _ _, _, _, e, _ => nomatch e
theorem bt_tru (he : PE X e (bvE X.K Wx m)) (hw : ∀ whole, isTrue e X.env whole = (do let v ← whole; standAt e.pos; holding [v] (truthy v)) := by intro _; rfl) : PT X e (bvT X.K Wx (mTru m)) := by
  refine pt_imp (pt_truth he hw) fun σ H Q ⟨F, B, L, as, wf, s, h⟩ => ?_
  refine ⟨F, B, L, as, wf, s, (End.bind h).imp fun r L1 h1 v F' H' asr as' g' s' r' => ?_⟩
  split at h1
  · rename_i w ew
    split at h1
    · rename_i k ek
      exact ⟨k, tru_of ek (r'.rd g'.wf.f g'.wf.b s' ew), h1 F' H' as' (g'.sub (le_r _ _)) s'⟩
    · exact h1.elim
  · exact h1.elim
/-- an expression that gives True or False -/
def mBl (m : M R) : M Bool := fun L => (m L).bind fun r L1 => match r with
  | .val (.frz (.bl b)) => .ok b L1
  | _ => .bad
theorem of_bl {K : PySem.W.Frag} {t : TE} (ht : ∀ σ H Q, bvE K Wx m σ H Q → t σ H Q) : ∀ σ H Q, bvT K Wx (mBl m) σ H Q → t σ H (fun x H' => ∃ k, x = .bl k ∧ Q k H') := fun σ H Q ⟨F, B, L, as, wf, s, h⟩ => by
  refine ht σ H _ ⟨F, B, L, as, wf, s, (End.bind h).imp fun r L1 h1 v F' H' asr as' g' s' r' => ?_⟩
  split at h1
  · rename_i b
    exact ⟨b, r'.1, h1 F' H' as' (g'.sub (le_r _ _)) s'⟩
  · exact h1.elim
theorem bt_val (he : PE X e (bvE X.K Wx m)) (hw : ∀ whole, isTrue e X.env whole = (do let v ← whole; standAt e.pos; holding [v] (truthy v)) := by intro _; rfl) : PT X e (bvT X.K Wx (mBl m)) :=
  pt_imp (pt_val he hw) (of_bl fun _ _ _ h => h)
theorem bt_cmp {op : CmpOp} {r : R2} {g : R → R → M R} {mx my : M R} (ho : OpR X (compareOp op) r) (hg : OpOk X.K r g) (ha : PE X a (bvE X.K Wx mx)) (hb : PE X b (bvE X.K Wx my)) (hm : behindInMarks op b = false) : PT X (.Compare a [op] [b] pos) (bvT X.K Wx (mBl (mOp g mx my))) :=
  pt_imp (pt_cmpR ho ha hb hm) (of_bl (op2 hg))
def mNot (m : M Bool) : M Bool := fun L => (m L).bind fun k L1 => .ok (!k) L1
def mAnd (a b : M Bool) : M Bool := fun L => (a L).bind fun k L1 => if k = true then b L1 else .ok false L1
def mOr (a b : M Bool) : M Bool := fun L => (a L).bind fun k L1 => if k = true then .ok true L1 else b L1
theorem bt_not (ha : PT X a (bvT X.K Wx ma)) : PT X (.UnaryOp .Not a pos) (bvT X.K Wx (mNot ma)) :=
  pt_imp (pt_not ha) fun σ H Q ⟨F, B, L, as, wf, s, h⟩ => ⟨F, B, L, as, wf, s, (End.bind h).imp fun k L1 h1 F' H' as' g' s' => h1 F' H' as' g' s'⟩
theorem bw_and1 (ha : PT X a (bvT X.K Wx ma)) : PW X (.BoolOp .And [a] pos) (bvT X.K Wx ma) := pw_and1 ha
theorem bw_or1 (ha : PT X a (bvT X.K Wx ma)) : PW X (.BoolOp .Or [a] pos) (bvT X.K Wx ma) := pw_or1 ha
theorem bw_and (ha : PT X a (bvT X.K Wx ma)) (hb : PW X (.BoolOp .And (b :: rest) pos) (bvT X.K Wx mb)) : PW X (.BoolOp .And (a :: b :: rest) pos) (bvT X.K Wx (mAnd ma mb)) :=
  pw_imp (pw_and ha hb) fun σ H Q ⟨F, B, L, as, wf, s, h⟩ => ⟨F, B, L, as, wf, s, (End.bind h).imp fun k L1 h1 F' H' as' g' s' => by
    cases k with
    | true => exact iteT ⟨F', B, L1, as', g'.wf, s', (show End X.K Wx F B H as σ (okT X.K F B H as σ Q) (mb L1) from h1).behind g' fun k2 L2 h2 F2 H2 as2 g2 s2 => h2 F2 H2 as2 (g'.trans g2) s2⟩
    | false => exact iteF (h1 F' H' as' g' s')⟩
theorem bw_or (ha : PT X a (bvT X.K Wx ma)) (hb : PW X (.BoolOp .Or (b :: rest) pos) (bvT X.K Wx mb)) : PW X (.BoolOp .Or (a :: b :: rest) pos) (bvT X.K Wx (mOr ma mb)) :=
  pw_imp (pw_or ha hb) fun σ H Q ⟨F, B, L, as, wf, s, h⟩ => ⟨F, B, L, as, wf, s, (End.bind h).imp fun k L1 h1 F' H' as' g' s' => by
    cases k with
    | false => exact iteF ⟨F', B, L1, as', g'.wf, s', (show End X.K Wx F B H as σ (okT X.K F B H as σ Q) (mb L1) from h1).behind g' fun k2 L2 h2 F2 H2 as2 g2 s2 => h2 F2 H2 as2 (g'.trans g2) s2⟩
    | true => exact iteT (h1 F' H' as' g' s')⟩
end
end BV

namespace BV
open PySem PySem.Spec PyProof.Rows L2

/-! ### and, or, not, if as values; chains -/
def mAndV (a b : M R) : M R := fun L => (mBl a L).bind fun k L1 => if k = true then b L1 else .ok (sc (.bl false)) L1
def mOrV (a b : M R) : M R := fun L => (mBl a L).bind fun k L1 => if k = true then .ok (sc (.bl true)) L1 else b L1
def mNotV (a : M R) : M R := fun L => (mBl a L).bind fun k L1 => .ok (sc (.bl (!k))) L1
def mIfE (c : M Bool) (a b : M R) : M R := fun L => (c L).bind fun k L1 => if k = true then a L1 else b L1
section
variable {X : Cx} {Wx : WX} {a b c : Expr} {ma mb mc : M R} {rest : List Expr} {pos : Pos}
theorem mBl_end {K : PySem.W.Frag} {F B H : Hp} {as : List Addr} {σ : L2.St} {p : Bool → Lc → Prop} {m : M R} {L : Lc} (h : End K Wx F B H as σ p (mBl m L)) :
    End K Wx F B H as σ (fun r L1 => ∃ k, r = sc (.bl k) ∧ p k L1) (m L) := by
  refine (End.bind h).imp fun r L1 h1 => ?_
  split at h1
  · rename_i k; exact ⟨k, rfl, h1⟩
  · exact h1.elim
theorem be_one {op} (h : PE X a (bvE X.K Wx ma)) : PE X (.BoolOp op [a] pos) (bvE X.K Wx ma) := pe_one h
theorem be_and (ha : PE X a (bvE X.K Wx ma)) (hb : PE X (.BoolOp .And (b :: rest) pos) (bvE X.K Wx mb)) : PE X (.BoolOp .And (a :: b :: rest) pos) (bvE X.K Wx (mAndV ma mb)) :=
  pe_imp (pe_and ha hb) fun σ H Q ⟨F, B, L, as, wf, s, h⟩ => ⟨F, B, L, as, wf, s, (mBl_end (p := fun k L1 => End X.K Wx F B H as σ (okE X.K F B H as σ Q) (if k = true then mb L1 else .ok (sc (.bl false)) L1)) (by
      cases e : mBl ma L with
      | ok k L1 => have h' := h; unfold mAndV at h'; rw [e] at h'; exact h'
      | exc x L1 => have h' := h; unfold mAndV at h'; rw [e] at h'; exact h'
      | bad => have h' := h; unfold mAndV at h'; rw [e] at h'; exact h')).imp fun r L1 h1 v F' H' asr as' g' s' r' => by
    obtain ⟨k, rfl, h1⟩ := h1
    obtain rfl : v = .bl k := r'.1
    have g := g'.sub (le_r asr as')
    refine ⟨k, rfl, ?_⟩
    cases k with
    | true => exact iteT ⟨F', B, L1, as', g.wf, s', (show End X.K Wx F B H as σ (okE X.K F B H as σ Q) (mb L1) from h1).behind g fun r2 L2 h2 v2 F2 H2 asr2 as2 g2 s2 r2' => h2 v2 F2 H2 asr2 as2 (g.trans g2) s2 r2'⟩
    | false => exact iteF ((show okE X.K F B H as σ Q (sc (.bl false)) L1 from h1) (.bl false) F' H' [] as' g s' ⟨rfl, rfl⟩)⟩
theorem be_or (ha : PE X a (bvE X.K Wx ma)) (hb : PE X (.BoolOp .Or (b :: rest) pos) (bvE X.K Wx mb)) : PE X (.BoolOp .Or (a :: b :: rest) pos) (bvE X.K Wx (mOrV ma mb)) :=
  pe_imp (pe_or ha hb) fun σ H Q ⟨F, B, L, as, wf, s, h⟩ => ⟨F, B, L, as, wf, s, (mBl_end (p := fun k L1 => End X.K Wx F B H as σ (okE X.K F B H as σ Q) (if k = true then .ok (sc (.bl true)) L1 else mb L1)) (by
      cases e : mBl ma L with
      | ok k L1 => have h' := h; unfold mOrV at h'; rw [e] at h'; exact h'
      | exc x L1 => have h' := h; unfold mOrV at h'; rw [e] at h'; exact h'
      | bad => have h' := h; unfold mOrV at h'; rw [e] at h'; exact h')).imp fun r L1 h1 v F' H' asr as' g' s' r' => by
    obtain ⟨k, rfl, h1⟩ := h1
    obtain rfl : v = .bl k := r'.1
    have g := g'.sub (le_r asr as')
    refine ⟨k, rfl, ?_⟩
    cases k with
    | false => exact iteF ⟨F', B, L1, as', g.wf, s', (show End X.K Wx F B H as σ (okE X.K F B H as σ Q) (mb L1) from h1).behind g fun r2 L2 h2 v2 F2 H2 asr2 as2 g2 s2 r2' => h2 v2 F2 H2 asr2 as2 (g.trans g2) s2 r2'⟩
    | true => exact iteT ((show okE X.K F B H as σ Q (sc (.bl true)) L1 from h1) (.bl true) F' H' [] as' g s' ⟨rfl, rfl⟩)⟩
theorem be_not (ha : PE X a (bvE X.K Wx ma)) : PE X (.UnaryOp .Not a pos) (bvE X.K Wx (mNotV ma)) :=
  pe_imp (pe_not ha) fun σ H Q ⟨F, B, L, as, wf, s, h⟩ => ⟨F, B, L, as, wf, s, (mBl_end (End.bind h)).imp fun r L1 ⟨k, e, h1⟩ v F' H' asr as' g' s' r' => by
    subst e
    obtain rfl : v = .bl k := r'.1
    exact ⟨k, rfl, h1 (.bl (!k)) F' H' [] as' (g'.sub (le_r asr as')) s' ⟨rfl, rfl⟩⟩⟩
theorem be_ifExp {mt : M Bool} (hc : PT X c (bvT X.K Wx mt)) (ha : PE X a (bvE X.K Wx ma)) (hb : PE X b (bvE X.K Wx mb)) : PE X (.IfExp c a b pos) (bvE X.K Wx (mIfE mt ma mb)) :=
  pe_imp (pe_ifExp hc ha hb) fun σ H Q ⟨F, B, L, as, wf, s, h⟩ => ⟨F, B, L, as, wf, s, (End.bind h).imp fun k L1 h1 F' H' as' g s' => by
    have fin : ∀ {m : M R}, End X.K Wx F B H as σ (okE X.K F B H as σ Q) (m L1) → bvE X.K Wx m σ H' Q := fun {m} h2 => ⟨F', B, L1, as', g.wf, s', h2.behind g fun r2 L2 h2 v2 F2 H2 asr2 as2 g2 s2 r2' => h2 v2 F2 H2 asr2 as2 (g.trans g2) s2 r2'⟩
    cases k with
    | true => exact iteT (fin h1)
    | false => exact iteF (fin (m := mb) h1)⟩
/-- a op b op' c, b a scalar -/
def mChain (g g' : R → R → M R) (a b c : M R) : M R := fun L => (a L).bind fun x L1 => (b L1).bind fun y L2 => match y with
  | .val (.frz d) => (g x y L2).bind fun z L3 => match z with
    | .val (.frz (.bl k)) => if k = true then (c L3).bind fun u L4 => g' (sc d) u L4 else .ok (sc (.bl false)) L3
    | _ => .bad
  | _ => .bad
theorem of_chain {K : PySem.W.Frag} {r r' : R2} {g g' : R → R → M R} (hg : OpOk K r g) (hg' : OpOk K r' g') : ∀ σ H Q, bvE K Wx (mChain g g' ma mb mc) σ H Q → tChain r r' (bvE K Wx ma) (bvE K Wx mb) (bvE K Wx mc) σ H Q := fun σ H Q ⟨F, B, L, as, wf, s, h⟩ => by
  refine ⟨F, B, L, as, wf, s, (End.bind h).imp fun x L1 h1 v1 F1 H1 asr as1 g1 s1 r1 => ?_⟩
  refine ⟨F1, B, L1, as1, g1.wf.sub (le_r _ _), s1, (End.bind h1).behind (g1.sub (le_r _ _)) fun y L2 h2 v2 F2 H2 asr2 as2 g2 s2 r2 => ?_⟩
  obtain ⟨g3, k3⟩ := framed g1 g2
  split at h2
  · rename_i d
    obtain ⟨rd, rfl⟩ := r2
    refine hg Wx σ F2 B H2 L2 as2 asr [] x (sc d) v1 v2 _ g3.wf s2 (r1.frame g2.ext k3) ⟨rd, rfl⟩ ((End.bind h2).behind g3 fun z L3 h3 vz F3 H3 asz as3 g4 s3 rz => ?_)
    split at h3
    · rename_i k
      obtain rfl : vz = .bl k := rz.1
      have g5 := (g3.trans g4).sub (le_r asz as3)
      refine ⟨k, rfl, ?_⟩
      cases k with
      | false => exact iteF ((show okE K F B H as σ Q (sc (.bl false)) L3 from h3) (.bl false) F3 H3 [] as3 g5 s3 ⟨rfl, rfl⟩)
      | true =>
        refine iteT ⟨F3, B, L3, as3, g5.wf, s3, (End.bind (show End K Wx F B H as σ (okE K F B H as σ Q) ((mc L3).bind fun u L4 => g' (sc d) u L4) from h3)).behind g5 fun u L4 h4 vu F4 H4 asu as4 g6 s4 ru => ?_⟩
        refine hg' Wx σ F4 B H4 L4 as4 [] asu (sc d) u v2 vu Q g6.wf s4 ⟨(rd.mono g4.ext).mono g6.ext, rfl⟩ ru (h4.behind (g5.trans g6) fun r' L5 h5 v F' H' asr' as' g' s' r'' => h5 v F' H' asr' as' ((g5.trans g6).trans g') s' r'')
    · exact h3.elim
  · exact h2.elim
theorem be_chain {r r' : R2} {g g' : R → R → M R} {op op' : CmpOp} (ho : OpR X (compareOp op) r) (hg : OpOk X.K r g) (ho' : OpR X (compareOp op') r') (hg' : OpOk X.K r' g') (ha : PE X a (bvE X.K Wx ma)) (hb : PE X b (bvE X.K Wx mb)) (hc : PE X c (bvE X.K Wx mc))
    (hq : ∀ σ H Q, bvE X.K Wx (mChain g g' ma mb mc) σ H Q → tChain r r' (bvE X.K Wx ma) (bvE X.K Wx mb) (bvE X.K Wx mc) σ H Q) (hp : PE X (.Compare a [op, op'] [b, c] pos) (tChain r r' (bvE X.K Wx ma) (bvE X.K Wx mb) (bvE X.K Wx mc))) : PE X (.Compare a [op, op'] [b, c] pos) (bvE X.K Wx (mChain g g' ma mb mc)) := pe_imp hp hq
end

/-! ### items -/
def mkB (d : D) : W := if d.scal = true then .frz d else .brw d
theorem repW_mkB {K : PySem.W.Frag} {F B H : Hp} {d : D} {v : V} (h : Rep K B d v) : RepW K F B H (mkB d) v [] := by
  unfold mkB
  split
  · rename_i hs; exact ⟨h.scal hs, rfl⟩
  · exact ⟨h, rfl⟩
def W.no : W → Bool
  | .frz _ => true
  | .brw _ => true
  | _ => false
theorem no_nil {K : PySem.W.Frag} {F B H : Hp} {w : W} {v : V} {as : List Addr} (hn : w.no = true) (h : RepW K F B H w v as) : as = [] := by
  cases w with
  | frz d => exact h.2
  | brw d => exact h.2
  | _ => cases hn
theorem nos_nil {K : PySem.W.Frag} {F B H : Hp} : ∀ {ws : List W} {vs : List V} {as : List Addr}, ws.all W.no = true → RepWs K F B H ws vs as → as = []
  | [], _, _, _, h => h.2
  | w :: ws, _, _, hn, ⟨v, r, a1, a2, e, ea, h, t⟩ => by
    rw [List.all_cons, Bool.and_eq_true] at hn
    rw [ea, no_nil hn.1 h, nos_nil hn.2 t]
    rfl
/-- the items of a list or a tuple, none of them owned -/
def W.seq : W → Option (List W)
  | .frz (.lst ds) => some (ds.map .frz)
  | .frz (.lok ds) => some (ds.map .frz)
  | .frz (.tup ds) => some (ds.map .frz)
  | .brw (.lst ds) => some (ds.map mkB)
  | .brw (.lok ds) => some (ds.map mkB)
  | .brw (.tup ds) => some (ds.map mkB)
  | .olst ws => if ws.all W.no = true then some ws else none
  | .otup ws => if ws.all W.no = true then some ws else none
  | _ => none
theorem reps_brw {K : PySem.W.Frag} {F B H : Hp} : ∀ {ds : List D} {vs : List V}, Reps K B ds vs → RepWs K F B H (ds.map mkB) vs []
  | [], _, h => ⟨h, rfl⟩
  | _ :: _, _, ⟨v, r, e, h, t⟩ => ⟨v, r, [], [], e, rfl, repW_mkB h, reps_brw t⟩
theorem seq_ok {K : PySem.W.Frag} {F B H : Hp} (sF : Same F H) (sB : Same B H) {w : W} {v : V} {as : List Addr} {ws : List W} (h : RepW K F B H w v as) (e : w.seq = some ws) :
    ∃ a vs, v = .ref a ∧ (SqL K H a vs ∨ SqT K H a vs) ∧ RepWs K F B H ws vs [] := by
  cases w with
  | frz d => cases d with
    | lst ds => cases e; obtain ⟨⟨a, vs, e1, q, r⟩, _⟩ := h; exact ⟨a, vs, e1, .inl (.inl (.inl (sF _ _ q))), reps_frz r⟩
    | lok ds => cases e; obtain ⟨⟨a, vs, e1, q, r⟩, _⟩ := h; exact ⟨a, vs, e1, .inl (sF.seq q), reps_frz r⟩
    | tup ds => cases e; obtain ⟨⟨a, vs, e1, q, r⟩, _⟩ := h; exact ⟨a, vs, e1, .inr (sameSqT sF q), reps_frz r⟩
    | _ => cases e
  | brw d => cases d with
    | lst ds => cases e; obtain ⟨⟨a, vs, e1, q, r⟩, _⟩ := h; exact ⟨a, vs, e1, .inl (.inl (.inl (sB _ _ q))), reps_brw r⟩
    | lok ds => cases e; obtain ⟨⟨a, vs, e1, q, r⟩, _⟩ := h; exact ⟨a, vs, e1, .inl (sB.seq q), reps_brw r⟩
    | tup ds => cases e; obtain ⟨⟨a, vs, e1, q, r⟩, _⟩ := h; exact ⟨a, vs, e1, .inr (sameSqT sB q), reps_brw r⟩
    | _ => cases e
  | olst us =>
    have e' : (if us.all W.no = true then some us else none) = some ws := e
    split at e'
    · rename_i hn
      cases e'
      obtain ⟨a, vs, bs, e1, q, ea, r⟩ := h
      have := nos_nil hn r
      subst this
      exact ⟨a, vs, e1, .inl (.inl (.inl q)), r⟩
    · cases e'
  | otup us =>
    have e' : (if us.all W.no = true then some us else none) = some ws := e
    split at e'
    · rename_i hn
      cases e'
      obtain ⟨a, vs, bs, e1, q, ea, r⟩ := h
      have := nos_nil hn r
      subst this
      exact ⟨a, vs, e1, .inr (.inl (.inl q)), r⟩
    · cases e'
  | _ => cases e
/-- what slot i or a value of its own holds -/
theorem get_ok {K : PySem.W.Frag} {F B H : Hp} {σ : L2.St} {L : Lc} {as asr : List Addr} {r : R} {v : V} {w : W} (s : SRel K F B H σ L as) (h : RepR K F B H σ r v asr) (g : r.get L = some w) : ∃ bs, RepW K F B H w v bs := by
  cases r with
  | val w' => cases g; exact ⟨_, h⟩
  | al i =>
    have g0 : (match L[i]? with
      | some o => o
      | none => none) = some w := g
    cases e : L[i]? with
    | none => rw [e] at g0; cases g0
    | some o =>
      rw [e] at g0
      have g' : o = some w := g0
      subst g'
      obtain ⟨s', pre, a1, post, h1, ⟨v', e1, h2⟩, _⟩ := SRel.at s e
      rw [h.1] at h1
      cases h1
      cases e1
      exact ⟨_, h2⟩
theorem RepWs.len {K : PySem.W.Frag} {F B H : Hp} : ∀ {ws : List W} {vs : List V} {as : List Addr}, RepWs K F B H ws vs as → vs.length = ws.length
  | [], _, _, h => by rw [h.1]; rfl
  | _ :: _, _, _, ⟨v, r, a1, a2, e, ea, h, t⟩ => by rw [e, List.length_cons, List.length_cons, t.len]
theorem RepWs.get {K : PySem.W.Frag} {F B H : Hp} : ∀ {ws : List W} {vs : List V} {i : Nat} {w : W}, RepWs K F B H ws vs [] → ws[i]? = some w → ∃ v, vs[i]? = some v ∧ RepW K F B H w v []
  | [], _, _, _, _, h => by cases h
  | w :: ws, _, 0, _, ⟨v, r, a1, a2, e, ea, h, t⟩, hi => by
    cases hi
    obtain ⟨rfl, rfl⟩ := List.append_eq_nil_iff.mp ea.symm
    exact ⟨v, by rw [e]; rfl, h⟩
  | w :: ws, _, i + 1, _, ⟨v, r, a1, a2, e, ea, h, t⟩, hi => by
    obtain ⟨rfl, rfl⟩ := List.append_eq_nil_iff.mp ea.symm
    obtain ⟨u, h1, h2⟩ := RepWs.get t (show ws[i]? = some _ from hi)
    exact ⟨u, by rw [e]; exact h1, h2⟩
theorem repws_nil {K : PySem.W.Frag} {F B H : Hp} {ws : List W} {vs : List V} : ∀ {w : W} {v : V}, RepWs K F B H (w :: ws) (v :: vs) [] → RepW K F B H w v [] ∧ RepWs K F B H ws vs [] := fun {w v} ⟨v', r, a1, a2, e, ea, h, t⟩ => by
  obtain ⟨rfl, rfl⟩ := List.append_eq_nil_iff.mp ea.symm
  cases e
  exact ⟨h, t⟩
/-- a read that gives an item -/
def mkK (g : W → W → Option W) : R → R → M R := fun x y L => match x.get L, y.get L with
  | some a, some b => match g a b with
    | some w => .ok (.val w) L
    | none => .bad
  | _, _ => .bad
theorem OpOk.kid {K : PySem.W.Frag} {r : R2} {g : W → W → Option W} (hg : ∀ F B H w1 w2 v1 v2 b1 b2 w Q, Same F H → Same B H → RepW K F B H w1 v1 b1 → RepW K F B H w2 v2 b2 → g w1 w2 = some w → (∀ v, RepW K F B H w v [] → Q v H) → r v1 v2 H Q) : OpOk K r (mkK g) :=
  fun Wx σ F B H L as as1 as2 rx ry v1 v2 Q wf s p1 p2 h => by
    unfold mkK at h
    split at h
    · rename_i w1 w2 e1 e2
      split at h
      · rename_i w ew
        obtain ⟨b1, q1⟩ := get_ok s p1 e1
        obtain ⟨b2, q2⟩ := get_ok s p2 e2
        exact hg F B H w1 w2 v1 v2 b1 b2 w Q wf.f wf.b q1 q2 ew fun v hv => h v F H [] as (go_drop2 wf) s hv
      · exact h.elim
    · exact h.elim
def W.str? : W → Option Str
  | .frz (.str z) => some z
  | _ => none
def W.int? : W → Option Int
  | .frz (.int i) => some i
  | _ => none
theorem str_of {w : W} {z : Str} (h : w.str? = some z) : w = .frz (.str z) := by
  unfold W.str? at h
  split at h
  · cases h; rfl
  · cases h
theorem int_of {w : W} {z : Int} (h : w.int? = some z) : w = .frz (.int z) := by
  unfold W.int? at h
  split at h
  · cases h; rfl
  · cases h
def ixW (w u : W) : Option W := match u.int? with
  | some i => match w.str? with
    | some z => if z.length ≤ sizeLine then (atI z.cps.toList i).map fun c => .frz (.str ⟨#[c]⟩) else none
    | none => w.seq.bind fun ws => atI ws i
  | none => none
theorem atI_rel {K : PySem.W.Frag} {F B H : Hp} {ws : List W} {vs : List V} {i : Int} {w : W} (h : RepWs K F B H ws vs []) (e : atI ws i = some w) : ∃ v, atI vs i = some v ∧ RepW K F B H w v [] := by
  unfold atI at e ⊢
  rw [h.len]
  cases q : ixN ws.length i with
  | none => rw [q] at e; cases e
  | some j =>
    rw [q] at e
    exact h.get e
theorem bind_some {α β : Type} {x : Option α} {f : α → Option β} {y : β} (h : x.bind f = some y) : ∃ z, x = some z ∧ f z = some y := by
  cases x with
  | none => cases h
  | some z => exact ⟨z, rfl, h⟩
theorem ok_ix {K : PySem.W.Frag} : OpOk K (rIx K) (mkK ixW) := .kid fun F B H w1 w2 v1 v2 b1 b2 w Q sF sB r1 r2 e q => by
  unfold ixW at e
  split at e
  · rename_i i ei
    have := int_of ei
    subst this
    have e2 : v2 = .int i := r2.1
    split at e
    · rename_i z ez
      have := str_of ez
      subst this
      split at e
      · rename_i hz
        obtain ⟨c, hc, rfl⟩ := map_some e
        exact .inr (.inr ⟨z, i, c, r1.1, e2, hz, hc, q _ ⟨rfl, rfl⟩⟩)
      · cases e
    · obtain ⟨ws, es, ea⟩ := bind_some e
      obtain ⟨a, vs, e1, hq, rs⟩ := seq_ok sF sB r1 es
      obtain ⟨v, hv, rv⟩ := atI_rel rs ea
      rcases hq with hq | hq
      · exact .inl ⟨a, vs, i, v, e1, e2, hq, hv, q v rv⟩
      · exact .inr (.inl ⟨a, vs, i, v, e1, e2, hq, hv, q v rv⟩)
  · cases e
section
variable {X : Cx} {Wx : WX} {a b : Expr} {ma mb : M R} {pos : Pos}
theorem be_ix (ha : PE X a (bvE X.K Wx ma)) (hb : PE X b (bvE X.K Wx mb)) (hs : PlainIx b) : PE X (.Subscript a b pos) (bvE X.K Wx (mOp (mkK ixW) ma mb)) := pe_imp (pe_ix ix_seq ha hb hs) (op2 ok_ix)
end
end BV

namespace BV
open PySem PySem.Spec PyProof.Rows L2

/-! ### defs -/
inductive FRes where
  | ok (w : W) (os : List W) | exc (x : Ex) (os : List W) | bad
abbrev Fn := List W → FRes
/-- what the caller gets back of its own objects (fl: which parameters) -/
def RepOs (K : PySem.W.Frag) (F B H : Hp) : List Bool → List V → List W → List Addr → Prop
  | true :: fl, v :: vs, os, as => ∃ o r a1 a2, os = o :: r ∧ as = a1 ++ a2 ∧ RepW K F B H o v a1 ∧ RepOs K F B H fl vs r a2
  | false :: fl, _ :: vs, os, as => RepOs K F B H fl vs os as
  | _, _, os, as => os = [] ∧ as = []
def outs : List Bool → Lc → Option (List W)
  | [], _ => some []
  | true :: fl, some w :: L => (outs fl L).map (w :: ·)
  | false :: fl, _ :: L => outs fl L
  | _, _ => none
mutual
/-- nothing borrowed within -/
def W.nb : W → Bool
  | .frz _ => true
  | .brw _ => false
  | .olst ws => nbs ws
  | .otup ws => nbs ws
  | .odct kvs => nbK kvs
  | .odcT kvs => nbT kvs
  | .oobj _ fs => nbF fs
def nbs : List W → Bool
  | [] => true
  | w :: ws => w.nb && nbs ws
def nbK : List (Key × W) → Bool
  | [] => true
  | (_, w) :: ws => w.nb && nbK ws
def nbT : List (List Key × W) → Bool
  | [] => true
  | (_, w) :: ws => w.nb && nbT ws
def nbF : List (Str × W) → Bool
  | [] => true
  | (_, w) :: ws => w.nb && nbF ws
end
/-- the reading of a def's body, as a function -/
def runF (n : Nat) (fl : List Bool) (m : MS) : Fn := fun ws =>
  match m (ws.map some ++ List.replicate (n - ws.length) none) with
  | .ret w L => match outs fl L with
    | some os => .ok w os
    | none => .bad
  | .next L => match outs fl L with
    | some os => .ok (.frz .non) os
    | none => .bad
  | .exc x L => match outs fl L with
    | some os => .exc x os
    | none => .bad
  | _ => .bad
def spBV (K : PySem.W.Frag) (fl : List Bool) (f : Fn) : Sp := fun vs H Q E => vs.length = fl.length ∧ ∃ F B ws as, WF F B H as ∧ RepWs K F B H ws vs as ∧ match f ws with
  | .ok w os => ∀ v F' H' asw as', Go F B H as F' H' (asw ++ as') → RepW K F' B H' w v asw → RepOs K F' B H' fl vs os as' → Q v H'
  | .exc x os => ∀ cls d F' H' as', Go F B H as F' H' as' → RepOs K F' B H' fl vs os as' → ExRel K F' x cls d → E cls d H'
  | .bad => False

section
variable {K : PySem.W.Frag} {F B H : Hp}
theorem srel_start : ∀ {ws : List W} {vs : List V} {as : List Addr} (n : Nat), RepWs K F B H ws vs as → SRel K F B H (vs.map some ++ List.replicate n none) (ws.map some ++ List.replicate n none) as
  | [], _, _, n, ⟨e1, e2⟩ => by
    subst e1 e2
    induction n with
    | zero => exact ⟨rfl, rfl⟩
    | succ n ih => exact ⟨none, _, [], [], rfl, rfl, rfl, ih⟩
  | w :: ws, _, _, n, ⟨v, r, a1, a2, e, ea, h, t⟩ => by
    subst e ea
    exact ⟨some v, _, a1, a2, rfl, rfl, ⟨v, rfl, h⟩, srel_start n t⟩
/-- the kept parameters' objects -/
theorem outs_ok : ∀ {fl : List Bool} {vs : List V} {σ : L2.St} {L : Lc} {as : List Addr} {os : List W}, vs.length = fl.length → SRel K F B H σ L as → (∀ j : Nat, fl[j]? = some true → σ[j]? = (vs[j]?).map some) → outs fl L = some os →
    ∃ as', (∀ p, List.count p as' ≤ List.count p as) ∧ RepOs K F B H fl vs os as'
  | [], [], _, _, _, os, _, _, _, e => by
    have e' : some ([] : List W) = some os := e
    cases e'
    exact ⟨[], fun p => by rw [List.count_nil]; omega, rfl, rfl⟩
  | [], _ :: _, _, _, _, _, h, _, _, _ => by cases h
  | _ :: _, [], _, _, _, _, h, _, _, _ => by cases h
  | true :: fl, v :: vs, σ, [], as, os, hl, s, hp, e => by cases e
  | true :: fl, v :: vs, σ, none :: L, as, os, hl, s, hp, e => by cases e
  | true :: fl, v :: vs, σ, some w :: L, as, os, hl, ⟨s0, r, a1, a2, e1, ea, ⟨v', ev, h⟩, t⟩, hp, e => by
    subst e1 ea
    obtain ⟨os', eo, rfl⟩ := map_some (f := (w :: ·)) e
    have h0 := hp 0 rfl
    have h0' : s0 = some v := Option.some.inj h0
    rw [h0'] at ev
    cases ev
    obtain ⟨as', k, q⟩ := outs_ok (Nat.succ.inj hl) t (fun j hj => hp (j + 1) hj) eo
    exact ⟨a1 ++ as', fun p => by have := k p; simp only [List.count_append]; omega, w, os', a1, as', rfl, rfl, h, q⟩
  | false :: fl, v :: vs, σ, [], as, os, hl, s, hp, e => by cases e
  | false :: fl, v :: vs, σ, o :: L, as, os, hl, ⟨s0, r, a1, a2, e1, ea, h, t⟩, hp, e => by
    subst e1 ea
    obtain ⟨as', k, q⟩ := outs_ok (os := os) (Nat.succ.inj hl) t (fun j hj => hp (j + 1) hj) e
    exact ⟨as', fun p => by have := k p; simp only [List.count_append]; omega, q⟩
end
/-- what a rule wants of the body that it stands in -/
structure Bd (X : Cx) (Wx : WX) (k : Nat) : Prop where
  calm : X.calm = true
  nd : X.N.Nodup
  tk : Takes X Wx
  hp : PassesOwn (model X.prog X.w) X.A X.env X.xe
  hr : Room k X.A
section
variable {P : Program} {w : World} {K : PySem.W.Frag} {mg : Str → Option Value} {base : Heap}
theorem fn_bv {x qual : Str} {st : Stmt} {f : Addr} {fd : FuncData} {N ps : List Str} {k : Nat} {fl : List Bool} {m : MS} (FF : Fun K x qual st f fd) (S : FnScope N ps (defScope st)) (hfl : fl.length = ps.length)
    (hbody : ∀ (cdv : Value) (A : Around) (outer : List Env) (s : Shared) (H : Hp) (E : XK), Bd (cxOf (L2.CX P w) P w K mg base N qual (defScope st) f cdv A outer s H E) (fun cls d _ H => E cls d H) k →
      PSs (cxOf (L2.CX P w) P w K mg base N qual (defScope st) f cdv A outer s H E) (defBody st) (bvS K (fun cls d _ H => E cls d H) fl m)) :
    FnOk P w K mg base (L2.CX P w) (k + 1) f fd ps (spBV K fl (runF N.length fl m)) := by
  refine FF.okX S (fun vs H Q E h => by rw [h.1, hfl]) fun cdv A outer s H vs Q E hr h => ?_
  refine ⟨_, hbody cdv A outer s H E ⟨rfl, S.nd, takes_of rfl rfl rfl rfl, passes_of rfl, hr⟩, ?_⟩
  obtain ⟨hl, F, B, ws, as, wf, rw', h⟩ := h
  have s0 := srel_start (N.length - vs.length) rw'
  have hle : vs.length = ws.length := rw'.len
  refine ⟨F, B, ws.map some ++ List.replicate (N.length - ws.length) none, as, wf, by rw [← hle]; exact s0, ?_⟩
  have pin0 : ∀ {σ' : L2.St}, Pin fl (L2.start N vs) σ' → ∀ j : Nat, fl[j]? = some true → σ'[j]? = (vs[j]?).map some := fun {σ'} p j hj => by
    rw [p.2 j hj]
    have hj2 : j < vs.length := by
      rw [hl]
      exact (List.getElem?_eq_some_iff.mp hj).1
    unfold L2.start
    rw [List.getElem?_append_left (by rw [List.length_map]; exact hj2), List.getElem?_map]
  unfold runF at h
  cases e : m (ws.map some ++ List.replicate (N.length - ws.length) none) with
  | ret w L =>
    rw [e] at h
    dsimp only at h
    cases eo : outs fl L with
    | none => rw [eo] at h; exact h.elim
    | some os =>
      rw [eo] at h
      intro v σ' F' H' asw as' g s' p r'
      obtain ⟨as2, k2, q2⟩ := outs_ok hl s' (pin0 p) eo
      exact h v F' H' asw as2 (g.sub fun p => by have := k2 p; simp only [List.count_append]; omega) r' q2
  | next L =>
    rw [e] at h
    dsimp only at h
    cases eo : outs fl L with
    | none => rw [eo] at h; exact h.elim
    | some os =>
      rw [eo] at h
      intro σ' F' H' as' g s' p
      obtain ⟨as2, k2, q2⟩ := outs_ok hl s' (pin0 p) eo
      exact h .non F' H' [] as2 (g.sub fun p => by have := k2 p; simp only [List.nil_append]; omega) ⟨rfl, rfl⟩ q2
  | exc x L =>
    rw [e] at h
    dsimp only at h
    cases eo : outs fl L with
    | none => rw [eo] at h; exact h.elim
    | some os =>
      rw [eo] at h
      intro cls d σ' F' H' as' g s' p r'
      obtain ⟨as2, k2, q2⟩ := outs_ok hl s' (pin0 p) eo
      exact h cls d F' H' as2 (g.sub k2) q2 r'
  | brk L => rw [e] at h; exact h.elim
  | cnt L => rw [e] at h; exact h.elim
  | bad => rw [e] at h; exact h.elim
end

/-! ### a call's arguments -/
def prep : List Bool → List R → M (List W × List Nat)
  | [], [], L => .ok ([], []) L
  | true :: fl, .al i :: rs, L => match L[i]? with
    | some (some w) => (prep fl rs (L.set i none)).bind fun p L1 => .ok (w :: p.1, i :: p.2) L1
    | _ => .bad
  | true :: fl, .val w :: rs, L => (prep fl rs L).bind fun p L1 => .ok (w :: p.1, L.length :: p.2) L1
  | false :: fl, r :: rs, L => (toF r L).bind fun d L1 => (prep fl rs L1).bind fun p L2 => .ok (.frz d :: p.1, p.2) L2
  | _, _, _ => .bad
def back : List Nat → List W → Lc → Option Lc
  | [], [], L => some L
  | i :: is, w :: ws, L => back is ws (L.set i (some w))
  | _, _, _ => none
/-- the values of the slots that were lent -/
def IsRel (σ : L2.St) : List Bool → List V → List Nat → Prop
  | true :: fl, v :: vs, is => ∃ i r, is = i :: r ∧ (σ[i]? = some (some v) ∨ σ.length ≤ i) ∧ IsRel σ fl vs r
  | false :: fl, _ :: vs, is => IsRel σ fl vs is
  | _, _, is => is = []
theorem toF_nexc {r : R} {L L' : Lc} {x : Ex} (e : toF r L = .exc x L') : False := by
  unfold toF at e
  split at e <;> split at e
  · cases e
  · cases e
  · split at e <;> cases e
  · cases e
theorem bind_ok {α β : Type} {r : Res α} {f : α → Lc → Res β} {b : β} {L : Lc} (h : r.bind f = .ok b L) : ∃ a L1, r = .ok a L1 ∧ f a L1 = .ok b L := by
  cases r with
  | ok a L1 => exact ⟨a, L1, rfl, h⟩
  | exc x L1 => cases h
  | bad => cases h
theorem bind_exc {α β : Type} {r : Res α} {f : α → Lc → Res β} {x : Ex} {L : Lc} (h : r.bind f = .exc x L) : r = .exc x L ∨ ∃ a L1, r = .ok a L1 ∧ f a L1 = .exc x L := by
  cases r with
  | ok a L1 => exact .inr ⟨a, L1, rfl, h⟩
  | exc y L1 => cases h; exact .inl rfl
  | bad => cases h
theorem prep_nexc : ∀ {fl : List Bool} {rs : List R} {L L' : Lc} {x : Ex}, prep fl rs L = .exc x L' → False
  | [], [], _, _, _, h => by cases h
  | [], _ :: _, _, _, _, h => by cases h
  | true :: _, [], _, _, _, h => by cases h
  | false :: _, [], _, _, _, h => by cases h
  | true :: fl, .val w :: rs, L, L', x, h => by
    unfold prep at h
    rcases bind_exc h with e | ⟨p, L1, e, e2⟩
    · exact prep_nexc e
    · cases e2
  | true :: fl, .al i :: rs, L, L', x, h => by
    unfold prep at h
    split at h
    · rcases bind_exc h with e | ⟨p, L1, e, e2⟩
      · exact prep_nexc e
      · cases e2
    · cases h
  | false :: fl, r :: rs, L, L', x, h => by
    unfold prep at h
    rcases bind_exc h with e | ⟨d, L1, e, e2⟩
    · exact toF_nexc e
    · rcases bind_exc e2 with e | ⟨p, L2, e, e3⟩
      · exact prep_nexc e
      · cases e3
section
variable {K : PySem.W.Frag} {σ : L2.St}
theorem prep_ok : ∀ {fl : List Bool} {rs : List R} {F B H : Hp} {as asr : List Addr} {L L' : Lc} {ws : List W} {is : List Nat} {vs : List V}, WF F B H (asr ++ as) → SRel K F B H σ L as → RepRs K F B H σ rs vs asr → prep fl rs L = .ok (ws, is) L' →
    ∃ F' asw as', Go F B H (asr ++ as) F' H (asw ++ as') ∧ SRel K F' B H σ L' as' ∧ RepWs K F' B H ws vs asw ∧ vs.length = fl.length ∧ IsRel σ fl vs is
  | [], [], F, B, H, as, asr, L, L', ws, is, vs, wf, s, ⟨e1, e2⟩, e => by
    cases e
    subst e1 e2
    exact ⟨F, [], as, Go.refl wf, s, ⟨rfl, rfl⟩, rfl, rfl⟩
  | [], _ :: _, _, _, _, _, _, _, _, _, _, _, _, _, _, e => by cases e
  | true :: _, [], _, _, _, _, _, _, _, _, _, _, _, _, _, e => by cases e
  | false :: _, [], _, _, _, _, _, _, _, _, _, _, _, _, _, e => by cases e
  | true :: fl, .val w :: rs, F, B, H, as, asr, L, L', ws, is, vs, wf, s, ⟨v, t, a1, a2, e1, e2, h, hr⟩, e => by
    subst e1 e2
    unfold prep at e
    obtain ⟨p, L1, ep, eq⟩ := bind_ok e
    cases eq
    have wf1 : WF F B H (a1 ++ (a2 ++ as)) := wf.sub fun p => by simp only [List.count_append]; omega
    obtain ⟨F', asw, as', g, s', rw', hl, ir⟩ := prep_ok (wf1.sub (le_r _ _)) s hr ep
    have g' := g.frame wf1
    have kb := g.kept wf1
    have h' : RepW K F B H w v a1 := h
    refine ⟨F', a1 ++ asw, as', ((g'.sup fun p => by simp only [List.count_append]; omega).sub fun p => by simp only [List.count_append]; omega), s', ⟨v, t, a1, asw, rfl, rfl, RepW.frame g.ext (Same.refl _) kb h', rw'⟩, by rw [List.length_cons, List.length_cons, hl], L.length, p.2, rfl, .inr (Nat.le_of_eq s.len), ir⟩
  | true :: fl, .al i :: rs, F, B, H, as, asr, L, L', ws, is, vs, wf, s, ⟨v, t, a1, a2, e1, e2, ⟨hv, h0⟩, hr⟩, e => by
    subst e1 e2 h0
    unfold prep at e
    split at e
    · rename_i w ew
      obtain ⟨p, L1, ep, eq⟩ := bind_ok e
      cases eq
      obtain ⟨s0, pre, b1, post, q1, ⟨v', ev, q2⟩, ea, k⟩ := SRel.at s ew
      subst ev ea
      rw [hv] at q1
      cases q1
      have s1 := k F B H (some v) none [] (Same.refl _) (Same.refl _) (fun _ _ _ z => z) rfl
      rw [set_same hv] at s1
      have wf1 : WF F B H (b1 ++ (a2 ++ (pre ++ ([] ++ post)))) := wf.sub fun p => by simp only [List.count_append, List.count_nil]; omega
      obtain ⟨F', asw, as', g, s', rw', hl, ir⟩ := prep_ok (wf1.sub (le_r _ _)) s1 hr ep
      have g' := g.frame wf1
      have kb := g.kept wf1
      refine ⟨F', b1 ++ asw, as', ((g'.sup fun p => by simp only [List.count_append, List.count_nil]; omega).sub fun p => by simp only [List.count_append]; omega), s', ⟨v, t, b1, asw, rfl, rfl, RepW.frame g.ext (Same.refl _) kb q2, rw'⟩, by rw [List.length_cons, List.length_cons, hl], i, p.2, rfl, .inl hv, ir⟩
    · cases e
  | false :: fl, r :: rs, F, B, H, as, asr, L, L', ws, is, vs, wf, s, ⟨v, t, a1, a2, e1, e2, h, hr⟩, e => by
    subst e1 e2
    unfold prep at e
    obtain ⟨d, L1, ed, e⟩ := bind_ok e
    obtain ⟨p, L2, ep, eq⟩ := bind_ok e
    cases eq
    have wf1 : WF F B H (a1 ++ as) := wf.sub fun p => by simp only [List.count_append]; omega
    obtain ⟨F1, as1, g1, s1, q1⟩ := toF_ok wf1 s h ed
    have wf2 : WF F B H (a2 ++ (a1 ++ as)) := wf.sub fun p => by simp only [List.count_append]; omega
    have g1' := g1.frame wf2
    have k1 := g1.kept wf2
    obtain ⟨F2, asw, as2, g2, s2, rw', hl, ir⟩ := prep_ok g1'.wf s1 (hr.frame g1.ext k1) ep
    exact ⟨F2, asw, as2, (g1'.sup fun p => by simp only [List.count_append]; omega).trans g2, s2, ⟨v, t, [], asw, rfl, rfl, ⟨q1.mono g2.ext, rfl⟩, rw'⟩, by rw [List.length_cons, List.length_cons, hl], ir⟩
theorem back_ok {F B H : Hp} : ∀ {fl : List Bool} {vs : List V} {is : List Nat} {os : List W} {L L' : Lc} {as aso : List Addr}, SRel K F B H σ L as → IsRel σ fl vs is → RepOs K F B H fl vs os aso → back is os L = some L' →
    ∃ as', (∀ p, List.count p as' ≤ List.count p (aso ++ as)) ∧ SRel K F B H σ L' as'
  | [], vs, is, os, L, L', as, aso, s, ir, ⟨eo, ea⟩, e => by
    have ir' : is = [] := by cases vs <;> exact ir
    subst ir' eo ea
    cases e
    exact ⟨as, fun p => Nat.le_refl _, s⟩
  | true :: fl, [], is, os, L, L', as, aso, s, ir, ⟨eo, ea⟩, e => by
    have ir' : is = [] := ir
    subst ir' eo ea
    cases e
    exact ⟨as, fun p => Nat.le_refl _, s⟩
  | false :: fl, [], is, os, L, L', as, aso, s, ir, ⟨eo, ea⟩, e => by
    have ir' : is = [] := ir
    subst ir' eo ea
    cases e
    exact ⟨as, fun p => Nat.le_refl _, s⟩
  | false :: fl, v :: vs, is, os, L, L', as, aso, s, ir, ro, e => back_ok (fl := fl) (vs := vs) s ir ro e
  | true :: fl, v :: vs, is, os, L, L', as, aso, s, ⟨i, r, ei, hv, ir⟩, ⟨o, r', a1, a2, eo, ea, ho, ro⟩, e => by
    subst ei eo ea
    have e' : back r r' (L.set i (some o)) = some L' := e
    rcases hv with hv | hge
    case inr =>
      rw [List.set_eq_of_length_le (show L.length ≤ i by rw [← s.len]; exact hge)] at e'
      obtain ⟨as', k', s'⟩ := back_ok s ir ro e'
      exact ⟨as', fun p => by have := k' p; simp only [List.count_append] at this ⊢; omega, s'⟩
    have hi : i < L.length := by rw [← s.len]; exact (List.getElem?_eq_some_iff.mp hv).1
    obtain ⟨s0, pre, b1, post, q1, q2, ea2, k⟩ := SRel.at s (List.getElem?_eq_getElem hi)
    subst ea2
    have s1 := k F B H (some v) (some o) a1 (Same.refl _) (Same.refl _) (fun _ _ _ z => z) ⟨v, rfl, ho⟩
    rw [set_same hv] at s1
    obtain ⟨as', k', s'⟩ := back_ok s1 ir ro e'
    exact ⟨as', fun p => by have := k' p; simp only [List.count_append] at this ⊢; omega, s'⟩
end
/-- a call of a def by its reading -/
def called (fn : Fn) (ws : List W) (is : List Nat) (L : Lc) : Res R := match fn ws with
  | .ok w os => match back is os L with
    | some L1 => .ok (.val w) L1
    | none => .bad
  | .exc x os => match back is os L with
    | some L1 => .exc x L1
    | none => .bad
  | .bad => .bad
def callR (fl : List Bool) (fn : Fn) (rs : List R) (L : Lc) : Res R := (prep fl rs L).bind fun p L1 => called fn p.1 p.2 L1
def mCall (fl : List Bool) (fn : Fn) (m : M (List R)) : M R := fun L => (m L).bind fun rs L1 => callR fl fn rs L1
/-- the promise at a call -/
theorem call_sp {K : PySem.W.Frag} {Wx : WX} {fl : List Bool} {fn : Fn} {F B H : Hp} {as asr : List Addr} {σ : L2.St} {L : Lc} {rs : List R} {vs : List V} {Q : VK} (wf : WF F B H (asr ++ as)) (s : SRel K F B H σ L as) (rr : RepRs K F B H σ rs vs asr)
    (h : End K Wx F B H (asr ++ as) σ (okE K F B H (asr ++ as) σ Q) (callR fl fn rs L)) : spBV K fl fn vs H Q (fun cls d H' => Wx cls d σ H') := by
  unfold callR at h
  cases ep : prep fl rs L with
  | exc x L1 => exact (prep_nexc ep).elim
  | bad => rw [ep] at h; exact h.elim
  | ok p L1 =>
    rw [ep] at h
    have h1 : End K Wx F B H (asr ++ as) σ (okE K F B H (asr ++ as) σ Q) (called fn p.1 p.2 L1) := h
    obtain ⟨F1, asw, as1, g1, s1, rw1, hl, ir⟩ := prep_ok wf s rr ep
    have wf1 : WF F1 B H (as1 ++ asw) := g1.wf.sub fun p => by simp only [List.count_append]; omega
    refine ⟨hl, F1, B, p.1, asw, wf1.sub (le_r _ _), rw1, ?_⟩
    unfold called at h1
    cases ef : fn p.1 with
    | bad => rw [ef] at h1; exact h1.elim
    | ok w os =>
      rw [ef] at h1
      dsimp only at h1 ⊢
      intro v F' H' asv aso g2 rv ro
      cases eb : back p.2 os L1 with
      | none => rw [eb] at h1; exact h1.elim
      | some L2 =>
        rw [eb] at h1
        have g3 := g2.frame wf1
        have k3 := g2.kept wf1
        obtain ⟨as2, k2, s2⟩ := back_ok (SRel.frame g2.ext (Same.refl _) k3 s1) ir ro eb
        refine h1 v F' H' asv as2 (g1.trans ((g3.sup fun p => by simp only [List.count_append]; omega).sub fun p => ?_)) s2 rv
        have := k2 p
        simp only [List.count_append] at this ⊢
        omega
    | exc x os =>
      rw [ef] at h1
      dsimp only at h1 ⊢
      intro cls d F' H' aso g2 ro rx
      cases eb : back p.2 os L1 with
      | none => rw [eb] at h1; exact h1.elim
      | some L2 =>
        rw [eb] at h1
        have g3 := g2.frame wf1
        have k3 := g2.kept wf1
        obtain ⟨as2, k2, s2⟩ := back_ok (SRel.frame g2.ext (Same.refl _) k3 s1) ir ro eb
        refine h1 cls d F' H' as2 (g1.trans ((g3.sup fun p => by simp only [List.count_append]; omega).sub fun p => ?_)) s2 rx
        have := k2 p
        simp only [List.count_append] at this ⊢
        omega
section
variable {X : Cx} {Wx : WX} {k j : Nat} {f : Addr} {fd : FuncData} {ps : List Str} {fl : List Bool} {fn : Fn} {x : Str} {p pos : Pos} {e : Expr} {es : List Expr} {mr : M (List R)}
/-- f(e, ..), f a def of the text -/
theorem be_call (c : Bd X Wx j) (FO : FnOk X.prog X.w X.K X.mg X.base (L2.CX X.prog X.w) k f fd ps (spBV X.K fl fn)) (hk : k ≤ j) (hm : X.mg x = some (.ref f)) (hkp : PySem.W.keepIn X.K (.ref f) = true) (hb : Binds X.K fd ps [])
    (hg : Gl X x) (ha : PA X (e :: es) (bvA X.K Wx mr)) (hdb : (x == ("__debug__" : Str)) = false := by decide) (he : starEach (e :: es) X.env = (false, eval e X.env) :: starEach es X.env := by rfl) (hpl : (backTo pos (starEach es X.env)).any (·.1) = false := by rfl) :
    PE X (.Call (.Name x p) (e :: es) [] pos) (bvE X.K Wx (mCall fl fn mr)) := by
  refine pe_imp (pe_callSD FO (c.hr.mono hk) hg hm hkp hb .nil (fun σ => passAt c.tk σ) ha hdb he hpl) fun σ H Q ⟨F, B, L, as, wf, s, h⟩ => ?_
  refine ⟨F, B, L, as, wf, s, (End.bind h).imp fun rs L1 h1 vs F1 H1 asr as1 g1 s1 r1 => ?_⟩
  show spBV X.K fl fn (vs ++ []) H1 Q _
  rw [List.append_nil]
  exact call_sp g1.wf s1 r1 (h1.behind g1 fun r L3 h3 v F' H' asr' as' g' s' r' => h3 v F' H' asr' as' (g1.trans g') s' r')
/-- f() -/
theorem be_call0 (c : Bd X Wx j) (FO : FnOk X.prog X.w X.K X.mg X.base (L2.CX X.prog X.w) k f fd [] (spBV X.K [] fn)) (hk : k ≤ j) (hm : X.mg x = some (.ref f)) (hkp : PySem.W.keepIn X.K (.ref f) = true) (hb : Binds X.K fd [] []) (hg : Gl X x) (hdb : (x == ("__debug__" : Str)) = false := by decide) :
    PE X (.Call (.Name x p) [] [] pos) (bvE X.K Wx (mCall [] fn mNil)) := by
  refine ⟨fun pins s σ H Q I ⟨F, B, L, as, wf, sr, h⟩ => ?_⟩
  refine wpAny_Call_Name_kw (ld_glob I hg hm ?_ hdb)
  refine PySem.W.callWith_K0 I.kIn hkp (run_fnSD (us := []) (vs := []) FO (c.hr.mono hk) hb .nil (passAt c.tk σ) I .nil ?_)
  exact call_sp (asr := []) (rs := []) wf sr ⟨rfl, rfl⟩ h
end
end BV

namespace BV
open PySem PySem.Spec PyProof.Rows L2

/-! ### targets -/
abbrev MG := R → MS
section
variable (K : PySem.W.Frag) (Wx : WX) (fl : List Bool)
def EndG (F B H : Hp) (as : List Addr) (σ : L2.St) (Q : L2.St → Hp → Prop) : SRes → Prop
  | .next L => okN K fl F B H as σ Q L
  | _ => False
def bvG (g : MG) : TG := fun v σ H Q => ∃ F B L as asr r, WF F B H (asr ++ as) ∧ SRel K F B H σ L as ∧ RepR K F B H σ r v asr ∧ EndG K fl F B H (asr ++ as) σ Q (g r L)
def bvGs (g : List W → MS) : TGs := fun vs σ H Q => ∃ F B L as ws, WF F B H as ∧ SRel K F B H σ L as ∧ RepWs K F B H ws vs [] ∧ EndG K fl F B H as σ Q (g ws L)
end
section
variable {K : PySem.W.Frag} {fl : List Bool} {F B H F1 H1 : Hp} {as as1 : List Addr} {σ σ1 : L2.St} {Q : L2.St → Hp → Prop}
theorem EndG.behind {r : SRes} (g : Go F B H as F1 H1 as1) (p : Pin fl σ σ1) (h : EndG K fl F B H as σ Q r) : EndG K fl F1 B H1 as1 σ1 Q r := by
  cases r with
  | next L => exact okN.behind g p h
  | _ => exact h.elim
theorem EndG.toS {Wx : WX} {T : Ends} {r : SRes} (h : EndG K fl F B H as σ T.nx r) : EndS K Wx fl F B H as σ T r := by
  cases r with
  | next L => exact h
  | _ => exact h.elim
end
def gNm (fl : List Bool) (i : Nat) : MG := fun r L => asgn fl i r L
def gsNil : List W → MS := fun ws L => match ws with
  | [] => .next L
  | _ => .bad
def gsCons (g : MG) (gs : List W → MS) : List W → MS := fun ws L => match ws with
  | [] => .bad
  | w :: r => match g (.val w) L with
    | .next L1 => gs r L1
    | _ => .bad
/-- a tuple or a list of that length, taken apart -/
def gTp (n : Nat) (gs : List W → MS) : MG := fun r L => match r.get L with
  | some w => match w.seq with
    | some ws => if ws.length = n then gs ws L else .bad
    | none => .bad
  | none => .bad
section
variable {X : Cx} {fl : List Bool} {i : Nat} {x : Str} {pos : Pos}
theorem pg_imp {e : Expr} {t u : TG} (h : PG X e t) (q : ∀ v σ H Q, u v σ H Q → t v σ H Q) : PG X e u := ⟨fun pins s σ H v u' Q I r w => h.run pins s σ H v u' Q I r (q _ _ _ _ w)⟩
theorem bg_name (hN : X.N.Nodup) (hi : X.N[i]? = some x) (hx : L2.Loc X.env.scope x) (hf : X.fn x = true ∨ X.env.scope.names.lookup x = some .local := by first | exact .inl rfl | exact .inr rfl | assumption) : PG X (.Name x pos) (bvG X.K fl (gNm fl i)) :=
  pg_imp (pg_name hN hi hx hf) fun v σ H Q ⟨F, B, L, as, asr, r, wf, s, rr, h⟩ => set_ok (Wx := fun _ _ _ _ => False) (T := { nx := Q, rt := fun _ _ => False }) wf s rr h.toS
theorem bgs_nil : PGs X [] (bvGs X.K fl gsNil) := by
  refine ⟨fun pins s σ H vs us Q I r ⟨F, B, L, as, ws, wf, sr, rw', h⟩ => (pgs_nil (X := X)).run pins s σ H vs us Q I r ?_⟩
  unfold gsNil at h
  cases ws with
  | nil => exact ⟨rw'.1, h σ F H as (Go.refl wf) sr (Pin.refl _ _)⟩
  | cons w ws => exact h.elim
theorem gs_rel {g : MG} {gs : List W → MS} : ∀ vs σ H Q, bvGs X.K fl (gsCons g gs) vs σ H Q → gCons (bvG X.K fl g) (bvGs X.K fl gs) vs σ H Q := fun vs σ H Q ⟨F, B, L, as, ws, wf, sr, rw', h⟩ => by
  unfold gsCons at h
  cases ws with
  | nil => exact h.elim
  | cons w ws =>
    obtain ⟨v, r, a1, a2, e, ea, h1, t⟩ := rw'
    obtain ⟨rfl, rfl⟩ := List.append_eq_nil_iff.mp ea.symm
    subst e
    refine ⟨v, r, rfl, F, B, L, as, [], .val w, wf, sr, h1, ?_⟩
    dsimp only at h
    cases eg : g (.val w) L with
    | next L1 =>
      rw [eg] at h
      intro σ' F' H' as' g' s' p'
      exact ⟨F', B, L1, as', ws, g'.wf, s', RepWs.frame g'.ext (Same.refl _) (fun p i => (in_nil i).elim) t, EndG.behind g' p' h⟩
    | _ => rw [eg] at h; exact h.elim
theorem bg_tup {es : List Expr} {kk n : Nat} {gs : List W → MS} (hc : X.calm = true) (h : PGs X es (bvGs X.K fl gs)) (hn : (assignEach es X.env).length = n := by rfl) (hst : (assignEach es X.env).findIdx? (·.1) = none := by rfl) : PG X (.Tuple es kk pos) (bvG X.K fl (gTp n gs)) := by
  refine ⟨fun pins s σ H v u Q I r ⟨F, B, L, as, asr, rx, wf, sr, rr, hh⟩ => ?_⟩
  unfold gTp at hh
  split at hh
  · rename_i w ew
    split at hh
    · rename_i ws es'
      by_cases hl : ws.length = n
      · rw [if_pos hl] at hh
        obtain ⟨bs, rw'⟩ := get_ok sr rr ew
        obtain ⟨a, vs, ev, hq, rs⟩ := seq_ok wf.f wf.b rw' es'
        have z : bvGs X.K fl gs vs σ H Q := ⟨F, B, L, as, ws, wf.sub (le_r _ _), sr, rs, EndG.behind ((Go.refl wf).sub (le_r _ _)) (Pin.refl _ _) hh⟩
        rcases hq with hq | hq
        · exact (pg_lst hc h hn hst).run pins s σ H v u Q I r ⟨a, vs, ev, hq, by rw [rs.len, hl], z⟩
        · exact (pg_tup hc h hn hst).run pins s σ H v u Q I r ⟨a, vs, ev, hq, by rw [rs.len, hl], z⟩
      · rw [if_neg hl] at hh; exact hh.elim
    · exact hh.elim
  · exact hh.elim
def sAsg (g : MG) (m : M R) : MS := fun L => (m L).thenS fun r L1 => g r L1
theorem bs_asg {tg e : Expr} {m : M R} {g : MG} {Wx : WX} (he : PE X e (bvE X.K Wx m)) (hg : PG X tg (bvG X.K fl g)) (hG : ∀ r L, (∃ L', g r L = .next L') ∨ g r L = .bad) (hs : swapsWithSole [tg] e pos.line X.env = pure false := by rfl) (hw : swappedStores [tg] e X.env = pure none := by rfl) (h1 : (assignEach [tg] X.env).map (·.2) = [assign tg X.env] := by rfl) :
    PS X (.Assign [tg] e pos) (bvS X.K Wx fl (sAsg g m)) := by
  refine ps_imp (ps_asg he hg hs hw h1) fun T σ H ⟨F, B, L, as, wf, s, h⟩ => ?_
  refine ⟨F, B, L, as, wf, s, (EndS.thenS h).imp fun r L1 h1 v F' H' asr as' g' s' r' => ?_⟩
  refine ⟨F', B, L1, as', asr, r, g'.wf, s', r', ?_⟩
  rcases hG r L1 with ⟨L', e⟩ | e
  · rw [e] at h1 ⊢
    exact okN.behind g' (Pin.refl _ _) h1
  · rw [e] at h1; exact h1.elim
end
/-! targets never raise -/
def Calm (g : MG) : Prop := ∀ r L, (∃ L', g r L = .next L') ∨ g r L = .bad
def CalmS (g : List W → MS) : Prop := ∀ r L, (∃ L', g r L = .next L') ∨ g r L = .bad
theorem calm_nm {fl : List Bool} {i : Nat} : Calm (gNm fl i) := fun r L => by
  unfold gNm asgn
  split
  · exact .inr rfl
  · cases r with
    | val w => exact .inl ⟨_, rfl⟩
    | al j =>
      dsimp only
      cases e : toF (.al j) L with
      | ok d L1 => exact .inl ⟨_, rfl⟩
      | bad => exact .inr rfl
      | exc x L1 => exact (toF_nexc e).elim
theorem calms_nil : CalmS gsNil := fun r L => by
  cases r with
  | nil => exact .inl ⟨_, rfl⟩
  | cons _ _ => exact .inr rfl
theorem calms_cons {g : MG} {gs : List W → MS} (h1 : Calm g) (h2 : CalmS gs) : CalmS (gsCons g gs) := fun r L => by
  cases r with
  | nil => exact .inr rfl
  | cons w ws =>
    unfold gsCons
    dsimp only
    rcases h1 (.val w) L with ⟨L', e⟩ | e
    · rw [e]; exact h2 ws L'
    · rw [e]; exact .inr rfl
theorem calm_tp {n : Nat} {gs : List W → MS} (h : CalmS gs) : Calm (gTp n gs) := fun r L => by
  unfold gTp
  split
  · split
    · split
      · exact h _ _
      · exact .inr rfl
    · exact .inr rfl
  · exact .inr rfl

/-! ### a, b = x, y -/
def sPar (fl : List Bool) (i j : Nat) (m : M (List R)) : MS := fun L => (m L).thenS fun rs L1 => match rs with
  | [.val v, .val w] => if fl[i]? = some true ∨ fl[j]? = some true ∨ v.no = false ∨ w.no = false then .bad else .next ((L1.set i (some v)).set j (some w))
  | _ => .bad
section
variable {X : Cx} {Wx : WX} {fl : List Bool} {i j : Nat} {x y : Str} {a b : Expr} {m : M (List R)} {px py pt pos : Pos} {kt k2 : Nat} {pt2 : Pos}
theorem srel_set {K : PySem.W.Frag} {F B H : Hp} {as : List Addr} {σ : L2.St} {L : Lc} {w : W} {v : V} {i : Nat} (s : SRel K F B H σ L as) (h : RepW K F B H w v []) : ∃ as', (∀ p, List.count p as' ≤ List.count p as) ∧ SRel K F B H (σ.set i (some v)) (L.set i (some w)) as' := by
  by_cases hi : i < L.length
  · obtain ⟨s', pre, a1, post, h1, h2, ea, k⟩ := SRel.at s (List.getElem?_eq_getElem hi)
    subst ea
    exact ⟨pre ++ ([] ++ post), fun p => by simp only [List.count_append, List.count_nil]; omega, k F B H (some v) (some w) [] (Same.refl _) (Same.refl _) (fun _ _ _ z => z) ⟨v, rfl, h⟩⟩
  · have hl := s.len
    refine ⟨as, fun _ => Nat.le_refl _, ?_⟩
    rw [List.set_eq_of_length_le (show σ.length ≤ i by omega), List.set_eq_of_length_le (show L.length ≤ i by omega)]
    exact s
theorem par_rel : ∀ T σ H, bvS X.K Wx fl (sPar fl i j m) T σ H → tPar i j (bvA X.K Wx m) T σ H := fun T σ H ⟨F, B, L, as, wf, s, h⟩ => by
  refine ⟨F, B, L, as, wf, s, (EndS.thenS h).imp fun rs L1 h1 vs F' H' asr as' g' s' r' => ?_⟩
  split at h1
  · rename_i v w
    split at h1
    · exact h1.elim
    · rename_i hc
      have c1 : ¬ fl[i]? = some true := fun z => hc (.inl z)
      have c2 : ¬ fl[j]? = some true := fun z => hc (.inr (.inl z))
      have n1 : v.no = true := by cases e : v.no with
        | true => rfl
        | false => exact absurd (.inr (.inr (.inl e))) hc
      have n2 : w.no = true := by cases e : w.no with
        | true => rfl
        | false => exact absurd (.inr (.inr (.inr e))) hc
      obtain ⟨x1, t, a1, a2, e1, ea, q1, x2, t2, b1, b2, e2, eb, q2, e3, ec⟩ := r'
      subst e1 e2 e3
      have z1 := no_nil n1 q1
      have z2 := no_nil n2 q2
      subst z1 z2
      refine ⟨x1, x2, rfl, ?_⟩
      obtain ⟨as1, k1, s1⟩ := srel_set (i := i) s' (show RepW X.K F' B H' v x1 [] from q1)
      obtain ⟨as2, k2, s2⟩ := srel_set (i := j) s1 (show RepW X.K F' B H' w x2 [] from q2)
      exact h1 _ F' H' as2 (g'.sub fun p => by have := k1 p; have := k2 p; simp only [List.count_append]; omega) s2 ((pin_set c1).trans (pin_set c2))
  · exact h1.elim
end

/-! ### what is walked -/
/-- J walks ws -/
def ItOk (K : PySem.W.Frag) (F B : Hp) (J : It) (ws : List W) : Prop :=
  ∀ (i : Nat) (F1 H1 : Hp) (as1 : List Addr), Same F F1 → WF F1 B H1 as1 → (∀ w, ws[i]? = some w → J.go i H1 ∧ ∀ x H2, J.yld i H1 x H2 → ∃ F2 asx, Go F1 B H1 as1 F2 H2 (asx ++ as1) ∧ Kept as1 H1 H2 ∧ RepW K F2 B H2 w x asx) ∧ (i = ws.length → J.stop i H1)
def bvI (K : PySem.W.Frag) (Wx : WX) (m : M (List W)) : TI := fun σ H R => ∃ F B L as, WF F B H as ∧ SRel K F B H σ L as ∧ End K Wx F B H as σ (fun ws L' => ∀ J F' H' as', Go F B H as F' H' as' → SRel K F' B H' σ L' as' → ItOk K F' B J ws → R J H') (m L)
def forL (g : MG) (body : MS) : List W → MS
  | [], L => .next L
  | w :: ws, L => match g (.val w) L with
    | .next L1 => match body L1 with
      | .next L2 => forL g body ws L2
      | .cnt L2 => forL g body ws L2
      | .brk L2 => .next L2
      | .ret v L2 => .ret v L2
      | .exc x L2 => .exc x L2
      | .bad => .bad
    | _ => .bad
def sFor (mi : M (List W)) (g : MG) (body : MS) : MS := fun L => (mi L).thenS fun ws L1 => forL g body ws L1
section
variable {X : Cx} {Wx : WX} {fl : List Bool} {pos : Pos} {tg iter : Expr} {body : List Stmt} {mi : M (List W)} {g : MG} {mb : MS}
theorem drop_cons {α : Type} {l : List α} {i : Nat} {a : α} (h : l[i]? = some a) : l.drop i = a :: l.drop (i + 1) := by
  obtain ⟨hi, rfl⟩ := List.getElem?_eq_some_iff.mp h
  rw [List.drop_eq_getElem_cons hi]
theorem for_rel : ∀ T σ H, bvS X.K Wx fl (sFor mi g mb) T σ H → tFor (bvI X.K Wx mi) (bvG X.K fl g) (bvS X.K Wx fl mb) T σ H := fun T σ H ⟨F, B, L, as, wf, s, h⟩ => by
  refine ⟨F, B, L, as, wf, s, (EndS.thenS h).imp fun ws L1 h1 J F1 H1 as1 g1 s1 ij => ?_⟩
  refine ⟨fun i m σ' H' => m = ws.length - i ∧ i ≤ ws.length ∧ ∃ F2 L2 as2, Same F1 F2 ∧ WF F2 B H' as2 ∧ SRel X.K F2 B H' σ' L2 as2 ∧ EndS X.K Wx fl F2 B H' as2 σ' T (forL g mb (ws.drop i) L2), ⟨ws.length, by omega, Nat.zero_le _, F1, L1, as1, Same.refl _, g1.wf, s1, EndS.behind g1 (Pin.refl _ _) h1⟩, ?_⟩
  rintro i m σ' H' ⟨rfl, hi, F2, L2, as2, sF, wf2, s2, h2⟩
  obtain ⟨it1, it2⟩ := ij i F2 H' as2 sF wf2
  cases ei : ws[i]? with
  | none =>
    have hl : ws.length ≤ i := List.getElem?_eq_none_iff.mp ei
    rw [List.drop_eq_nil_of_le hl] at h2
    exact .inl ⟨it2 (by omega), h2 σ' F2 H' as2 (Go.refl wf2) s2 (Pin.refl _ _)⟩
  | some w =>
    have hlt : i < ws.length := (List.getElem?_eq_some_iff.mp ei).1
    obtain ⟨go, yl⟩ := it1 w ei
    rw [drop_cons ei] at h2
    unfold forL at h2
    refine .inr ⟨go, fun σ3 H3 => ∃ F3 L3 as3, Same F1 F3 ∧ WF F3 B H3 as3 ∧ SRel X.K F3 B H3 σ3 L3 as3 ∧ EndS X.K Wx fl F3 B H3 as3 σ3 T (forL g mb (ws.drop (i + 1)) L3), fun σ3 H3 ⟨F3, L3, as3, q1, q2, q3, q4⟩ => ⟨_, by omega, rfl, hlt, F3, L3, as3, q1, q2, q3, q4⟩, fun x H3 hy => ?_⟩
    obtain ⟨F3, asx, g3, k3, r3⟩ := yl x H3 hy
    have s3 : SRel X.K F3 B H3 σ' L2 as2 := SRel.frame g3.ext (Same.refl _) k3 s2
    cases eg : g (.val w) L2 with
    | next L3 =>
      rw [eg] at h2
      dsimp only at h2
      refine ⟨F3, B, L2, as2, asx, .val w, g3.wf, s3, r3, ?_⟩
      rw [eg]
      intro σ4 F4 H4 as4 g4 s4 p4
      have g5 := g3.trans g4
      refine ⟨F4, B, L3, as4, g4.wf, s4, ?_⟩
      have cont : ∀ {L4 : Lc}, EndS X.K Wx fl F2 B H' as2 σ' T (forL g mb (ws.drop (i + 1)) L4) → okN X.K fl F4 B H4 as4 σ4 (fun σ3 H3 => ∃ F3 L3 as3, Same F1 F3 ∧ WF F3 B H3 as3 ∧ SRel X.K F3 B H3 σ3 L3 as3 ∧ EndS X.K Wx fl F3 B H3 as3 σ3 T (forL g mb (ws.drop (i + 1)) L3)) L4 :=
        fun {L4} h3 σ6 F6 H6 as6 g6 s6 p6 => ⟨F6, L4, as6, (sF.trans g5.ext).trans g6.ext, g6.wf, s6, EndS.behind (g5.trans g6) (p4.trans p6) h3⟩
      cases eb : mb L3 with
      | next L4 => rw [eb] at h2; exact cont h2
      | cnt L4 => rw [eb] at h2; exact cont h2
      | brk L4 => rw [eb] at h2; exact okN.behind g5 p4 h2
      | ret v L4 =>
        rw [eb] at h2
        exact EndS.behind (r := .ret v L4) (T := { T with nx := T.nx }) g5 p4 h2
      | exc y L4 =>
        rw [eb] at h2
        exact EndS.behind (r := .exc y L4) (T := T) g5 p4 h2
      | bad => rw [eb] at h2; exact h2.elim
    | _ => rw [eg] at h2; exact h2.elim
theorem bs_for {k : Nat} (c : Bd X Wx k) (hi : PI X tg iter (bvI X.K Wx mi)) (hg : PG X tg (bvG X.K fl g)) (hb : PSs X body (bvS X.K Wx fl mb)) (hp : PS X (.For tg iter body [] pos) (tFor (bvI X.K Wx mi) (bvG X.K fl g) (bvS X.K Wx fl mb))) : PS X (.For tg iter body [] pos) (bvS X.K Wx fl (sFor mi g mb)) := ps_imp hp for_rel
end

/-! ### while: by fuel -/
def whileL (c : M Bool) (body : MS) : Nat → MS
  | 0, _ => .bad
  | n + 1, L => (c L).thenS fun k L1 => if k = true then match body L1 with
      | .next L2 => whileL c body n L2
      | .cnt L2 => whileL c body n L2
      | .brk L2 => .next L2
      | .ret v L2 => .ret v L2
      | .exc x L2 => .exc x L2
      | .bad => .bad
    else .next L1
def sWhile (fuel : Lc → Nat) (c : M Bool) (body : MS) : MS := fun L => whileL c body (fuel L) L
section
variable {X : Cx} {Wx : WX} {fl : List Bool} {pos : Pos} {test : Expr} {body : List Stmt} {mc : M Bool} {mb : MS} {fuel : Lc → Nat}
theorem while_rel : ∀ T σ H, bvS X.K Wx fl (sWhile fuel mc mb) T σ H → tWhile (bvT X.K Wx mc) (bvS X.K Wx fl mb) T σ H := fun T σ H ⟨F, B, L, as, wf, s, h⟩ => by
  refine ⟨fun n σ' H' => ∃ F2 L2 as2, WF F2 B H' as2 ∧ SRel X.K F2 B H' σ' L2 as2 ∧ EndS X.K Wx fl F2 B H' as2 σ' T (whileL mc mb n L2), ⟨fuel L, F, L, as, wf, s, h⟩, ?_⟩
  rintro n σ' H' ⟨F2, L2, as2, wf2, s2, h2⟩
  cases n with
  | zero => exact h2.elim
  | succ n =>
    refine ⟨F2, B, L2, as2, wf2, s2, (EndS.thenS h2).imp fun k L3 h3 F3 H3 as3 g3 s3 => ?_⟩
    cases k with
    | false => exact iteF (h3 σ' F3 H3 as3 g3 s3 (Pin.refl _ _))
    | true =>
      refine iteT ⟨fun σ4 H4 => ∃ F4 L4 as4, WF F4 B H4 as4 ∧ SRel X.K F4 B H4 σ4 L4 as4 ∧ EndS X.K Wx fl F4 B H4 as4 σ4 T (whileL mc mb n L4), fun σ4 H4 q => ⟨n, Nat.lt_succ_self _, q⟩, F3, B, L3, as3, g3.wf, s3, ?_⟩
      have h4 : EndS X.K Wx fl F2 B H' as2 σ' T (match mb L3 with
        | .next L2 => whileL mc mb n L2
        | .cnt L2 => whileL mc mb n L2
        | .brk L2 => .next L2
        | .ret v L2 => .ret v L2
        | .exc x L2 => .exc x L2
        | .bad => .bad) := h3
      have cont : ∀ {L4 : Lc}, EndS X.K Wx fl F2 B H' as2 σ' T (whileL mc mb n L4) → okN X.K fl F3 B H3 as3 σ' (fun σ4 H4 => ∃ F4 L4 as4, WF F4 B H4 as4 ∧ SRel X.K F4 B H4 σ4 L4 as4 ∧ EndS X.K Wx fl F4 B H4 as4 σ4 T (whileL mc mb n L4)) L4 :=
        fun {L4} h3 σ6 F6 H6 as6 g6 s6 p6 => ⟨F6, L4, as6, g6.wf, s6, EndS.behind (g3.trans g6) p6 h3⟩
      cases eb : mb L3 with
      | next L4 => rw [eb] at h4; exact cont h4
      | cnt L4 => rw [eb] at h4; exact cont h4
      | brk L4 => rw [eb] at h4; exact okN.behind g3 (Pin.refl _ _) h4
      | ret v L4 => rw [eb] at h4; exact EndS.behind (r := .ret v L4) (T := T) g3 (Pin.refl _ _) h4
      | exc y L4 => rw [eb] at h4; exact EndS.behind (r := .exc y L4) (T := T) g3 (Pin.refl _ _) h4
      | bad => rw [eb] at h4; exact h4.elim
theorem bs_while {k : Nat} (fuel : Lc → Nat) (c : Bd X Wx k) (hc : PT X test (bvT X.K Wx mc)) (hb : PSs X body (bvS X.K Wx fl mb)) : PS X (.While test body [] pos) (bvS X.K Wx fl (sWhile fuel mc mb)) := ps_imp (ps_while c.hp hc hb) while_rel
end
section
variable {X : Cx} {Wx : WX} {fl : List Bool} {pos : Pos} {tg iter : Expr} {body : List Stmt} {mi : M (List W)} {g : MG} {mb : MS}
theorem bs_forr {k : Nat} (c : Bd X Wx k) (hi : PI X tg iter (bvI X.K Wx mi)) (hg : PG X tg (bvG X.K fl g)) (hb : PSs X body (bvS X.K Wx fl mb)) (hs : ∀ x, foldedSetIterable iter X.env x = pure x := by intro _; rfl) : PS X (.For tg iter body [] pos) (bvS X.K Wx fl (sFor mi g mb)) :=
  ps_imp (ps_for c.hp c.calm hi hg hb hs) for_rel
variable {i j : Nat} {x y : Str} {a b : Expr} {m : M (List R)} {px py pt : Pos} {kt k2 : Nat} {pt2 : Pos}
theorem bs_par {k : Nat} (c : Bd X Wx k) (hi : X.N[i]? = some x) (hj : X.N[j]? = some y) (hij : i ≠ j) (hx : X.env.scope.names.lookup x = some .local) (hy : X.env.scope.names.lookup y = some .local) (ha : PA X [a, b] (bvA X.K Wx m))
    (hw : swappedStores [.Tuple [.Name x px, .Name y py] kt pt] (.Tuple [a, b] k2 pt2) X.env = pure (some [x, y])) (hs : swapsWithSole [.Tuple [.Name x px, .Name y py] kt pt] (.Tuple [a, b] k2 pt2) pos.line X.env = pure false := by rfl) :
    PS X (.Assign [.Tuple [.Name x px, .Name y py] kt pt] (.Tuple [a, b] k2 pt2) pos) (bvS X.K Wx fl (sPar fl i j m)) := ps_imp (ps_par c.calm c.nd hi hj hij hx hy ha hw hs) par_rel
end
end BV

namespace BV
open PySem PySem.Spec PyProof.Rows L2

/-! ### fields -/
theorem look_cons {α : Type} (f g : Str) (y : α) (fs : List (Str × α)) : ((g, y) :: fs).lookup f = if f = g then some y else fs.lookup f := by
  by_cases h : f = g
  · subst h; simp [List.lookup]
  · have e : (f == g) = false := by simpa using h
    rw [if_neg h]
    simp [List.lookup, e]
theorem RepF.get {K : PySem.W.Frag} {F : Hp} {f : Str} : ∀ {fs : List (Str × D)} {ws : List (Str × V)} {d : D}, RepF K F fs ws → fs.lookup f = some d → ∃ v, ws.lookup f = some v ∧ Rep K F d v
  | [], _, _, _, e => by cases e
  | (g, x) :: fs, _, d, ⟨v, r, e1, h, t⟩, e => by
    subst e1
    rw [look_cons] at e ⊢
    by_cases q : f = g
    · rw [if_pos q] at e ⊢; cases e; exact ⟨v, rfl, h⟩
    · rw [if_neg q] at e ⊢; exact RepF.get t e
theorem RepF.none {K : PySem.W.Frag} {F : Hp} {f : Str} : ∀ {fs : List (Str × D)} {ws : List (Str × V)}, RepF K F fs ws → fs.lookup f = none → ws.lookup f = none
  | [], _, h, _ => by rw [show _ = [] from h]; rfl
  | (g, x) :: fs, _, ⟨v, r, e1, h, t⟩, e => by
    subst e1
    rw [look_cons] at e ⊢
    by_cases q : f = g
    · rw [if_pos q] at e; cases e
    · rw [if_neg q] at e ⊢; exact RepF.none t e
theorem RepWF.get {K : PySem.W.Frag} {F B H : Hp} {f : Str} : ∀ {fs : List (Str × W)} {ws : List (Str × V)} {as : List Addr} {w : W}, RepWF K F B H fs ws as → fs.lookup f = some w → w.no = true → ∃ v, ws.lookup f = some v ∧ RepW K F B H w v []
  | [], _, _, _, _, e, _ => by cases e
  | (g, x) :: fs, _, _, w, ⟨v, r, a1, a2, e1, ea, h, t⟩, e, hn => by
    subst e1
    rw [look_cons] at e ⊢
    by_cases q : f = g
    · rw [if_pos q] at e ⊢; cases e
      have z := no_nil hn h
      subst z
      exact ⟨v, rfl, h⟩
    · rw [if_neg q] at e ⊢; exact RepWF.get t e hn
theorem RepWF.none {K : PySem.W.Frag} {F B H : Hp} {f : Str} : ∀ {fs : List (Str × W)} {ws : List (Str × V)} {as : List Addr}, RepWF K F B H fs ws as → fs.lookup f = none → ws.lookup f = none
  | [], _, _, h, _ => by rw [h.1]; rfl
  | (g, x) :: fs, _, _, ⟨v, r, a1, a2, e1, ea, h, t⟩, e => by
    subst e1
    rw [look_cons] at e ⊢
    by_cases q : f = g
    · rw [if_pos q] at e; cases e
    · rw [if_neg q] at e ⊢; exact RepWF.none t e
/-- the class of what is read -/
def W.cls : W → Option Addr
  | .frz (.obj C _) => some C
  | .brw (.obj C _) => some C
  | .oobj C _ => some C
  | _ => none
def W.fld (w : W) (f : Str) : Option W := match w with
  | .frz (.obj _ fs) => (fs.lookup f).map .frz
  | .brw (.obj _ fs) => (fs.lookup f).map mkB
  | .oobj _ fs => match fs.lookup f with
    | some u => if u.no = true then some u else none
    | none => none
  | _ => none
/-- no field of that name -/
def W.nofld (w : W) (f : Str) : Bool := match w with
  | .frz (.obj _ fs) => (fs.lookup f).isNone
  | .brw (.obj _ fs) => (fs.lookup f).isNone
  | .oobj _ fs => (fs.lookup f).isNone
  | _ => false
theorem cls_ok {K : PySem.W.Frag} {F B H : Hp} (sF : Same F H) (sB : Same B H) {w : W} {v : V} {as : List Addr} {C : Addr} (h : RepW K F B H w v as) (e : w.cls = some C) :
    ∃ a dx ws, v = .ref a ∧ H a = some (.ins C dx ws) ∧ (∀ f u, w.fld f = some u → ∃ z, ws.lookup f = some z ∧ RepW K F B H u z []) ∧ ∀ f, w.nofld f = true → ws.lookup f = none := by
  cases w with
  | frz d => cases d with
    | obj C' fs =>
      cases e
      obtain ⟨⟨a, dx, ws, e1, q, r⟩, _⟩ := h
      refine ⟨a, dx, ws, e1, sF _ _ q, fun f u eu => ?_, fun f en => RepF.none r (Option.isNone_iff_eq_none.mp en)⟩
      obtain ⟨d, ed, rfl⟩ := map_some eu
      obtain ⟨z, ez, rz⟩ := RepF.get r ed
      exact ⟨z, ez, rz, rfl⟩
    | _ => cases e
  | brw d => cases d with
    | obj C' fs =>
      cases e
      obtain ⟨⟨a, dx, ws, e1, q, r⟩, _⟩ := h
      refine ⟨a, dx, ws, e1, sB _ _ q, fun f u eu => ?_, fun f en => RepF.none r (Option.isNone_iff_eq_none.mp en)⟩
      obtain ⟨d, ed, rfl⟩ := map_some eu
      obtain ⟨z, ez, rz⟩ := RepF.get r ed
      exact ⟨z, ez, repW_mkB rz⟩
    | _ => cases e
  | oobj C' fs =>
    cases e
    obtain ⟨a, dx, ws, bs, e1, q, ea, r⟩ := h
    refine ⟨a, dx, ws, e1, q, fun f u eu => ?_, fun f en => RepWF.none r (Option.isNone_iff_eq_none.mp en)⟩
    have eu' : (match fs.lookup f with
      | some u => if u.no = true then some u else none
      | none => none) = some u := eu
    cases el : fs.lookup f with
    | none => rw [el] at eu'; cases eu'
    | some u2 =>
      rw [el] at eu'
      dsimp only at eu'
      split at eu'
      · rename_i hn
        cases eu'
        exact RepWF.get r el hn
      · cases eu'
  | _ => cases e
def mFld (cs : List Addr) (f : Str) (m : M R) : M R := fun L => (m L).bind fun r L1 => match r.get L1 with
  | some w => match w.cls with
    | some C => if C ∈ cs then match w.fld f with
        | some u => .ok (.val u) L1
        | none => .bad
      else .bad
    | none => .bad
  | none => .bad
section
variable {X : Cx} {Wx : WX} {e : Expr} {m : M R} {f : Str} {pos : Pos}
theorem be_fld (cs : List Addr) (hcs : ∀ C ∈ cs, Cls X.K C ∧ NoAttr X.K C f) (he : PE X e (bvE X.K Wx m)) (hb : attributeBase e f X.env (eval e X.env) = eval e X.env) : PE X (.Attribute e f pos) (bvE X.K Wx (mFld cs f m)) := by
  refine pe_imp (pe_fld he hb) fun σ H Q ⟨F, B, L, as, wf, s, h⟩ => ?_
  refine ⟨F, B, L, as, wf, s, (End.bind h).imp fun r L1 h1 v F' H' asr as' g' s' r' => ?_⟩
  split at h1
  · rename_i w ew
    split at h1
    · rename_i C eC
      split at h1
      · rename_i hC
        split at h1
        · rename_i u eu
          obtain ⟨bs, rw'⟩ := get_ok s' r' ew
          obtain ⟨a, dx, ws, ev, ea, hf, _⟩ := cls_ok g'.wf.f g'.wf.b rw' eC
          obtain ⟨z, ez, rz⟩ := hf f u eu
          exact ⟨a, C, dx, ws, z, ev, ea, (hcs C hC).1, (hcs C hC).2, ez, h1 z F' H' [] as' (g'.sub (le_r _ _)) s' rz⟩
        · exact h1.elim
      · exact h1.elim
    · exact h1.elim
  · exact h1.elim
end

/-! ### methods -/
/-- what a method's name means by the class -/
abbrev Disp := Addr → Option (List Bool × Fn)
def mMeth (ds : Disp) (m : Str) (ma : M R) (mr : M (List R)) : M R := fun L => (ma L).bind fun r L1 => match r.get L1 with
  | some w => match w.cls with
    | some C => if w.nofld m = true then match ds C with
        | some p => (mr L1).bind fun rs L2 => callR p.1 p.2 (r :: rs) L2
        | none => .bad
      else .bad
    | none => .bad
  | none => .bad
/-- the classes' methods keep their readings -/
structure MethOk (X : Cx) (k : Nat) (m : Str) (C : Addr) (fl : List Bool) (fn : Fn) : Prop where
  cls : Cls X.K C
  ex : ∃ (f : Addr) (fd : FuncData) (ps : List Str), Meth X.K C m f ∧ FnOk X.prog X.w X.K X.mg X.base (L2.CX X.prog X.w) k f fd ps (spBV X.K fl fn) ∧ Binds X.K fd ps []
section
variable {X : Cx} {Wx : WX} {j k : Nat} {ds : Disp} {m : Str} {o e : Expr} {es : List Expr} {apos pos : Pos} {ma : M R} {mr : M (List R)} {pl : Sem Bool}
theorem be_meth (c : Bd X Wx j) (hk : k ≤ j) (hd : ∀ C fl fn, ds C = some (fl, fn) → MethOk X k m C fl fn) (he : PE X o (bvE X.K Wx ma)) (ha : PA X (e :: es) (bvA X.K Wx mr))
    (hst : starEach (e :: es) X.env = (false, eval e X.env) :: starEach es X.env := by rfl) (hpl : (backTo pos (starEach es X.env)).any (·.1) = false := by rfl)
    (ht : eval (.Call (.Attribute o m apos) (e :: es) [] pos) X.env = (eval o X.env >>= fun ov => standAt apos.atName >>= fun _ => holding [ov] (getMethod ov m pl) >>= fun q => callWith pos q.1 q.2 (backTo pos (starEach (e :: es) X.env)) (backToKw pos (keywordEach [] X.env))) := by rfl) :
    PE X (.Call (.Attribute o m apos) (e :: es) [] pos) (bvE X.K Wx (mMeth ds m ma mr)) := by
  refine ⟨fun pins s σ H Q I ⟨F, B, L, as, wf, sr, h⟩ => PySem.W.methodCall_KW (pl := pl) (thn (he.run pins s σ H (fun x H1 => ∃ a C dx fs fl fn, x = .ref a ∧ H1 a = some (.ins C dx fs) ∧ fs.lookup m = none ∧ MethOk X k m C fl fn ∧
      bvA X.K Wx mr σ H1 fun vs H2 => spBV X.K fl fn (.ref a :: vs) H2 Q fun cls d H' => Wx cls d σ H') I ⟨F, B, L, as, wf, sr, (End.bind h).imp fun r L1 h1 v F1 H1 asr as1 g1 s1 r1 => ?_⟩) ?_) ht⟩
  · split at h1
    · rename_i w ew
      split at h1
      · rename_i C eC
        split at h1
        · rename_i hno
          split at h1
          · rename_i p ep
            obtain ⟨bs, rw'⟩ := get_ok s1 r1 ew
            obtain ⟨a, dx, ws, ev, ea, _, hn⟩ := cls_ok g1.wf.f g1.wf.b rw' eC
            subst ev
            refine ⟨a, C, dx, ws, p.1, p.2, rfl, ea, hn m hno, hd C p.1 p.2 ep, F1, B, L1, as1, g1.wf.sub (le_r _ _), s1, (End.bind h1).behind (g1.sub (le_r _ _)) fun rs L2 h2 vs F2 H2 asr2 as2 g2 s2 r2 => ?_⟩
            obtain ⟨g3, k3⟩ := framed g1 g2
            refine call_sp (asr := asr ++ asr2) (as := as2) (rs := r :: rs) (L := L2) (σ := σ) (F := F2) (B := B) (g3.wf.sub fun p => by simp only [List.count_append]; omega) s2 ⟨.ref a, vs, asr, asr2, rfl, rfl, r1.frame g2.ext k3, r2⟩ ?_
            have g4 : Go F B H as F2 H2 ((asr ++ asr2) ++ as2) := g3.sub fun p => by simp only [List.count_append]; omega
            exact h2.behind g4 fun r L3 h3 v F' H' asr' as' g' s' r' => h3 v F' H' asr' as' (g4.trans g') s' r'
          · exact h1.elim
        · exact h1.elim
      · exact h1.elim
    · exact h1.elim
  · rintro u s1 ⟨x, H1, I1, rx, a, C, dx, fs, fl, fn, rfl, ea, hl, ⟨cl, f, fd, ps, hm, FO, hb⟩, q⟩
    obtain rfl : u = Value.ref a := rx
    refine getmeth_ok I1 ea cl hm hl (PySem.W.callWith_K (first := [.ref a]) (h₀ := X.base) I.ok.mod.kin hm.kp (thn (ha.run pos pins s1 σ H1 _ I1 q) fun us s2 ⟨vs, H2, I2, r, q2⟩ => ⟨I2.kIn, ?_⟩) hst hpl)
    exact run_fnSD (E := fun σ cls d H => Wx cls d σ H) (us := .ref a :: us) (vs := .ref a :: vs) FO (c.hr.mono hk) hb .nil (passAt c.tk σ) I2 (.cons rfl r) (by rw [List.append_nil]; exact q2)
theorem be_meth0 (c : Bd X Wx j) (hk : k ≤ j) (hd : ∀ C fl fn, ds C = some (fl, fn) → MethOk X k m C fl fn) (he : PE X o (bvE X.K Wx ma))
    (ht : eval (.Call (.Attribute o m apos) [] [] pos) X.env = (eval o X.env >>= fun ov => standAt apos.atName >>= fun _ => holding [ov] (getMethod ov m pl) >>= fun q => callWith pos q.1 q.2 (backTo pos (starEach [] X.env)) (backToKw pos (keywordEach [] X.env))) := by rfl) :
    PE X (.Call (.Attribute o m apos) [] [] pos) (bvE X.K Wx (mMeth ds m ma mNil)) := by
  refine ⟨fun pins s σ H Q I ⟨F, B, L, as, wf, sr, h⟩ => PySem.W.methodCall_KW (pl := pl) (thn (he.run pins s σ H (fun x H1 => ∃ a C dx fs fl fn, x = .ref a ∧ H1 a = some (.ins C dx fs) ∧ fs.lookup m = none ∧ MethOk X k m C fl fn ∧
      spBV X.K fl fn [.ref a] H1 Q fun cls d H' => Wx cls d σ H') I ⟨F, B, L, as, wf, sr, (End.bind h).imp fun r L1 h1 v F1 H1 asr as1 g1 s1 r1 => ?_⟩) ?_) ht⟩
  · split at h1
    · rename_i w ew
      split at h1
      · rename_i C eC
        split at h1
        · rename_i hno
          split at h1
          · rename_i p ep
            obtain ⟨bs, rw'⟩ := get_ok s1 r1 ew
            obtain ⟨a, dx, ws, ev, ea, _, hn⟩ := cls_ok g1.wf.f g1.wf.b rw' eC
            subst ev
            refine ⟨a, C, dx, ws, p.1, p.2, rfl, ea, hn m hno, hd C p.1 p.2 ep, ?_⟩
            refine call_sp (asr := asr) (as := as1) (rs := [r]) (L := L1) (σ := σ) (F := F1) (B := B) g1.wf s1 ⟨.ref a, [], asr, [], rfl, by simp, r1, rfl, rfl⟩ ?_
            exact (show End X.K Wx F B H as σ (okE X.K F B H as σ Q) (callR p.1 p.2 [r] L1) from h1).behind g1 fun r L3 h3 v F' H' asr' as' g' s' r' => h3 v F' H' asr' as' (g1.trans g') s' r'
          · exact h1.elim
        · exact h1.elim
      · exact h1.elim
    · exact h1.elim
  · rintro u s1 ⟨x, H1, I1, rx, a, C, dx, fs, fl, fn, rfl, ea, hl, ⟨cl, f, fd, ps, hm, FO, hb⟩, q⟩
    obtain rfl : u = Value.ref a := rx
    refine getmeth_ok I1 ea cl hm hl (PySem.W.callWith_K0 (first := [.ref a]) I1.kIn hm.kp ?_)
    exact run_fnSD (E := fun σ cls d H => Wx cls d σ H) (us := [.ref a]) (vs := [.ref a]) FO (c.hr.mono hk) hb .nil (passAt c.tk σ) I1 (.cons rfl .nil) q
end

/-! ### self.f = e -/
def putW (f : Str) (w : W) : List (Str × W) → List (Str × W)
  | [] => [(f, w)]
  | (g, x) :: r => if g = f then (g, w) :: r else (g, x) :: putW f w r
theorem putW_ok {K : PySem.W.Frag} {F B H : Hp} {f : Str} {w : W} {y : V} (h : RepW K F B H w y []) : ∀ {fs : List (Str × W)} {ws : List (Str × V)} {as : List Addr}, RepWF K F B H fs ws as → ∃ as', (∀ p, List.count p as' ≤ List.count p as) ∧ RepWF K F B H (putW f w fs) (putF f y ws) as'
  | [], _, _, ⟨e1, e2⟩ => by
    subst e1 e2
    exact ⟨[], fun _ => Nat.le_refl _, y, [], [], [], rfl, rfl, h, rfl, rfl⟩
  | (g, x) :: fs, _, _, ⟨v, r, a1, a2, e1, ea, h1, t⟩ => by
    subst e1 ea
    unfold putW putF
    by_cases q : g = f
    · rw [if_pos q, if_pos q]
      exact ⟨a2, fun p => by rw [List.count_append]; omega, y, r, [], a2, rfl, rfl, h, t⟩
    · rw [if_neg q, if_neg q]
      obtain ⟨as', k, t'⟩ := putW_ok h t
      exact ⟨a1 ++ as', fun p => by have := k p; simp only [List.count_append]; omega, v, _, a1, as', rfl, rfl, h1, t'⟩
theorem RepWF.len {K : PySem.W.Frag} {F B H : Hp} : ∀ {fs : List (Str × W)} {ws : List (Str × V)} {as : List Addr}, RepWF K F B H fs ws as → ws.length = fs.length
  | [], _, _, h => by rw [h.1]; rfl
  | (_, _) :: _, _, _, ⟨v, r, a1, a2, e, ea, h, t⟩ => by rw [e, List.length_cons, List.length_cons, t.len]
/-- slot i's own object gets a field -/
def sFldSet (cs : List Addr) (i : Nat) (f : Str) (m : M R) : MS := fun L => (m L).thenS fun r L1 => (toF r L1).thenS fun d L2 => match L2[i]? with
  | some (some (.oobj C fs)) => if C ∈ cs ∧ fs.length < 1000 then .next (L2.set i (some (.oobj C (putW f (.frz d) fs)))) else .bad
  | _ => .bad
section
variable {X : Cx} {Wx : WX} {fl : List Bool} {i : Nat} {x f : Str} {e : Expr} {m : M R} {pos pos' px : Pos}
/-- another content of slot i's own object -/
theorem own_write {K : PySem.W.Frag} {F B H : Hp} {as : List Addr} {σ : L2.St} {L : Lc} {pre a1 post : List Addr} {v : V} {a : Addr} : True := trivial
theorem bs_fld (cs : List Addr) (hcs : ∀ C ∈ cs, Cls X.K C ∧ NoAttr X.K C f) (hN : X.N[i]? = some x) (hv : Vis X.env.scope x) (hd : (x == ("__debug__" : Str)) = false) (hcd : (x == ("__classdict__" : Str)) = false)
    (he : PE X e (bvE X.K Wx m)) (hs : swapsWith e (some (.Attribute (.Name x px) f pos')) pos.line X.env = pure false := by rfl) : PS X (.Assign [.Attribute (.Name x px) f pos'] e pos) (bvS X.K Wx fl (sFldSet cs i f m)) := by
  refine ps_imp (ps_fld (pe_var hN hv hd hcd) he hs) fun T σ H ⟨F, B, L, as, wf, s, h⟩ => ?_
  refine ⟨F, B, L, as, wf, s, (EndS.thenS h).imp fun r L1 h1 y F1 H1 asr as1 g1 s1 r1 => ?_⟩
  obtain ⟨d, L2, e2, h2⟩ := toF_endS h1
  obtain ⟨F2, as2, g2, s2, q2⟩ := toF_ok g1.wf s1 r1 e2
  split at h2
  · rename_i C fs eL
    split at h2
    · rename_i hC
      obtain ⟨s0, pre, a1, post, k1, ⟨v, ev, rw'⟩, ea, k⟩ := SRel.at s2 eL
      subst ev ea
      obtain ⟨a, dx, ws, bs, e1, q, eb, r⟩ := rw'
      subst e1 eb
      have nb : Kept bs H1 (upd H1 a (.ins C dx (putF f y ws))) := fun p ip o ep => by
        have := g2.wf.nd a
        rw [upd_ne (fun z => by subst z; have ip' : 0 < List.count p bs := ip; simp only [List.count_append, List.count_cons_self] at this; omega)]
        exact ep
      have nk : Kept (pre ++ post) H1 (upd H1 a (.ins C dx (putF f y ws))) := fun p ip o ep => by
        have := g2.wf.nd a
        rw [upd_ne (fun z => by subst z; have ip' : 0 < List.count p (pre ++ post) := ip; simp only [List.count_append, List.count_cons_self] at this ip'; omega)]
        exact ep
      have r2 := RepWF.frame (Same.refl F2) (Same.refl B) nb r
      obtain ⟨bs', kb, r3⟩ := putW_ok (f := f) (show RepW X.K F2 B (upd H1 a (.ins C dx (putF f y ws))) (.frz d) y [] from ⟨q2, rfl⟩) r2
      have g3 := Go.write (F := F2) (B := B) (p := a) g2.wf (by unfold In; simp only [List.count_append, List.count_cons_self]; omega) (.ins C dx (putF f y ws))
      refine ⟨.ref a, k1, a, C, dx, ws, rfl, q, (hcs C hC.1).1, (hcs C hC.1).2, by rw [r.len]; exact hC.2, ?_⟩
      have s3 := k F2 B _ (some (.ref a)) (some (.oobj C (putW f (.frz d) fs))) (a :: bs') (Same.refl _) (Same.refl _) nk ⟨.ref a, rfl, a, dx, _, bs', rfl, upd_same, rfl, r3⟩
      rw [set_same k1] at s3
      exact h2 σ F2 _ _ (((g1.trans g2).trans g3).sub fun p => by have := kb p; simp only [List.count_append, List.count_cons]; omega) s3 (Pin.refl _ _)
    · exact h2.elim
  · exact h2.elim
end

/-! ### C(..): a new instance -/
def madeR (C : Addr) (fl : List Bool) (fn : Fn) (rs : List R) (L : Lc) : Res R := (prep fl rs L).bind fun p L1 => match fn (.oobj C [] :: p.1) with
  | .ok (.frz .non) (o :: os) => match back p.2 os L1 with
    | some L2 => .ok (.val o) L2
    | none => .bad
  | .exc x (_ :: os) => match back p.2 os L1 with
    | some L2 => .exc x L2
    | none => .bad
  | _ => .bad
def mMake (C : Addr) (fl : List Bool) (fn : Fn) (mr : M (List R)) : M R := fun L => (mr L).bind fun rs L1 => madeR C fl fn rs L1
theorem make_sp {K : PySem.W.Frag} {Wx : WX} {C : Addr} {fl : List Bool} {fn : Fn} {F B H : Hp} {as asr : List Addr} {σ : L2.St} {L : Lc} {rs : List R} {vs : List V} {Q : VK} (wf : WF F B H (asr ++ as)) (s : SRel K F B H σ L as) (rr : RepRs K F B H σ rs vs asr)
    (h : End K Wx F B H (asr ++ as) σ (okE K F B H (asr ++ as) σ Q) (madeR C fl fn rs L)) {x dx : Addr} (nx : H x = none) (ndx : H dx = none) (ne : dx ≠ x) :
    spBV K (true :: fl) fn (.ref x :: vs) (upd (upd H dx (.own x)) x (.ins C dx [])) (fun v H2 => v = .non ∧ Q (.ref x) H2) (fun cls d H' => Wx cls d σ H') := by
  unfold madeR at h
  cases ep : prep fl rs L with
  | exc x L1 => exact (prep_nexc ep).elim
  | bad => rw [ep] at h; exact h.elim
  | ok p L1 =>
    rw [ep] at h
    obtain ⟨F1, asw, as1, g1, s1, rw1, hl, ir⟩ := prep_ok wf s rr ep
    -- the two new objects
    have g2 := Go.alloc g1.wf ndx (.own x)
    have nx2 : upd H dx (.own x) x = none := by rw [upd_ne (Ne.symm ne)]; exact nx
    have g3 := Go.alloc g2.wf nx2 (.ins C dx [])
    have sm : Same H (upd (upd H dx (.own x)) x (.ins C dx [])) := fun q o e => by
      rw [upd_ne (fun z => by rw [z, nx] at e; cases e), upd_ne (fun z => by rw [z, ndx] at e; cases e)]; exact e
    have gA := (g1.trans g2).trans g3
    have wf1 : WF F1 B (upd (upd H dx (.own x)) x (.ins C dx [])) (as1 ++ (x :: asw)) := g3.wf.sub fun p => by simp only [List.count_append, List.count_cons]; omega
    have s1' := SRel.frame (Same.refl F1) (Same.refl B) (fun q _ o e => sm q o e) s1
    have rw1' := RepWs.frame (Same.refl F1) (Same.refl B) (fun q _ o e => sm q o e) rw1
    refine ⟨by rw [List.length_cons, List.length_cons, hl], F1, B, .oobj C [] :: p.1, x :: asw, wf1.sub (le_r _ _), ⟨.ref x, vs, [x], asw, rfl, rfl, ⟨x, dx, [], [], rfl, upd_same, rfl, rfl, rfl⟩, rw1'⟩, ?_⟩
    have h1 : End K Wx F B H (asr ++ as) σ (okE K F B H (asr ++ as) σ Q) (match fn (.oobj C [] :: p.1) with
      | .ok (.frz .non) (o :: os) => match back p.2 os L1 with
        | some L2 => .ok (.val o) L2
        | none => .bad
      | .exc x (_ :: os) => match back p.2 os L1 with
        | some L2 => .exc x L2
        | none => .bad
      | _ => .bad) := h
    cases ef : fn (.oobj C [] :: p.1) with
    | bad => rw [ef] at h1; exact h1.elim
    | ok w os =>
      rw [ef] at h1
      dsimp only at h1 ⊢
      intro v F' H' asv aso g4 rv ro
      obtain ⟨o, os', a1, a2, eo, eas, rob, ro'⟩ := ro
      subst eo eas
      cases w with
      | frz d => cases d with
        | non =>
          refine ⟨rv.1, ?_⟩
          dsimp only at h1
          cases eb : back p.2 os' L1 with
          | none => rw [eb] at h1; exact h1.elim
          | some L2 =>
            rw [eb] at h1
            have g5 := g4.frame wf1
            have k5 := g4.kept wf1
            obtain ⟨as2, k2, s2⟩ := back_ok (SRel.frame g4.ext (Same.refl _) k5 s1') ir ro' eb
            refine h1 (.ref x) F' H' a1 as2 (gA.trans ((g5.sup fun p => by simp only [List.count_append, List.count_cons]; omega).sub fun p => ?_)) s2 rob
            have := k2 p
            simp only [List.count_append] at this ⊢
            omega
        | _ => exact h1.elim
      | _ => exact h1.elim
    | exc y os =>
      rw [ef] at h1
      dsimp only at h1 ⊢
      intro cls d F' H' aso g4 ro rx
      obtain ⟨o, os', a1, a2, eo, eas, rob, ro'⟩ := ro
      subst eo eas
      dsimp only at h1
      cases eb : back p.2 os' L1 with
      | none => rw [eb] at h1; exact h1.elim
      | some L2 =>
        rw [eb] at h1
        have g5 := g4.frame wf1
        have k5 := g4.kept wf1
        obtain ⟨as2, k2, s2⟩ := back_ok (SRel.frame g4.ext (Same.refl _) k5 s1') ir ro' eb
        refine h1 cls d F' H' as2 (gA.trans ((g5.sup fun p => by simp only [List.count_append, List.count_cons]; omega).sub fun p => ?_)) s2 rx
        have := k2 p
        simp only [List.count_append] at this ⊢
        omega
section
variable {X : Cx} {Wx : WX} {j k : Nat} {C f : Addr} {fd : FuncData} {ps : List Str} {fl : List Bool} {fn : Fn} {x : Str} {p pos : Pos} {e : Expr} {es : List Expr} {mr : M (List R)}
theorem be_make (c : Bd X Wx j) (MK : Mk X.K C f) (FO : FnOk X.prog X.w X.K X.mg X.base (L2.CX X.prog X.w) k f fd ps (spBV X.K (true :: fl) fn)) (hk : k + 1 ≤ j) (hm : X.mg x = some (.ref C)) (hb : Binds X.K fd ps [])
    (hg : Gl X x) (ha : PA X (e :: es) (bvA X.K Wx mr)) (hdb : (x == ("__debug__" : Str)) = false := by decide) (he : starEach (e :: es) X.env = (false, eval e X.env) :: starEach es X.env := by rfl) (hpl : (backTo pos (starEach es X.env)).any (·.1) = false := by rfl) :
    PE X (.Call (.Name x p) (e :: es) [] pos) (bvE X.K Wx (mMake C fl fn mr)) := by
  refine ⟨fun pins s σ H Q I ⟨F, B, L, as, wf, sr, h⟩ => wpAny_Call_Name_kw (ld_glob I hg hm ?_ hdb)⟩
  refine PySem.W.callWith_K (h₀ := X.base) I.ok.mod.kin MK.kp (thn (ha.run pos pins s σ H (fun vs H1 => ∀ y dy, H1 y = none → H1 dy = none → dy ≠ y → spBV X.K (true :: fl) fn (.ref y :: vs) (upd (upd H1 dy (.own y)) y (.ins C dy [])) (fun v H2 => v = .non ∧ Q (.ref y) H2) (fun cls d H' => Wx cls d σ H')) I
    ⟨F, B, L, as, wf, sr, (End.bind h).imp fun rs L1 h1 vs F1 H1 asr as1 g1 s1 r1 y dy n1 n2 n3 => ?_⟩) fun us s1 ⟨vs, H1, I1, r, q⟩ => ⟨I1.kIn, ?_⟩) he hpl
  · exact make_sp g1.wf s1 r1 (h1.behind g1 fun r L3 h3 v F' H' asr' as' g' s' r' => h3 v F' H' asr' as' (g1.trans g') s' r') n1 n2 n3
  · have hq := q (s1.heap.objs.size + 1) s1.heap.objs.size (I1.hok.fresh (Nat.le_succ _)) (I1.hok.fresh (Nat.le_refl _)) (Nat.ne_of_lt (Nat.lt_succ_self _))
    have J := Inv.made (C := C) I1
    have rv : Vals (V.ref (s1.heap.objs.size + 1) :: vs) (Value.ref (s1.heap.objs.size + 1) :: us) := .cons rfl r
    have hl : ((Value.ref (s1.heap.objs.size + 1) :: us) ++ []).length = ps.length := by
      rw [List.append_nil, ← Paired.length rv, FO.len _ _ _ _ hq]
    have hb' := hb _ (Value.ref (s1.heap.objs.size + 1) :: us) J.kIn hl
    rw [List.append_nil] at hb'
    refine wpAny_call (make_map (f := f) I1.kIn MK.makes MK.init (beq_iff_eq.mp MK.fn) (codeAny_mono (FO.run _ X.stack _ _ _ _ _ _ _ ((c.hr.mono hk).make C us []) (J.env0.make C us []) hb' rv hq) fun res s' hr => ?_))
    match res, hr with
    | .error ex, hr => exact passAt c.tk σ pins _ _ ex s' J hr
    | .ok (.ret u), hr =>
      obtain ⟨v, H', I3, rv3, ev, q3⟩ := J.after hr
      subst ev
      exact ⟨rv3, ⟨V.ref (s1.heap.objs.size + 1), H', I3, rfl, q3⟩⟩
    | .ok .next, hr => exact hr.elim
    | .ok .brk, hr => exact hr.elim
    | .ok .cont, hr => exact hr.elim
end
end BV

namespace BV
open PySem PySem.Spec PyProof.Rows L2

/-! ### what is walked: lists and tuples, ranges -/
def D.seq : D → Option (List D)
  | .lst ds => some ds
  | .lok ds => some ds
  | .tup ds => some ds
  | _ => none
/-- the items; an own list is frozen -/
def itemsOf (r : R) : M (List W) := fun L => match r with
  | .val (.brw d) => match d.seq with
    | some ds => .ok (ds.map mkB) L
    | none => .bad
  | r => (toF r L).bind fun d L2 => match d.seq with
    | some ds => .ok (ds.map .frz) L2
    | none => .bad
def mIter (m : M R) : M (List W) := fun L => (m L).bind itemsOf
def rSeq (K : PySem.W.Frag) (x : V) (R : It → Hp → Prop) (H : Hp) : Prop := ∃ a, x = .ref a ∧ (((∃ xs, SqL K H a xs) ∧ R (Itl K a) H) ∨ ((∃ xs, SqT K H a xs) ∧ R (Itt K a) H))
theorem repD_seq {K : PySem.W.Frag} {F : Hp} {d : D} {ds : List D} {v : V} (e : d.seq = some ds) (h : Rep K F d v) : ∃ a vs, v = .ref a ∧ (SqL K F a vs ∨ SqT K F a vs) ∧ Reps K F ds vs := by
  cases d with
  | lst xs => cases e; obtain ⟨a, vs, e1, q, r⟩ := h; exact ⟨a, vs, e1, .inl (.inl (.inl q)), r⟩
  | lok xs => cases e; obtain ⟨a, vs, e1, q, r⟩ := h; exact ⟨a, vs, e1, .inl q, r⟩
  | tup xs => cases e; obtain ⟨a, vs, e1, q, r⟩ := h; exact ⟨a, vs, e1, .inr q, r⟩
  | _ => cases e
theorem it_list {K : PySem.W.Frag} {F B G : Hp} {a : Addr} {ws : List W} {vs : List V} (hG : ∀ F1 H1 as1, Same F F1 → WF F1 B H1 as1 → Same G H1) (q : SqL K G a vs) (hl : ws.length = vs.length) (r : ∀ (i : Nat) w, ws[i]? = some w → ∃ v, vs[i]? = some v ∧ ∀ F1 H1, Same F F1 → RepW K F1 B H1 w v []) : ItOk K F B (Itl K a) ws := by
  intro i F1 H1 as1 sF wf
  have q1 : SqL K H1 a vs := (hG F1 H1 as1 sF wf).seq q
  refine ⟨fun w ew => ?_, fun hi => ⟨vs, q1, by omega⟩⟩
  obtain ⟨v, ev, rv⟩ := r i w ew
  refine ⟨⟨vs, v, q1, ev⟩, fun x H2 ⟨e2, hy⟩ => ?_⟩
  subst e2
  have := hy vs q1
  rw [ev] at this
  cases this
  exact ⟨F1, [], Go.refl wf, fun _ _ _ h => h, rv F1 H2 sF⟩
theorem it_tup {K : PySem.W.Frag} {F B G : Hp} {a : Addr} {ws : List W} {vs : List V} (hG : ∀ F1 H1 as1, Same F F1 → WF F1 B H1 as1 → Same G H1) (q : SqT K G a vs) (hl : ws.length = vs.length) (r : ∀ (i : Nat) w, ws[i]? = some w → ∃ v, vs[i]? = some v ∧ ∀ F1 H1, Same F F1 → RepW K F1 B H1 w v []) : ItOk K F B (Itt K a) ws := by
  intro i F1 H1 as1 sF wf
  have q1 : SqT K H1 a vs := sameSqT (hG F1 H1 as1 sF wf) q
  refine ⟨fun w ew => ?_, fun hi => ⟨vs, q1, by omega⟩⟩
  obtain ⟨v, ev, rv⟩ := r i w ew
  refine ⟨⟨vs, v, q1, ev⟩, fun x H2 ⟨e2, hy⟩ => ?_⟩
  subst e2
  have := hy vs q1
  rw [ev] at this
  cases this
  exact ⟨F1, [], Go.refl wf, fun _ _ _ h => h, rv F1 H2 sF⟩
theorem reps_get {K : PySem.W.Frag} {F : Hp} : ∀ {ds : List D} {vs : List V} {i : Nat} {d : D}, Reps K F ds vs → ds[i]? = some d → ∃ v, vs[i]? = some v ∧ Rep K F d v
  | [], _, _, _, _, h => by cases h
  | d :: ds, _, 0, _, ⟨v, r, e, h, t⟩, hi => by cases hi; exact ⟨v, by rw [e]; rfl, h⟩
  | d :: ds, _, i + 1, _, ⟨v, r, e, h, t⟩, hi => by
    obtain ⟨u, h1, h2⟩ := reps_get t (show ds[i]? = some _ from hi)
    exact ⟨u, by rw [e]; exact h1, h2⟩
/-- the sequence at a holds ws, whatever comes -/
def SeqIt (K : PySem.W.Frag) (F B : Hp) (a : Addr) (ws : List W) (vs : List V) : Prop :=
  ∃ G, (∀ F1 H1 as1, Same F F1 → WF F1 B H1 as1 → Same G H1) ∧ (SqL K G a vs ∨ SqT K G a vs) ∧ ws.length = vs.length ∧ ∀ (i : Nat) w, ws[i]? = some w → ∃ v, vs[i]? = some v ∧ ∀ F1 H1, Same F F1 → RepW K F1 B H1 w v []
/-- an expression's value handed to what walks it -/
theorem items_ok {K : PySem.W.Frag} {Wx : WX} {F B H : Hp} {as asr : List Addr} {σ : L2.St} {L : Lc} {r : R} {v : V} {p : List W → Lc → Prop} (wf : WF F B H (asr ++ as)) (s : SRel K F B H σ L as) (rr : RepR K F B H σ r v asr) (h : End K Wx F B H (asr ++ as) σ p (itemsOf r L)) :
    ∃ ws L' F' as', p ws L' ∧ Go F B H (asr ++ as) F' H as' ∧ SRel K F' B H σ L' as' ∧ ∃ a vs, v = .ref a ∧ SeqIt K F' B a ws vs := by
  have frzCase : ∀ {r : R}, RepR K F B H σ r v asr → End K Wx F B H (asr ++ as) σ p ((toF r L).bind fun d L2 => match d.seq with
      | some ds => .ok (ds.map .frz) L2
      | none => .bad) → ∃ ws L' F' as', p ws L' ∧ Go F B H (asr ++ as) F' H as' ∧ SRel K F' B H σ L' as' ∧ ∃ a vs, v = .ref a ∧ SeqIt K F' B a ws vs := fun {r} rr h => by
    obtain ⟨d, L2, e2, h2⟩ := toF_end (End.bind h)
    obtain ⟨F2, as2, g2, s2, q2⟩ := toF_ok wf s rr e2
    split at h2
    · rename_i ds ed
      obtain ⟨a, vs, e1, hq, rs⟩ := repD_seq ed q2
      have hl : (ds.map W.frz).length = vs.length := by rw [List.length_map, rs.len]
      have hr : ∀ (i : Nat) w, (ds.map W.frz)[i]? = some w → ∃ v, vs[i]? = some v ∧ ∀ F1 H1, Same F2 F1 → RepW K F1 B H1 w v [] := fun i w ew => by
        rw [List.getElem?_map] at ew
        obtain ⟨d, ed, rfl⟩ := map_some ew
        obtain ⟨v, ev, rv⟩ := reps_get rs ed
        exact ⟨v, ev, fun F1 H1 sF => ⟨rv.mono sF, rfl⟩⟩
      exact ⟨_, L2, F2, as2, h2, g2, s2, a, vs, e1, F2, fun F1 H1 as1 sF wf => sF.trans wf.f, hq, hl, hr⟩
    · exact h2.elim
  unfold itemsOf at h
  split at h
  · rename_i d
    obtain ⟨rd, rfl⟩ := rr
    split at h
    · rename_i ds ed
      obtain ⟨a, vs, e1, hq, rs⟩ := repD_seq ed rd
      have hl : (ds.map mkB).length = vs.length := by rw [List.length_map, rs.len]
      have hr : ∀ (i : Nat) w, (ds.map mkB)[i]? = some w → ∃ v, vs[i]? = some v ∧ ∀ F1 H1, Same F F1 → RepW K F1 B H1 w v [] := fun i w ew => by
        rw [List.getElem?_map] at ew
        obtain ⟨d, ed, rfl⟩ := map_some ew
        obtain ⟨v, ev, rv⟩ := reps_get rs ed
        exact ⟨v, ev, fun F1 H1 sF => repW_mkB rv⟩
      exact ⟨_, L, F, as, h, Go.refl wf, s, a, vs, e1, B, fun F1 H1 as1 sF wf => wf.b, hq, hl, hr⟩
    · exact h.elim
  · exact frzCase rr h
theorem iter_rel {K : PySem.W.Frag} {Wx : WX} {m : M R} : ∀ σ H R, bvI K Wx (mIter m) σ H R → bvE K Wx m σ H (fun x H1 => rSeq K x R H1) := fun σ H R ⟨F, B, L, as, wf, s, h⟩ => by
  refine ⟨F, B, L, as, wf, s, (End.bind h).imp fun r L1 h1 v F1 H1 asr as1 g1 s1 r1 => ?_⟩
  obtain ⟨ws, L2, F2, as2, h2, g2, s2, a, vs, ev, G, hG, hq, hl, hr⟩ := items_ok g1.wf s1 r1 (h1.behind g1 fun _ _ h => h)
  have sG := hG F2 H1 as2 (Same.refl _) g2.wf
  refine ⟨a, ev, ?_⟩
  rcases hq with q | q
  · exact .inl ⟨⟨vs, sG.seq q⟩, h2 _ F2 H1 as2 (g1.trans g2) s2 (it_list hG q hl hr)⟩
  · exact .inr ⟨⟨vs, sameSqT sG q⟩, h2 _ F2 H1 as2 (g1.trans g2) s2 (it_tup hG q hl hr)⟩
section
variable {X : Cx} {Wx : WX} {tg e : Expr} {m : M R}
theorem pi_seq {te : TE} (he : PE X e te) : PI X tg e (fun σ H R => te σ H fun x H1 => rSeq X.K x R H1) := by
  constructor
  intro pins s σ H R I h
  apply thn (he.run pins s σ H _ I h)
  rintro v s1 ⟨x, H1, J, rv, a, rfl, hh⟩
  cases rv
  have fp : ∀ b ∈ [s1.heap.objs.size], FpOk X pins H1 b := fun b hb => by
    obtain rfl : b = s1.heap.objs.size := by simpa using hb
    exact J.fpOk (Nat.le_refl _) (J.hok.fresh (Nat.le_refl _))
  rcases hh with ⟨⟨xs, hq⟩, q⟩ | ⟨⟨xs, hq⟩, q⟩
  · have ⟨its, rv, pl, hz⟩ := J.list hq
    apply wpAny_pyIter_list pl.isList
    exact ⟨_, _, _, _, H1, rfl, J.kept (t' := s1.toks) (fun b o e => Heap.get?_push_of_some _ e), turn_list a _, ⟨_, Heap.get?_push_size _ rfl, rfl, rfl⟩, fp, q⟩
  · have ⟨its, rv, pl, hz⟩ := J.tuple hq
    apply wpAny_pyIter_tuple (show s1.heap.IsTuple a its.toArray from pl)
    exact ⟨_, _, _, _, H1, rfl, J.kept (t' := s1.toks) (fun b o e => Heap.get?_push_of_some _ e), turn_tuple a _, ⟨_, Heap.get?_push_size _ rfl, rfl, rfl⟩, fp, q⟩
theorem pi_imp {t u : TI} (h : PI X tg e t) (q : ∀ σ H R, u σ H R → t σ H R) : PI X tg e u := ⟨fun pins s σ H R I w => h.run pins s σ H R I (q _ _ _ w)⟩
theorem bi_seq (he : PE X e (bvE X.K Wx m)) : PI X tg e (bvI X.K Wx (mIter m)) := pi_imp (pi_seq he) iter_rel
end
/-! ranges -/
def intsW (lo : Int) (n : Nat) : List W := (List.range n).map fun k => .frz (.int (lo + (k : Nat)))
def R.int? (L : Lc) (r : R) : Option Int := match r with
  | .val (.frz (.int i)) => some i
  | _ => none
def mRange1 (m : M (List R)) : M (List W) := fun L => (m L).bind fun rs L1 => match rs with
  | [.val (.frz (.int j))] => if -(2 ^ 62) ≤ j ∧ j < 2 ^ 62 then .ok (intsW 0 j.toNat) L1 else .bad
  | _ => .bad
def mRange2 (m : M (List R)) : M (List W) := fun L => (m L).bind fun rs L1 => match rs with
  | [.val (.frz (.int i)), .val (.frz (.int j))] => if -(2 ^ 62) ≤ i ∧ i < 2 ^ 62 ∧ -(2 ^ 62) ≤ j ∧ j < 2 ^ 62 then .ok (intsW i (j - i).toNat) L1 else .bad
  | _ => .bad
theorem it_range {K : PySem.W.Frag} {F B : Hp} {lo : Int} {n : Nat} : ItOk K F B (Itr lo n) (intsW lo n) := by
  intro i F1 H1 as1 sF wf
  unfold intsW
  refine ⟨fun w ew => ?_, fun hi => by rw [List.length_map, List.length_range] at hi; exact Nat.le_of_eq hi.symm⟩
  rw [List.getElem?_map] at ew
  obtain ⟨k, ek, rfl⟩ := map_some ew
  obtain ⟨hk, e2⟩ := List.getElem?_eq_some_iff.mp ek
  rw [List.getElem_range] at e2
  subst e2
  rw [List.length_range] at hk
  refine ⟨hk, fun x H2 ⟨e2, ex⟩ => ?_⟩
  subst e2
  exact ⟨F1, [], Go.refl wf, fun _ _ _ h => h, ex, rfl⟩
section
variable {X : Cx} {Wx : WX} {tg a b : Expr} {m : M (List R)} {p pos : Pos}
theorem bi_range1 (hg : Gl X "range") (hm : X.mg "range" = none) (ha : PA X [a] (bvA X.K Wx m)) (hs : starEach [a] X.env = [(false, eval a X.env)] := by rfl) : PI X tg (.Call (.Name "range" p) [a] [] pos) (bvI X.K Wx (mRange1 m)) := by
  refine pi_imp (pi_range1 hg hm ha hs) fun σ H R ⟨F, B, L, as, wf, s, h⟩ => ?_
  refine ⟨F, B, L, as, wf, s, (End.bind h).imp fun rs L1 h1 vs F1 H1 asr as1 g1 s1 r1 => ?_⟩
  split at h1
  · rename_i j
    obtain ⟨hc, h2⟩ := of_ite h1
    obtain ⟨v, t, a1, a2, ev, ea, ⟨rv, _⟩, et, _⟩ := r1
    subst ev et
    exact ⟨j, by rw [show v = .int j from rv], hc.1, hc.2, h2 _ F1 H1 as1 (g1.sub (le_r _ _)) s1 it_range⟩
  · exact h1.elim
theorem bi_range2 (hg : Gl X "range") (hm : X.mg "range" = none) (ha : PA X [a, b] (bvA X.K Wx m)) (hs : starEach [a, b] X.env = [(false, eval a X.env), (false, eval b X.env)] := by rfl) (hs2 : starEach [b] X.env = [(false, eval b X.env)] := by rfl) :
    PI X tg (.Call (.Name "range" p) [a, b] [] pos) (bvI X.K Wx (mRange2 m)) := by
  refine pi_imp (pi_range2 hg hm ha hs hs2) fun σ H R ⟨F, B, L, as, wf, s, h⟩ => ?_
  refine ⟨F, B, L, as, wf, s, (End.bind h).imp fun rs L1 h1 vs F1 H1 asr as1 g1 s1 r1 => ?_⟩
  split at h1
  · rename_i i j
    obtain ⟨hc, h2⟩ := of_ite h1
    obtain ⟨v, t, a1, a2, ev, ea, ⟨rv, _⟩, u, t2, b1, b2, eu, eb, ⟨ru, _⟩, et, _⟩ := r1
    subst ev eu et
    exact ⟨i, j, by rw [show v = .int i from rv, show u = .int j from ru], hc, h2 _ F1 H1 as1 (g1.sub (le_r _ _)) s1 it_range⟩
  · exact h1.elim
end

/-! ### list comprehensions -/
def wipeL (L : Lc) : List Nat → Lc
  | [] => L
  | v :: vs => (wipeL L vs).set v none
/-- kp: what the element makes stays its own -/
def toW (kp : Bool) (r : R) : M W := fun L => match kp, r with
  | true, .val w => .ok w L
  | _, r => (toF r L).bind fun d L1 => .ok (.frz d) L1
def lcL (kp : Bool) (vs : List Nat) (g : MG) (mt : M Bool) (me : M R) : List W → Lc → List W → Option (List W × Lc)
  | [], L, acc => some (acc, L)
  | w :: ws, L, acc => match g (.val w) L with
    | .next L1 => match mt L1 with
      | .ok true L2 => match me L2 with
        | .ok r L3 => match toW kp r L3 with
          | .ok u L4 => if acc.length < sizeLine then lcL kp vs g mt me ws (wipeL L4 vs) (acc ++ [u]) else none
          | _ => none
        | _ => none
      | .ok false L2 => lcL kp vs g mt me ws (wipeL L2 vs) acc
      | _ => none
    | _ => none
/-- fl: the slots that are none of the block's own -/
def mLc (kp : Bool) (fl : List Bool) (vs : List Nat) (mi : M (List W)) (g : MG) (mt : M Bool) (me : M R) : M R := fun L => (mi L).bind fun ws L1 =>
  if L1.length = fl.length ∧ (List.range fl.length).all (fun j => decide (j ∈ vs) || fl[j]? == some true) = true then match lcL kp vs g mt me ws (wipeL L1 vs) [] with
    | some (acc, L2) => .ok (.val (.olst acc)) L2
    | none => .bad
  else .bad
def mYes : M Bool := fun L => .ok true L
section
variable {K : PySem.W.Frag} {F B H : Hp}
theorem srel_wipe : ∀ {vs : List Nat} {σ : L2.St} {L : Lc} {as : List Addr}, SRel K F B H σ L as → ∃ as', (∀ p, List.count p as' ≤ List.count p as) ∧ SRel K F B H (wipe σ vs) (wipeL L vs) as'
  | [], _, _, as, s => ⟨as, fun _ => Nat.le_refl _, s⟩
  | v :: vs, σ, L, as, s => by
    obtain ⟨as1, k1, s1⟩ := srel_wipe (vs := vs) s
    unfold wipe wipeL
    by_cases hv : v < (wipeL L vs).length
    · obtain ⟨s', pre, a1, post, h1, h2, ea, k⟩ := SRel.at s1 (List.getElem?_eq_getElem hv)
      subst ea
      refine ⟨pre ++ ([] ++ post), fun p => ?_, k F B H none none [] (Same.refl _) (Same.refl _) (fun _ _ _ z => z) rfl⟩
      have := k1 p
      simp only [List.count_append, List.count_nil] at this ⊢
      omega
    · have hl := s1.len
      refine ⟨as1, k1, ?_⟩
      rw [List.set_eq_of_length_le (show (wipe σ vs).length ≤ v by omega), List.set_eq_of_length_le (show (wipeL L vs).length ≤ v by omega)]
      exact s1
theorem wipeL_none {L : Lc} {j : Nat} : ∀ {vs : List Nat}, j ∈ vs → j < L.length → (wipeL L vs)[j]? = some none
  | [], h, _ => by cases h
  | v :: vs, h, hj => by
    have hlen : ∀ (L : Lc) (vs : List Nat), (wipeL L vs).length = L.length := by
      intro L vs
      induction vs with
      | nil => rfl
      | cons v vs ih => unfold wipeL; rw [List.length_set, ih]
    unfold wipeL
    by_cases e : v = j
    · subst e
      rw [List.getElem?_set_self (by rw [hlen]; exact hj)]
    · rw [List.getElem?_set_ne e]
      rcases List.mem_cons.mp h with z | z
      · exact absurd z.symm e
      · exact wipeL_none z hj
theorem wipeL_len (L : Lc) : ∀ vs, (wipeL L vs).length = L.length
  | [] => rfl
  | v :: vs => by unfold wipeL; rw [List.length_set, wipeL_len L vs]
theorem wipe_ne {σ : L2.St} {j : Nat} : ∀ {vs : List Nat}, j ∉ vs → (wipe σ vs)[j]? = σ[j]?
  | [], _ => rfl
  | v :: vs, h => by
    unfold wipe
    rw [List.getElem?_set_ne (fun e => h (by rw [e]; exact List.mem_cons_self ..))]
    exact wipe_ne fun z => h (List.mem_cons_of_mem _ z)
theorem wipe_in {σ : L2.St} {j : Nat} : ∀ {vs : List Nat}, j ∈ vs → j < σ.length → (wipe σ vs)[j]? = some none
  | [], h, _ => by cases h
  | v :: vs, h, hj => by
    unfold wipe
    by_cases e : v = j
    · subst e; rw [List.getElem?_set_self (by rw [wipe_length]; exact hj)]
    · rw [List.getElem?_set_ne e]
      rcases List.mem_cons.mp h with z | z
      · exact absurd z.symm e
      · exact wipe_in z hj
/-- other values where the reading knows nothing -/
theorem srel_other : ∀ {L : Lc} {σ σ' : L2.St} {as : List Addr}, SRel K F B H σ L as → σ'.length = σ.length → (∀ j : Nat, j < L.length → L[j]? = some none ∨ σ'[j]? = σ[j]?) → SRel K F B H σ' L as
  | [], σ, σ', as, ⟨e1, e2⟩, hl, _ => by
    subst e1 e2
    cases σ' with
    | nil => exact ⟨rfl, rfl⟩
    | cons _ _ => cases hl
  | o :: L, σ, σ', as, ⟨s, r, a1, a2, e1, ea, h, t⟩, hl, hj => by
    subst e1 ea
    cases σ' with
    | nil => cases hl
    | cons s' r' =>
      refine ⟨s', r', a1, a2, rfl, rfl, ?_, srel_other t (Nat.succ.inj hl) fun j hlt => hj (j + 1) (Nat.succ_lt_succ hlt)⟩
      rcases hj 0 (Nat.succ_pos _) with z | z
      · cases z; exact h
      · have : s' = s := by simpa using z
        rw [this]; exact h
theorem RepWs.snoc {ws : List W} {vs : List V} {as bs : List Addr} {w : W} {v : V} (h : RepWs K F B H ws vs as) (q : RepW K F B H w v bs) : RepWs K F B H (ws ++ [w]) (vs ++ [v]) (as ++ bs) := by
  induction ws generalizing vs as with
  | nil =>
    obtain ⟨rfl, rfl⟩ := h
    exact ⟨v, [], bs, [], rfl, by simp, q, rfl, rfl⟩
  | cons u ws ih =>
    obtain ⟨x, r, a1, a2, rfl, rfl, h1, t⟩ := h
    exact ⟨x, r ++ [v], a1, a2 ++ bs, rfl, by rw [List.append_assoc], h1, ih t⟩
end
theorem toW_ok {K : PySem.W.Frag} {kp : Bool} {F B H : Hp} {as asr : List Addr} {σ : L2.St} {L L' : Lc} {r : R} {v : V} {u : W} (wf : WF F B H (asr ++ as)) (s : SRel K F B H σ L as) (rr : RepR K F B H σ r v asr) (e : toW kp r L = .ok u L') :
    ∃ F' bs as', Go F B H (asr ++ as) F' H (bs ++ as') ∧ SRel K F' B H σ L' as' ∧ RepW K F' B H u v bs := by
  unfold toW at e
  split at e
  · cases e
    exact ⟨F, asr, as, Go.refl wf, s, rr⟩
  · obtain ⟨d, L1, e1, e2⟩ := bind_ok e
    cases e2
    obtain ⟨F', as', g, s', q⟩ := toF_ok wf s rr e1
    exact ⟨F', [], as', g, s', q, rfl⟩
theorem end_opt {K : PySem.W.Frag} {Wx : WX} {F B H : Hp} {as : List Addr} {σ : L2.St} {p : R → Lc → Prop} {o : Option (List W × Lc)} (h : End K Wx F B H as σ p (match o with
    | some (acc, L2) => .ok (.val (.olst acc)) L2
    | none => .bad)) : ∃ acc L2, o = some (acc, L2) ∧ p (.val (.olst acc)) L2 := by
  cases o with
  | none => exact h.elim
  | some q => exact ⟨q.1, q.2, rfl, h⟩
abbrev W0 : WX := fun _ _ _ _ => False
theorem lc_rel {K : PySem.W.Frag} {Wx : WX} {kp : Bool} {fl : List Bool} {vs : List Nat} {mi : M (List W)} {g : MG} {mt : M Bool} {me : M R} : ∀ σ H Q, bvE K Wx (mLc kp fl vs mi g mt me) σ H Q → tLc (bvI K Wx mi) (bvG K fl g) (bvT K W0 mt) (bvE K W0 me) vs σ H Q := fun σ H Q ⟨F, B, L, as, wf, s, h⟩ => by
  refine ⟨F, B, L, as, wf, s, (End.bind h).imp fun ws L1 h1 J F1 H1 as1 g1 s1 ij A nA => ?_⟩
  by_cases hc : L1.length = fl.length ∧ (List.range fl.length).all (fun j => decide (j ∈ vs) || fl[j]? == some true) = true
  · rw [if_pos hc] at h1
    obtain ⟨acc, L2, el, hQ⟩ := end_opt h1
    obtain ⟨hlen, hfl⟩ := hc
    have hpin : ∀ j : Nat, j < fl.length → j ∉ vs → fl[j]? = some true := fun j hj hn => by
      have := List.all_eq_true.mp hfl j (List.mem_range.mpr hj)
      rcases Bool.or_eq_true _ _ ▸ this with z | z
      · exact absurd (of_decide_eq_true z) hn
      · exact beq_iff_eq.mp z
    have hσ := s1.len
    obtain ⟨as2, k2, s2⟩ := srel_wipe (vs := vs) s1
    have gA := Go.alloc g1.wf nA (.lst [])
    have s2' := SRel.frame (H' := upd H1 A (.lst [])) (Same.refl F1) (Same.refl B) (fun q _ o e => by rw [upd_ne (fun z => by rw [z, nA] at e; cases e)]; exact e) s2
    refine ⟨fun i m H' => m = ws.length - i ∧ i ≤ ws.length ∧ ∃ F2 L2' as2 acc' xs bs, Go F B H as F2 H' ((A :: bs) ++ as2) ∧ Same F1 F2 ∧ SRel K F2 B H' (wipe σ vs) L2' as2 ∧ (∀ j : Nat, j ∈ vs → j < L2'.length → L2'[j]? = some none) ∧ H' A = some (.lst xs) ∧ RepWs K F2 B H' acc' xs bs ∧ lcL kp vs g mt me (ws.drop i) L2' acc' = some (acc, L2),
      ⟨ws.length, by omega, Nat.zero_le _, F1, wipeL L1 vs, as2, [], [], [], (g1.trans gA).sub fun p => by have := k2 p; simp only [List.cons_append, List.nil_append, List.count_cons]; omega, Same.refl _, s2', fun j hj hlt => wipeL_none hj (by rw [wipeL_len] at hlt; exact hlt), upd_same, ⟨rfl, rfl⟩, el⟩, ?_⟩
    rintro i m H' ⟨rfl, hi, F2, L2', as2, acc', xs, bs, g2, sF, s2, hno, eA, ra, el⟩
    have wf2 := g2.wf
    obtain ⟨it1, it2⟩ := ij i F2 H' _ sF wf2
    cases ei : ws[i]? with
    | none =>
      have hl : ws.length ≤ i := List.getElem?_eq_none_iff.mp ei
      rw [List.drop_eq_nil_of_le hl] at el
      have el' : some (acc', L2') = some (acc, L2) := el
      cases el'
      refine .inl ⟨it2 (by omega), ?_⟩
      have s3 : SRel K F2 B H' σ L2 as2 := srel_other s2 (by rw [wipe_length]) fun j hj => by
        by_cases z : j ∈ vs
        · exact .inl (hno j z hj)
        · exact .inr (wipe_ne z).symm
      exact hQ (.ref A) F2 H' (A :: bs) as2 g2 s3 ⟨A, xs, bs, rfl, eA, rfl, ra⟩
    | some w =>
      have hlt : i < ws.length := (List.getElem?_eq_some_iff.mp ei).1
      obtain ⟨go, yl⟩ := it1 w ei
      rw [drop_cons ei] at el
      unfold lcL at el
      refine .inr ⟨go, fun H3 => ∃ F3 L3 as3 acc3 xs3 bs3, Go F B H as F3 H3 ((A :: bs3) ++ as3) ∧ Same F1 F3 ∧ SRel K F3 B H3 (wipe σ vs) L3 as3 ∧ (∀ j : Nat, j ∈ vs → j < L3.length → L3[j]? = some none) ∧ H3 A = some (.lst xs3) ∧ RepWs K F3 B H3 acc3 xs3 bs3 ∧ lcL kp vs g mt me (ws.drop (i + 1)) L3 acc3 = some (acc, L2),
        fun H3 ⟨F3, L3, as3, acc3, xs3, bs3, q⟩ => ⟨_, by omega, rfl, hlt, F3, L3, as3, acc3, xs3, bs3, q⟩, fun x H3 hy => ?_⟩
      obtain ⟨F3, asx, g3, k3, r3⟩ := yl x H3 hy
      have s3 : SRel K F3 B H3 (wipe σ vs) L2' as2 := SRel.frame g3.ext (Same.refl _) k3.r s2
      have ra3 : RepWs K F3 B H3 acc' xs bs := RepWs.frame g3.ext (Same.refl _) k3.l.t ra
      have eA3 : H3 A = some (.lst xs) := k3.l.h eA
      cases eg : g (.val w) L2' with
      | next L3 =>
        rw [eg] at el
        dsimp only at el
        refine ⟨F3, B, L2', as2, asx, .val w, g3.wf.sub (fun p => by simp only [List.cons_append, List.count_append, List.count_cons]; omega), s3, r3, ?_⟩
        rw [eg]
        intro σ4 F4 H4 as4 g4 s4 p4
        have wf3 : WF F3 B H3 ((A :: bs) ++ (asx ++ as2)) := g3.wf.sub fun p => by simp only [List.cons_append, List.count_append, List.count_cons]; omega
        have fr4 := (g4.frame wf3).sup (as2 := asx ++ ((A :: bs) ++ as2)) fun p => by simp only [List.cons_append, List.count_append, List.count_cons]; omega
        have kf4 := g4.kept wf3
        have hwl : wipe σ4 vs = wipe σ vs := by
          apply List.ext_getElem?
          intro j
          have l4 : σ4.length = σ.length := by rw [p4.1, wipe_length]
          by_cases z : j ∈ vs
          · by_cases hj : j < σ.length
            · rw [wipe_in z (by omega), wipe_in z hj]
            · rw [List.getElem?_eq_none (by rw [wipe_length]; omega), List.getElem?_eq_none (by rw [wipe_length]; omega)]
          · rw [wipe_ne z, wipe_ne z]
            by_cases hj : j < fl.length
            · rw [p4.2 j (hpin j hj z), wipe_ne z]
            · rw [List.getElem?_eq_none (by omega), List.getElem?_eq_none (by omega)]
        refine ⟨hwl, F4, B, L3, as4, g4.wf, s4, ?_⟩
        have g34 : Go F B H as F4 H4 ((A :: bs) ++ as4) := (g2.trans g3).trans fr4
        have ra4 : RepWs K F4 B H4 acc' xs bs := RepWs.frame g4.ext (Same.refl _) kf4.t ra3
        have eA4 : H4 A = some (.lst xs) := kf4.h eA3
        have sF4 : Same F1 F4 := (sF.trans g3.ext).trans g4.ext
        -- the next turn
        have next : ∀ {F5 H5 : Hp} {as5 bs5 : List Addr} {L5 : Lc} {acc5 : List W} {xs5 : List V}, Go F B H as F5 H5 ((A :: bs5) ++ as5) → Same F1 F5 → SRel K F5 B H5 σ4 L5 as5 → H5 A = some (.lst xs5) → RepWs K F5 B H5 acc5 xs5 bs5 →
            lcL kp vs g mt me (ws.drop (i + 1)) (wipeL L5 vs) acc5 = some (acc, L2) → ∃ F3 L3 as3 acc3 xs3 bs3, Go F B H as F3 H5 ((A :: bs3) ++ as3) ∧ Same F1 F3 ∧ SRel K F3 B H5 (wipe σ vs) L3 as3 ∧ (∀ j : Nat, j ∈ vs → j < L3.length → L3[j]? = some none) ∧ H5 A = some (.lst xs3) ∧ RepWs K F3 B H5 acc3 xs3 bs3 ∧ lcL kp vs g mt me (ws.drop (i + 1)) L3 acc3 = some (acc, L2) := by
          intro F5 H5 as5 bs5 L5 acc5 xs5 g5 sF5 s5 e5 r5 el5
          obtain ⟨as6, k6, s6⟩ := srel_wipe (vs := vs) s5
          rw [hwl] at s6
          exact ⟨F5, wipeL L5 vs, as6, acc5, xs5, bs5, g5.sub fun p => by have := k6 p; simp only [List.count_append]; omega, sF5, s6, fun j hj hlt => wipeL_none hj (by rw [wipeL_len] at hlt; exact hlt), e5, r5, el5⟩
        cases et : mt L3 with
        | bad => rw [et] at el; cases el
        | exc y L4 => rw [et] at el; cases el
        | ok k L4 =>
          rw [et] at el
          intro F5 H5 as5 g5 s5
          have g4f := g5.frame fr4.wf
          have k4f := g5.kept fr4.wf
          have g35 := g34.trans g4f
          have ra5 : RepWs K F5 B H5 acc' xs bs := RepWs.frame g5.ext (Same.refl _) k4f.t ra4
          have eA5 : H5 A = some (.lst xs) := k4f.h eA4
          cases k with
          | false => exact iteF (next g35 (sF4.trans g5.ext) s5 eA5 ra5 el)
          | true =>
            dsimp only at el
            refine iteT ⟨F5, B, L4, as5, g5.wf, s5, ?_⟩
            cases em : me L4 with
            | bad => rw [em] at el; cases el
            | exc y L5 => rw [em] at el; cases el
            | ok r L5 =>
              rw [em] at el
              dsimp only at el
              intro yv F6 H6 asr as6 g6 s6 r6
              have g5f := g6.frame g4f.wf
              have k5f := g6.kept g4f.wf
              have g36 := g35.trans g5f
              have ra6 : RepWs K F6 B H6 acc' xs bs := RepWs.frame g6.ext (Same.refl _) k5f.t ra5
              have eA6 : H6 A = some (.lst xs) := k5f.h eA5
              cases ew : toW kp r L5 with
              | bad => rw [ew] at el; cases el
              | exc y L6 => rw [ew] at el; cases el
              | ok u L6 =>
                rw [ew] at el
                dsimp only at el
                split at el
                · rename_i hsz
                  obtain ⟨F7, bs7, as7, g7, s7, r7⟩ := toW_ok g6.wf s6 r6 ew
                  have g6f := g7.frame g5f.wf
                  have k6f := g7.kept g5f.wf
                  have g37 := g36.trans g6f
                  have ra7 : RepWs K F7 B H6 acc' xs bs := RepWs.frame g7.ext (Same.refl _) k6f.t ra6
                  have hA : In A ((A :: bs) ++ (bs7 ++ as7)) := in_h
                  have gW := Go.write g37.wf hA (.lst (xs ++ [yv]))
                  have nA7 : ∀ (l : List Addr), (∀ p, List.count p (A :: l) ≤ List.count p ((A :: bs) ++ (bs7 ++ as7))) → Kept l H6 (upd H6 A (.lst (xs ++ [yv]))) := fun l hl p ip o e => by
                    have h1 := g37.wf.nd p
                    have h2 := hl p
                    rw [upd_ne (fun z => by
                      subst z
                      rw [List.count_cons_self] at h2
                      have ip' : 0 < List.count p l := ip
                      omega)]
                    exact e
                  refine ⟨xs, eA6, by rw [ra7.len]; exact hsz, next (bs5 := bs ++ bs7) (as5 := as7) ((g37.trans gW).sub fun p => by simp only [List.cons_append, List.count_append, List.count_cons]; omega) (((sF4.trans g5.ext).trans g6.ext).trans g7.ext) (SRel.frame (Same.refl _) (Same.refl _) (nA7 as7 fun p => by simp only [List.cons_append, List.count_append, List.count_cons]; omega) s7) upd_same
                    (RepWs.snoc (RepWs.frame (Same.refl _) (Same.refl _) (nA7 bs fun p => by simp only [List.cons_append, List.count_append, List.count_cons]; omega) ra7) (RepW.frame (Same.refl _) (Same.refl _) (nA7 bs7 fun p => by simp only [List.cons_append, List.count_append, List.count_cons]; omega) r7)) el⟩
                · cases el
      | _ => rw [eg] at el; cases el
  · rw [if_neg hc] at h1
    exact h1.elim
end BV

namespace BV
open PySem PySem.Spec PyProof.Rows L2

/-! ### zip and enumerate over lists, tuples, texts -/
inductive Od where
  | lst (a : Addr) | tup (a : Addr) | str (x : Str)
def Od.val : Od → V
  | .lst a => .ref a
  | .tup a => .ref a
  | .str x => .str x
section
variable (K : PySem.W.Frag) (H : Hp)
def Od.len (n : Nat) : Od → Prop
  | .lst a => ∃ xs, SqL K H a xs ∧ xs.length = n
  | .tup a => ∃ xs, SqT K H a xs ∧ xs.length = n
  | .str x => x.cps.size = n
def Od.only (i : Nat) (v : V) : Od → Prop
  | .lst a => ∀ xs, SqL K H a xs → xs[i]? = some v
  | .tup a => ∀ xs, SqT K H a xs → xs[i]? = some v
  | .str x => ∃ c, x.cps[i]? = some c ∧ v = .str ⟨#[c]⟩
end
def Od.st (it : Addr) (i : Nat) (h : Heap) : Od → Prop
  | .lst a => h.IsListIter it a i
  | .tup a => h.IsTupleIter it a i
  | .str x => ∃ t, h.IsStrIter it (strIterType x) x t i
section
variable {X : Cx} {pins : List (Addr × Obj)} {σ : L2.St} {H : Hp} {s : Shared}
theorem base_ne (I : Inv X pins σ H s) {a b : Addr} {o : Obj} (hk : X.K.lookup a = some o) (f : FpOk X pins H b) : a ≠ b := fun e => by
  subst e
  obtain ⟨_, _, _, f3, _, _⟩ := f
  have hb := I.ok.mod.kin a o hk
  rcases f3 with z | z
  · exact I.ok.noex a o hb z
  · exact absurd (Heap.lt_size (I.ok.bs a o hb).1) (Nat.not_lt.mpr z)
theorem sqL_ne (I : Inv X pins σ H s) {a b : Addr} {xs : List V} (q : SqL X.K H a xs) (f : FpOk X pins H b) : a ≠ b := by
  rcases q with (q | ⟨o, q⟩) | ⟨o, its, n, hk, _⟩
  · exact ne_of_none q f.1
  · exact ne_of_none q f.1
  · exact base_ne I hk f
theorem sqT_ne (I : Inv X pins σ H s) {a b : Addr} {xs : List V} (q : SqT X.K H a xs) (f : FpOk X pins H b) : a ≠ b := by
  rcases q with (q | ⟨o, q⟩) | ⟨o, its, n, hk, _⟩
  · exact ne_of_none q f.1
  · exact ne_of_none q f.1
  · exact base_ne I hk f
structure OdDraws (X : Cx) (pins : List (Addr × Obj)) (H : Hp) (h : Heap) (o : Od) (it : Addr) (n j : Nat) (fp : List Addr) (P : Nat → Value → Prop) (St : Nat → Heap → Prop) : Prop where
  mem : it ∈ fp
  apart : ∀ b ∈ fp, b = it ∨ ∀ c, FpOk X pins H c → b ≠ c
  draws : Draws X.prog X.w X.A.in1 it fp n P St
  now : St j h
  st : ∀ j h, St j h → o.st it j h
  val : ∀ i v, P i v → ∃ x, RelV x v ∧ o.only X.K H i x
theorem od_draws (I : Inv X pins σ H s) (hc : X.calm = true) {o : Od} {it : Addr} {n j : Nat} (hf : FpOk X pins H it) (hl : o.len X.K H n) (hs : o.st it j s.heap) : ∃ fp P St, OdDraws X pins H s.heap o it n j fp P St := by
  have hh : X.A.in1.handled = none := I.ok.hd hc
  cases o with
  | lst a =>
    obtain ⟨xs, q, hn⟩ := hl
    obtain ⟨its, rv, pl, _⟩ := I.list q
    have ne : a ≠ it := sqL_ne I q hf
    refine ⟨[it, a], fun i v => its.toArray[i]? = some v, fun i h => h.IsListIter it a i ∧ h.IsList a its.toArray, List.mem_cons_self .., fun b hb => ?_, by have D := Draws.list (prog := X.prog) (w := X.w) hh it a ne its.toArray; rw [List.size_toArray, ← rv.length, hn] at D; exact D, ⟨hs, pl.isList⟩, fun j h z => z.1, fun i v hv => ?_⟩
    · rcases List.mem_cons.mp hb with z | z
      · exact .inl z
      · rw [List.mem_singleton.mp z]; exact .inr fun c fc => sqL_ne I q fc
    · have hi : i < xs.length := by
        rw [rv.length]
        have := (Array.getElem?_eq_some_iff.mp hv).1
        simpa using this
      obtain ⟨u, hu, ru⟩ := rv.get (List.getElem?_eq_getElem hi)
      have : u = v := by
        have h2 : its[i]? = some v := by simpa using hv
        rw [hu] at h2
        exact Option.some.inj h2
      subst this
      exact ⟨_, ru, fun ys hy => by rw [I.list_inj hy q]; exact List.getElem?_eq_getElem hi⟩
  | tup a =>
    obtain ⟨xs, q, hn⟩ := hl
    obtain ⟨its, rv, pl, _⟩ := I.tuple q
    have ne : a ≠ it := sqT_ne I q hf
    refine ⟨[it, a], fun i v => its.toArray[i]? = some v, fun i h => h.IsTupleIter it a i ∧ h.IsTuple a its.toArray, List.mem_cons_self .., fun b hb => ?_, by have D := Draws.tuple (prog := X.prog) (w := X.w) hh it a ne its.toArray; rw [List.size_toArray, ← rv.length, hn] at D; exact D, ⟨hs, (show s.heap.IsTuple a its.toArray from pl)⟩, fun j h z => z.1, fun i v hv => ?_⟩
    · rcases List.mem_cons.mp hb with z | z
      · exact .inl z
      · rw [List.mem_singleton.mp z]; exact .inr fun c fc => sqT_ne I q fc
    · have hi : i < xs.length := by
        rw [rv.length]
        have := (Array.getElem?_eq_some_iff.mp hv).1
        simpa using this
      obtain ⟨u, hu, ru⟩ := rv.get (List.getElem?_eq_getElem hi)
      have : u = v := by
        have h2 : its[i]? = some v := by simpa using hv
        rw [hu] at h2
        exact Option.some.inj h2
      subst this
      exact ⟨_, ru, fun ys hy => by rw [I.tuple_inj hy q]; exact List.getElem?_eq_getElem hi⟩
  | str x =>
    obtain ⟨t, ht⟩ := hs
    have hn : x.cps.size = n := hl
    subst hn
    exact ⟨[it], fun i v => ∃ c u, x.cps[i]? = some c ∧ v = .str ⟨#[c]⟩ u, fun i h => h.IsStrIter it (strIterType x) x t i, List.mem_cons_self .., fun b hb => .inl (List.mem_singleton.mp hb), Draws.text hh it x t, ht, fun j h z => ⟨t, z⟩, fun i v ⟨c, u, hc, ev⟩ => ⟨.str ⟨#[c]⟩, ⟨u, ev⟩, c, hc, rfl⟩⟩
end
/-- the turns of zip -/
def ItZ (K : PySem.W.Frag) (o1 o2 : Od) : It :=
  ⟨fun i H => ∃ n1 n2, o1.len K H n1 ∧ o2.len K H n2 ∧ i < n1 ∧ i < n2, fun i H v H' => ∃ T x y, v = .ref T ∧ H T = none ∧ H' = upd H T (.tup [x, y]) ∧ o1.only K H i x ∧ o2.only K H i y, fun i H => ∃ n1 n2, o1.len K H n1 ∧ o2.len K H n2 ∧ i = min n1 n2⟩
/-- of enumerate -/
def ItE (K : PySem.W.Frag) (o : Od) : It :=
  ⟨fun i H => ∃ n, o.len K H n ∧ i < n, fun i H v H' => ∃ T x, v = .ref T ∧ H T = none ∧ H' = upd H T (.tup [.int (i : Nat), x]) ∧ o.only K H i x, fun i H => ∃ n, o.len K H n ∧ i = n⟩
theorem size_two : 2 ≤ sizeLine := by decide
theorem turn_z {P : Program} {w : World} {K : PySem.W.Frag} {elts : List Expr} {kk : Nat} {tpos : Pos} {o1 o2 : Od} {z TI TO i1 i2 : Addr} (hd : [z, TI, TO, i1, i2].Nodup) :
    Turn P w K (.Tuple elts kk tpos) (ItZ K o1 o2) [z, TI, TO, i1, i2] z (fun i h => IsZip h z TI TO .none ∧ IsTupOf2 h TI (.ref i1) (.ref i2) ∧ (∃ x y, IsTupOf2 h TO x y) ∧ o1.st i1 i h ∧ o2.st i2 i h) := by
  have sep : ∀ {X : Cx} {pins : List (Addr × Obj)} {H : Hp} {h : Heap} {n1 n2 j1 j2 : Nat} {fp1 fp2 : List Addr} {P1 P2 : Nat → Value → Prop} {S1 S2 : Nat → Heap → Prop}, (∀ b ∈ [z, TI, TO, i1, i2], FpOk X pins H b) → OdDraws X pins H h o1 i1 n1 j1 fp1 P1 S1 → OdDraws X pins H h o2 i2 n2 j2 fp2 P2 S2 → ZipSep2 z TI TO i1 i2 fp1 fp2 := by
    intro X pins H h n1 n2 j1 j2 fp1 fp2 P1 P2 S1 S2 hf D1 D2
    simp only [List.nodup_cons, List.mem_cons, List.not_mem_nil, or_false, not_or] at hd
    have nin : ∀ {fp : List Addr} {it c : Addr}, (∀ b ∈ fp, b = it ∨ ∀ c, FpOk X pins H c → b ≠ c) → c ≠ it → FpOk X pins H c → c ∉ fp := fun a ne f hm => by
      rcases a _ hm with e | e
      · exact ne e
      · exact e _ f rfl
    exact ⟨Ne.symm hd.1.1, Ne.symm hd.1.2.1, hd.2.1.1, hd.2.1.2.1, D1.mem, nin D1.apart hd.1.2.2.1 (hf _ (by simp)), nin D1.apart hd.2.2.1.1 (hf _ (by simp)), hd.2.1.2.2, D2.mem, nin D2.apart hd.1.2.2.2 (hf _ (by simp)), nin D2.apart hd.2.2.1.2 (hf _ (by simp)),
      nin D2.apart hd.2.2.2.1 (hf _ (by simp)), nin D1.apart (Ne.symm hd.2.2.2.1) (hf _ (by simp))⟩
  have live : ∀ {o : Od} {it : Addr} {i : Nat} {h : Heap}, o.st it i h → ∃ ob, h.get? it = some ob ∧ ∀ v, ob.data ≠ .cell v := by
    intro o it i h st
    cases o with
    | lst a => obtain ⟨ob, e, c, d⟩ := st; exact ⟨ob, e, fun v q => by rw [d] at q; cases q⟩
    | tup a => obtain ⟨ob, e, c, d⟩ := st; exact ⟨ob, e, fun v q => by rw [d] at q; cases q⟩
    | str x => obtain ⟨t, ob, e, c, d⟩ := st; exact ⟨ob, e, fun v q => by rw [d] at q; cases q⟩
  have stay : ∀ {o : Od} {it : Addr} {i : Nat} {h h' : Heap}, o.st it i h → (∀ ob, h.get? it = some ob → h'.get? it = some ob) → o.st it i h' := by
    intro o it i h h' st k
    cases o with
    | lst a => exact st.at k
    | tup a => exact st.at k
    | str x => obtain ⟨t, ob, e, c, d⟩ := st; exact ⟨t, ob, k ob e, c, d⟩
  constructor
  · simp
  · rintro i h ⟨hz, hTI, ⟨x, y, hTO⟩, h1, h2⟩ b hb
    have e' : b = z ∨ b = TI ∨ b = TO ∨ b = i1 ∨ b = i2 := by simpa using hb
    rcases e' with q | q | q | q | q <;> subst q
    · exact ⟨_, hz, fun v q => nomatch q⟩
    · exact ⟨_, hTI, fun v q => nomatch q⟩
    · exact ⟨_, hTO, fun v q => nomatch q⟩
    · exact live h1
    · exact live h2
  · rintro i h h' ⟨hz, hTI, ⟨x, y, hTO⟩, h1, h2⟩ k
    exact ⟨k z (by simp) _ hz, k TI (by simp) _ hTI, ⟨x, y, k TO (by simp) _ hTO⟩, stay h1 (k i1 (by simp)), stay h2 (k i2 (by simp))⟩
  · rintro X rfl rfl rfl hc i pins s σ H E I hf ⟨hz, hTI, hTO, h1, h2⟩ ⟨n1, n2, l1, l2, q1, q2⟩
    obtain ⟨fp1, P1, S1, D1⟩ := od_draws I hc (hf i1 (by simp)) l1 h1
    obtain ⟨fp2, P2, S2, D2⟩ := od_draws I hc (hf i2 (by simp)) l2 h2
    have G := GoesN.zip2 (elts := elts) (x1 := kk) (pos := tpos) (sep hf D1 D2) D1.draws D2.draws
    refine G.goes i s _ E (by omega) ⟨hz, hTI, hTO, D1.now, D2.now⟩ ?_
    rintro v h' tk ⟨T, u1, u2, rfl, hT, p1, p2, iT⟩ ⟨hz', hTI', hTO', st1, st2⟩ hk htk
    obtain ⟨x, rx, ox⟩ := D1.val i u1 p1
    obtain ⟨y, ry, oy⟩ := D2.val i u2 p2
    have new : ObjOk X.prog X.w (upd H T (.tup [x, y])) h' T (.tup [x, y]) := ⟨size_two, [u1, u2], .cons rx (.cons ry .nil), iT⟩
    have J : Inv X pins σ (upd H T (.tup [x, y])) { s with heap := h', toks := tk } := I.turnedNew (t' := tk) (ch := [z, TI, TO, i1, i2]) (fun c o hb q => hk c o (fun hm => hb (by
      have e' : c = z ∨ c = TO ∨ c = i1 ∨ c = i2 := by simpa using hm
      rcases e' with q | q | q | q <;> simp [q])) q) hf hT new
    have nT : H T = none := I.hok.fresh hT
    refine ⟨.ref T, _, J, rfl, ⟨T, x, y, rfl, nT, rfl, ox, oy⟩, ⟨hz', hTI', hTO', D1.st _ _ st1, D2.st _ _ st2⟩, fun b hb => ?_⟩
    rw [upd_ne]
    · exact (hf b hb).1
    · rintro rfl
      have lt : b < s.heap.objs.size := by
        have e' : b = z ∨ b = TI ∨ b = TO ∨ b = i1 ∨ b = i2 := by simpa using hb
        rcases e' with q | q | q | q | q <;> subst q
        · exact Heap.lt_size hz
        · exact Heap.lt_size hTI
        · obtain ⟨_, _, hTO⟩ := hTO; exact Heap.lt_size hTO
        · obtain ⟨_, e, _⟩ := live h1; exact Heap.lt_size e
        · obtain ⟨_, e, _⟩ := live h2; exact Heap.lt_size e
      exact absurd hT (Nat.not_le.mpr lt)
  · rintro X rfl rfl rfl hc i pins s σ H E I hf ⟨hz, hTI, hTO, h1, h2⟩ ⟨n1, n2, l1, l2, rfl⟩
    obtain ⟨fp1, P1, S1, D1⟩ := od_draws I hc (hf i1 (by simp)) l1 h1
    obtain ⟨fp2, P2, S2, D2⟩ := od_draws I hc (hf i2 (by simp)) l2 h2
    have G := GoesN.zip2 (elts := elts) (x1 := kk) (pos := tpos) (sep hf D1 D2) D1.draws D2.draws
    refine thn (G.stops s (fun s1 => Inv X pins σ H s1) E ⟨hz, hTI, hTO, D1.now, D2.now⟩ fun h' tk hk htk => I.turnedL (t' := tk) (ch := [z, TI, TO, i1, i2]) (fun c o hb q => hk c o (fun hm => hb (by
      have e' : c = z ∨ c = TO ∨ c = i1 ∨ c = i2 := by simpa using hm
      rcases e' with q | q | q | q <;> simp [q])) q) hf) fun r s1 q => q
  · rintro A i s Q E ⟨hz, _⟩ h
    exact wpAny_pyIter_zip hz h
theorem turn_e {P : Program} {w : World} {K : PySem.W.Frag} {elts : List Expr} {kk : Nat} {tpos : Pos} {o : Od} {e it : Addr} (hd : e ≠ it) :
    Turn P w K (.Tuple elts kk tpos) (ItE K o) [e, it] e (fun i h => (∃ old, IsEnum h e it (0 + (i : Int)) old) ∧ o.st it i h) := by
  have live : ∀ {i : Nat} {h : Heap}, o.st it i h → ∃ ob, h.get? it = some ob ∧ ∀ v, ob.data ≠ .cell v := by
    intro i h st
    cases o with
    | lst a => obtain ⟨ob, e, c, d⟩ := st; exact ⟨ob, e, fun v q => by rw [d] at q; cases q⟩
    | tup a => obtain ⟨ob, e, c, d⟩ := st; exact ⟨ob, e, fun v q => by rw [d] at q; cases q⟩
    | str x => obtain ⟨t, ob, e, c, d⟩ := st; exact ⟨ob, e, fun v q => by rw [d] at q; cases q⟩
  have stay : ∀ {i : Nat} {h h' : Heap}, o.st it i h → (∀ ob, h.get? it = some ob → h'.get? it = some ob) → o.st it i h' := by
    intro i h h' st k
    cases o with
    | lst a => exact st.at k
    | tup a => exact st.at k
    | str x => obtain ⟨t, ob, e, c, d⟩ := st; exact ⟨t, ob, k ob e, c, d⟩
  have nin : ∀ {X : Cx} {pins : List (Addr × Obj)} {H : Hp} {h : Heap} {n j : Nat} {fp : List Addr} {P1 : Nat → Value → Prop} {S1 : Nat → Heap → Prop}, FpOk X pins H e → OdDraws X pins H h o it n j fp P1 S1 → e ∉ fp := fun f D hm => by
    rcases D.apart _ hm with q | q
    · exact hd q
    · exact q _ f rfl
  constructor
  · simp
  · rintro i h ⟨⟨old, he⟩, h1⟩ b hb
    have e' : b = e ∨ b = it := by simpa using hb
    rcases e' with q | q <;> subst q
    · exact ⟨_, he, fun v q => nomatch q⟩
    · exact live h1
  · rintro i h h' ⟨⟨old, he⟩, h1⟩ k
    exact ⟨⟨old, k e (by simp) _ he⟩, stay h1 (k it (by simp))⟩
  · rintro X rfl rfl rfl hc i pins s σ H E I hf ⟨he, h1⟩ ⟨n, l1, q1⟩
    obtain ⟨fp, P1, S1, D⟩ := od_draws I hc (hf it (by simp)) l1 h1
    have G := GoesN.enumFrom (elts := elts) (x1 := kk) (pos := tpos) 0 D.draws e hd (nin (hf e (by simp)) D) D.mem
    refine G.goes i s _ E q1 ⟨he, D.now⟩ ?_
    rintro v h' tk ⟨T, t, u, rfl, hT, p1, iT⟩ ⟨he', st1⟩ hk htk
    obtain ⟨x, rx, ox⟩ := D.val i u p1
    have new : ObjOk X.prog X.w (upd H T (.tup [.int (i : Nat), x])) h' T (.tup [.int (i : Nat), x]) := ⟨size_two, [.int (0 + (i : Nat)) t, u], .cons ⟨t, by rw [Int.zero_add]⟩ (.cons rx .nil), iT⟩
    have J : Inv X pins σ (upd H T (.tup [.int (i : Nat), x])) { s with heap := h', toks := tk } := I.turnedNew (t' := tk) (ch := [e, it]) (fun c o hb q => hk c o hb q) hf hT new
    have nT : H T = none := I.hok.fresh hT
    refine ⟨.ref T, _, J, rfl, ⟨T, x, rfl, nT, rfl, ox⟩, ⟨by have := he'; exact this, D.st _ _ st1⟩, fun b hb => ?_⟩
    rw [upd_ne]
    · exact (hf b hb).1
    · rintro rfl
      have lt : b < s.heap.objs.size := by
        have e' : b = e ∨ b = it := by simpa using hb
        rcases e' with q | q <;> subst q
        · obtain ⟨_, he⟩ := he; exact Heap.lt_size he
        · obtain ⟨_, q, _⟩ := live h1; exact Heap.lt_size q
      exact absurd hT (Nat.not_le.mpr lt)
  · rintro X rfl rfl rfl hc i pins s σ H E I hf ⟨he, h1⟩ ⟨n, l1, rfl⟩
    obtain ⟨fp, P1, S1, D⟩ := od_draws I hc (hf it (by simp)) l1 h1
    have G := GoesN.enumFrom (elts := elts) (x1 := kk) (pos := tpos) 0 D.draws e hd (nin (hf e (by simp)) D) D.mem
    exact thn (G.stops s (fun s1 => Inv X pins σ H s1) E ⟨he, D.now⟩ fun h' tk hk htk => I.turnedL (t' := tk) (ch := [e, it]) (fun c o hb q => hk c o hb q) hf) fun r s1 q => q
  · rintro A i s Q E ⟨⟨old, he⟩, _⟩ h
    exact wpAny_pyIter_enum he h
/-! ### how they begin -/
theorem od_begins {X : Cx} {pins : List (Addr × Obj)} {σ : L2.St} {H : Hp} {s : Shared} (I : Inv X pins σ H s) {o : Od} {n : Nat} {u : Value} (hl : o.len X.K H n) (r : RelV o.val u) :
    ∃ (ob : Obj) (G : Heap → Prop), Begins u ob G ∧ G s.heap ∧ ∀ (h : Heap) (it : Addr), h.get? it = some ob → o.st it 0 h := by
  cases o with
  | lst a =>
    obtain ⟨xs, q, hn⟩ := hl
    obtain ⟨its, rv, pl, _⟩ := I.list q
    cases r
    exact ⟨_, _, begins_list a its.toArray, pl.isList, fun h it e => ⟨_, e, rfl, rfl⟩⟩
  | tup a =>
    obtain ⟨xs, q, hn⟩ := hl
    obtain ⟨its, rv, pl, _⟩ := I.tuple q
    cases r
    exact ⟨_, _, begins_tuple a its.toArray, (show s.heap.IsTuple a its.toArray from pl), fun h it e => ⟨_, e, rfl, rfl⟩⟩
  | str x =>
    obtain ⟨t, rfl⟩ := r
    exact ⟨_, _, begins_text x t, trivial, fun h it e => ⟨t, _, e, rfl, rfl⟩⟩
/-- enumerate(v): its two new cells -/
theorem meets_en1 {v : Value} {o : Obj} {G : Heap → Prop} (B : Begins v o G) : Meets (Builtin.«enumerate.__new__» ⟨[.type "enumerate", v], []⟩) (fun _ R s => G s.heap ∧ R (.ok (.ret (.ref (s.heap.push o).objs.size)))
    { s with heap := (s.heap.push o).push { cls := .type "enumerate", data := .fields #[.none, .bool false, .ref s.heap.objs.size, rawInt 0, .none, .none] } }) := by
  apply Meets.of_wp
  rintro prog w A R ⟨hp, gs, dr, tk, os⟩ ⟨hG, hR⟩
  have sub := sub_enumerate
  have it : ∀ {A' : Around} {E : Value → Shared → Prop} {Q : Value → Shared → Prop}, Q (.ref hp.objs.size) ⟨hp.push o, gs, dr, tk, os⟩ → wpAny (model prog w) A' (pyIter v) Q E ⟨hp, gs, dr, tk, os⟩ := fun q => B.iter prog w _ _ _ _ hG q
  wp_walk using it
  apply wpAny_stack_any
  intro st
  apply wpAny_pure
  split
  · rename_i c _ _ _ _ _
    cases (c == Value.type "enumerate") <;> (wp_walk using it; exact ⟨_, rfl, hR⟩)
  · wp_walk using it
    exact ⟨_, rfl, hR⟩
theorem en1_begins {prog : Program} {w : World} {A : Around} {E : Value → Shared → Prop} {s : Shared} {v : Value} {o : Obj} {G : Heap → Prop} {Q : Value → Shared → Prop} (B : Begins v o G) (hG : G s.heap)
    (h : ∀ h', IsEnum h' (s.heap.objs.size + 1) s.heap.objs.size 0 .none → h'.get? s.heap.objs.size = some o → (∀ b u, s.heap.get? b = some u → h'.get? b = some u) → Q (.ref (s.heap.objs.size + 1)) { s with heap := h' }) : wpAny (model prog w) A (call (.type "enumerate") [v]) Q E s := by
  apply callType_new F.called_enumerate (by decide) (F.typeCall_enumerate_1 _) (F.newCall_enumerate_1 _) (fun obj => F.args_object_init_2 obj _) F.entry_enumerate_new (meets_en1 B)
  refine ⟨hG, ?_⟩
  have sz : (s.heap.push o).objs.size = s.heap.objs.size + 1 := Heap.size_push ..
  show _ ∧ _
  rw [sz]
  have here : IsEnum ((s.heap.push o).push { cls := .type "enumerate", data := .fields #[.none, .bool false, .ref s.heap.objs.size, rawInt 0, .none, .none] }) (s.heap.objs.size + 1) s.heap.objs.size 0 .none := by
    have q := Heap.get?_push_size (s.heap.push o) (o := { cls := .type "enumerate", data := .fields #[.none, .bool false, .ref s.heap.objs.size, rawInt 0, .none, .none] }) rfl
    rw [sz] at q
    exact q
  exact ⟨⟨_, here, rfl⟩, h _ here (Heap.get?_push_of_some _ (Heap.get?_push_size _ B.free)) fun b u x => Heap.get?_push_of_some _ (Heap.get?_push_of_some _ x)⟩
def Od.isSeq : Od → Bool
  | .str _ => false
  | _ => true
def iZ (K : PySem.W.Frag) (ta : TA) : TI := fun σ H R => ta σ H fun vs H1 => ∃ o1 o2 n1 n2, vs = [o1.val, o2.val] ∧ o1.len K H1 n1 ∧ o2.len K H1 n2 ∧ R (ItZ K o1 o2) H1
def iE (K : PySem.W.Frag) (ta : TA) : TI := fun σ H R => ta σ H fun vs H1 => ∃ o n, vs = [o.val] ∧ o.isSeq = true ∧ o.len K H1 n ∧ R (ItE K o) H1
section
variable {X : Cx} {e e2 : Expr} {ta : TA} {p pos tpos : Pos} {elts : List Expr} {kk : Nat}
theorem pi_z (hg : Gl X "zip") (hm : X.mg "zip" = none) (ha : PA X [e, e2] ta) (hs : starEach [e, e2] X.env = (false, eval e X.env) :: starEach [e2] X.env := by rfl) (hpl : (backTo pos (starEach [e2] X.env)).any (·.1) = false := by rfl) :
    PI X (.Tuple elts kk tpos) (.Call (.Name "zip" p) [e, e2] [] pos) (iZ X.K ta) := by
  constructor
  intro pins s σ H R I h
  apply Call_ (ld_blt I hg hm PyProof.Rows.boot_zip (PyProof.Rows.callWith_type1 (thn (ha.run pos pins s σ H _ I h) ?_) hs hpl))
  rintro us s1 ⟨vs, H1, J, rv, o1, o2, n1, n2, rfl, l1, l2, q⟩
  cases rv with
  | cons r1 rr => cases rr with
    | cons r2 rr =>
      cases rr
      obtain ⟨b1, G1, B1, g1, t1⟩ := od_begins J l1 r1
      obtain ⟨b2, G2, B2, g2, t2⟩ := od_begins J l2 r2
      apply zip_begins2 B1 B2 g1 g2
      intro h' hz hTI hTO e1 e2 hsz hk
      apply wpAny_pyIter_zip hz
      have J2 : Inv X pins σ H1 { s1 with heap := h' } := J.kept (t' := s1.toks) hk
      generalize hN : s1.heap.objs.size = N at *
      refine ⟨N + 4, [N + 4, N + 2, N + 3, N, N + 1], _, _, H1, rfl, J2, turn_z (o1 := o1) (o2 := o2) ?_, ⟨hz, hTI, ⟨_, _, hTO⟩, t1 h' _ e1, t2 h' _ e2⟩, fun c hcm => ?_, q⟩
      · simp only [List.nodup_cons, List.mem_cons, List.not_mem_nil, or_false, not_or, List.nodup_nil, and_true, not_false_eq_true]
        exact ⟨⟨show (N + 4 : Nat) ≠ N + 2 by omega, show (N + 4 : Nat) ≠ N + 3 by omega, show (N + 4 : Nat) ≠ N by omega, show (N + 4 : Nat) ≠ N + 1 by omega⟩, ⟨show (N + 2 : Nat) ≠ N + 3 by omega, show (N + 2 : Nat) ≠ N by omega, show (N + 2 : Nat) ≠ N + 1 by omega⟩, ⟨show (N + 3 : Nat) ≠ N by omega, show (N + 3 : Nat) ≠ N + 1 by omega⟩, show (N : Nat) ≠ N + 1 by omega⟩
      · have hle : s1.heap.objs.size ≤ c := by
          rw [hN]
          have e' : c = N + 4 ∨ c = N + 2 ∨ c = N + 3 ∨ c = N ∨ c = N + 1 := by simpa using hcm
          rcases e' with z | z | z | z | z <;> subst z
          · exact Nat.le_add_right _ _
          · exact Nat.le_add_right _ _
          · exact Nat.le_add_right _ _
          · exact Nat.le_refl _
          · exact Nat.le_add_right _ _
        exact J.fpOk hle (J.hok.fresh hle)
theorem pi_e (hg : Gl X "enumerate") (hm : X.mg "enumerate" = none) (ha : PA X [e] ta) (hs : starEach [e] X.env = [(false, eval e X.env)] := by rfl) :
    PI X (.Tuple elts kk tpos) (.Call (.Name "enumerate" p) [e] [] pos) (iE X.K ta) := by
  constructor
  intro pins s σ H R I h
  apply Call_ (ld_blt I hg hm boot_enumerate (PyProof.Rows.callWith_type1 (thn (ha.run pos pins s σ H _ I h) ?_) hs rfl))
  rintro us s1 ⟨vs, H1, J, rv, o, n, rfl, hq, l1, q⟩
  cases rv with
  | cons r1 rr =>
    cases rr
    obtain ⟨b1, G1, B1, g1, t1⟩ := od_begins J l1 r1
    have done : ∀ h', IsEnum h' (s1.heap.objs.size + 1) s1.heap.objs.size 0 .none → o.st s1.heap.objs.size 0 h' → (∀ b o, s1.heap.get? b = some o → h'.get? b = some o) → wpAny (model X.prog X.w) X.A (pyIter (.ref (s1.heap.objs.size + 1))) (PIE X pins σ (.Tuple elts kk tpos) R) X.xe { s1 with heap := h' } := by
      intro h' he e1 hk
      apply wpAny_pyIter_enum he
      have J2 : Inv X pins σ H1 { s1 with heap := h' } := J.kept (t' := s1.toks) hk
      refine ⟨s1.heap.objs.size + 1, [s1.heap.objs.size + 1, s1.heap.objs.size], _, _, H1, rfl, J2, turn_e (o := o) (Nat.succ_ne_self _), ⟨⟨.none, he⟩, e1⟩, fun b hb => ?_, q⟩
      have hle : s1.heap.objs.size ≤ b := by
        have e' : b = s1.heap.objs.size + 1 ∨ b = s1.heap.objs.size := by simpa using hb
        rcases e' with z | z <;> subst z
        · exact Nat.le_add_right _ _
        · exact Nat.le_refl _
      exact J.fpOk hle (J.hok.fresh hle)
    exact en1_begins B1 g1 fun h' he hi hk => done h' he (t1 h' _ hi) hk
end
/-! ### by value -/
def pairW (a b : W) : W := match a, b with
  | .frz x, .frz y => .frz (.tup [x, y])
  | a, b => .otup [a, b]
def enumW (ws : List W) : List W := ws.mapIdx fun i w => pairW (.frz (.int (i : Nat))) w
def zipW (ws us : List W) : List W := List.zipWith pairW ws us
/-- a sequence; a text, sign by sign -/
def odItems (r : R) : M (List W) := fun L => match r with
  | .val (.frz (.str x)) => .ok (x.cps.toList.map fun c => .frz (.str ⟨#[c]⟩)) L
  | r => itemsOf r L
def isStr (r : R) : Bool := match r with
  | .val (.frz (.str _)) => true
  | _ => false
def mEnum (m : M (List R)) : M (List W) := fun L => (m L).bind fun rs L1 => match rs with
  | [r] => (itemsOf r L1).bind fun ws L2 => .ok (enumW ws) L2
  | _ => .bad
def mZip (m : M (List R)) : M (List W) := fun L => (m L).bind fun rs L1 => match rs with
  | [r, u] => (odItems r L1).bind fun ws L2 => (odItems u L2).bind fun us L3 => .ok (zipW ws us) L3
  | _ => .bad
/-- the operand's items -/
def OdIt (K : PySem.W.Frag) (F B : Hp) (o : Od) (ws : List W) : Prop := ∀ (F1 H1 : Hp) (as1 : List Addr), Same F F1 → WF F1 B H1 as1 → o.len K H1 ws.length ∧ ∀ (i : Nat) (w : W) (x : V), ws[i]? = some w → o.only K H1 i x → RepW K F1 B H1 w x []
theorem od_seq {K : PySem.W.Frag} {F B : Hp} {a : Addr} {ws : List W} {vs : List V} (h : SeqIt K F B a ws vs) : ∃ o : Od, o.val = .ref a ∧ o.isSeq = true ∧ OdIt K F B o ws := by
  obtain ⟨G, hG, hq, hl, hr⟩ := h
  rcases hq with q | q
  · refine ⟨.lst a, rfl, rfl, fun F1 H1 as1 sF wf => ?_⟩
    have q1 := (hG F1 H1 as1 sF wf).seq q
    refine ⟨⟨vs, q1, hl.symm⟩, fun i w x ew ho => ?_⟩
    obtain ⟨v, ev, rv⟩ := hr i w ew
    have := ho vs q1
    rw [ev] at this
    cases this
    exact rv F1 H1 sF
  · refine ⟨.tup a, rfl, rfl, fun F1 H1 as1 sF wf => ?_⟩
    have q1 := sameSqT (hG F1 H1 as1 sF wf) q
    refine ⟨⟨vs, q1, hl.symm⟩, fun i w x ew ho => ?_⟩
    obtain ⟨v, ev, rv⟩ := hr i w ew
    have := ho vs q1
    rw [ev] at this
    cases this
    exact rv F1 H1 sF
theorem OdIt.mono {K : PySem.W.Frag} {F F' B : Hp} {o : Od} {ws : List W} (h : OdIt K F B o ws) (s : Same F F') : OdIt K F' B o ws := fun F1 H1 as1 sF wf => h F1 H1 as1 (s.trans sF) wf
theorem od_str {K : PySem.W.Frag} {F B : Hp} {x : Str} : OdIt K F B (.str x) (x.cps.toList.map fun c => .frz (.str ⟨#[c]⟩)) := fun F1 H1 as1 sF wf => by
  refine ⟨by show x.cps.size = _; simp, fun i w v ew ⟨c, hc, ev⟩ => ?_⟩
  rw [List.getElem?_map] at ew
  obtain ⟨c', ec, rfl⟩ := map_some ew
  have : c' = c := by
    have h2 : x.cps.toList[i]? = some c := by simpa using hc
    rw [ec] at h2
    exact Option.some.inj h2
  subst this
  exact ⟨ev, rfl⟩
theorem od_items {K : PySem.W.Frag} {Wx : WX} {F B H : Hp} {as asr : List Addr} {σ : L2.St} {L : Lc} {r : R} {v : V} {p : List W → Lc → Prop} (wf : WF F B H (asr ++ as)) (s : SRel K F B H σ L as) (rr : RepR K F B H σ r v asr) (h : End K Wx F B H (asr ++ as) σ p (odItems r L)) :
    ∃ ws L' F' as', p ws L' ∧ Go F B H (asr ++ as) F' H as' ∧ SRel K F' B H σ L' as' ∧ ∃ o : Od, v = o.val ∧ OdIt K F' B o ws := by
  have seqCase : ∀ {r : R}, RepR K F B H σ r v asr → End K Wx F B H (asr ++ as) σ p (itemsOf r L) → ∃ ws L' F' as', p ws L' ∧ Go F B H (asr ++ as) F' H as' ∧ SRel K F' B H σ L' as' ∧ ∃ o : Od, v = o.val ∧ OdIt K F' B o ws := fun {r} rr h => by
    obtain ⟨ws, L2, F2, as2, h2, g2, s2, a, vs, ev, si⟩ := items_ok wf s rr h
    obtain ⟨o, eo, _, oi⟩ := od_seq si
    exact ⟨ws, L2, F2, as2, h2, g2, s2, o, by rw [eo]; exact ev, oi⟩
  unfold odItems at h
  split at h
  · rename_i x
    exact ⟨_, L, F, as, h, (Go.refl wf).sub (le_r _ _), s, .str x, rr.1, od_str⟩
  · exact seqCase rr h
/-- a new pair -/
theorem pair_ok {K : PySem.W.Frag} {F B H : Hp} {as : List Addr} {a b : W} {x y : V} {T : Addr} (wf : WF F B H as) (nT : H T = none) (ra : RepW K F B H a x []) (rb : RepW K F B H b y []) :
    ∃ F2 asx, Go F B H as F2 (upd H T (.tup [x, y])) (asx ++ as) ∧ Kept as H (upd H T (.tup [x, y])) ∧ RepW K F2 B (upd H T (.tup [x, y])) (pairW a b) (.ref T) asx := by
  have k : ∀ (l : List Addr), Kept l H (upd H T (.tup [x, y])) := fun l q _ o e => by rw [upd_ne (fun z => by rw [z, nT] at e; cases e)]; exact e
  have other : (pairW a b = .otup [a, b]) → ∃ F2 asx, Go F B H as F2 (upd H T (.tup [x, y])) (asx ++ as) ∧ Kept as H (upd H T (.tup [x, y])) ∧ RepW K F2 B (upd H T (.tup [x, y])) (pairW a b) (.ref T) asx := fun e => by
    rw [e]
    refine ⟨F, [T], Go.alloc wf nT _, k as, T, [x, y], [], rfl, upd_same, rfl, x, [y], [], [], rfl, rfl, RepW.frame (Same.refl _) (Same.refl _) (k []) ra, y, [], [], [], rfl, rfl, RepW.frame (Same.refl _) (Same.refl _) (k []) rb, rfl, rfl⟩
  cases a with
  | frz d1 => cases b with
    | frz d2 =>
      have g := Go.allocF wf nT (.tup [x, y])
      exact ⟨_, [], g, k as, ⟨T, [x, y], rfl, .inl (.inl upd_same), x, [y], rfl, ra.1.mono g.ext, y, [], rfl, rb.1.mono g.ext, rfl⟩, rfl⟩
    | _ => exact other rfl
  | _ => exact other rfl
theorem it_e {K : PySem.W.Frag} {F B : Hp} {o : Od} {ws : List W} (h : OdIt K F B o ws) : ItOk K F B (ItE K o) (enumW ws) := by
  intro i F1 H1 as1 sF wf
  obtain ⟨hl, ho⟩ := h F1 H1 as1 sF wf
  unfold enumW
  refine ⟨fun w ew => ?_, fun hi => ⟨_, hl, by rw [hi, List.length_mapIdx]⟩⟩
  rw [List.getElem?_mapIdx] at ew
  obtain ⟨u, eu, rfl⟩ := map_some ew
  refine ⟨⟨_, hl, (List.getElem?_eq_some_iff.mp eu).1⟩, ?_⟩
  rintro v H2 ⟨T, x, rfl, nT, rfl, hx⟩
  exact pair_ok wf nT ⟨rfl, rfl⟩ (ho i u x eu hx)
theorem it_z {K : PySem.W.Frag} {F B : Hp} {o1 o2 : Od} {ws us : List W} (h1 : OdIt K F B o1 ws) (h2 : OdIt K F B o2 us) : ItOk K F B (ItZ K o1 o2) (zipW ws us) := by
  intro i F1 H1 as1 sF wf
  obtain ⟨l1, q1⟩ := h1 F1 H1 as1 sF wf
  obtain ⟨l2, q2⟩ := h2 F1 H1 as1 sF wf
  unfold zipW
  refine ⟨fun w ew => ?_, fun hi => ⟨_, _, l1, l2, by rw [hi, List.length_zipWith]⟩⟩
  rw [List.getElem?_zipWith] at ew
  cases ea : ws[i]? with
  | none => rw [ea] at ew; cases ew
  | some a => cases eb : us[i]? with
    | none => rw [ea, eb] at ew; cases ew
    | some b =>
      rw [ea, eb] at ew
      cases ew
      refine ⟨⟨_, _, l1, l2, (List.getElem?_eq_some_iff.mp ea).1, (List.getElem?_eq_some_iff.mp eb).1⟩, ?_⟩
      rintro v H2 ⟨T, x, y, rfl, nT, rfl, hx, hy⟩
      exact pair_ok wf nT (q1 i a x ea hx) (q2 i b y eb hy)
section
variable {X : Cx} {Wx : WX} {e e2 : Expr} {m : M (List R)} {p pos tpos : Pos} {elts : List Expr} {kk : Nat}
theorem bi_enum (hg : Gl X "enumerate") (hm : X.mg "enumerate" = none) (ha : PA X [e] (bvA X.K Wx m)) (hs : starEach [e] X.env = [(false, eval e X.env)] := by rfl) :
    PI X (.Tuple elts kk tpos) (.Call (.Name "enumerate" p) [e] [] pos) (bvI X.K Wx (mEnum m)) := by
  refine pi_imp (pi_e hg hm ha hs) fun σ H R ⟨F, B, L, as, wf, s, h⟩ => ?_
  refine ⟨F, B, L, as, wf, s, (End.bind h).imp fun rs L1 h1 vs F1 H1 asr as1 g1 s1 r1 => ?_⟩
  split at h1
  · rename_i r
    obtain ⟨v, t, a1, a2, ev, ea, rv, et, ea2⟩ := r1
    subst ev et ea ea2
    rw [List.append_nil] at g1
    obtain ⟨ws, L2, F2, as2, h2, g2, s2, a, vs', ev, si⟩ := items_ok g1.wf s1 rv ((End.bind h1).behind g1 fun _ _ h => h)
    obtain ⟨o, eo, hq, oi⟩ := od_seq si
    exact ⟨o, ws.length, by rw [eo, ev], hq, (oi F2 H1 as2 (Same.refl _) g2.wf).1, (show ∀ J F' H' as', _ → _ → _ → R J H' from h2) _ F2 H1 as2 (g1.trans g2) s2 (it_e oi)⟩
  · exact h1.elim
theorem bi_zip (hg : Gl X "zip") (hm : X.mg "zip" = none) (ha : PA X [e, e2] (bvA X.K Wx m)) (hs : starEach [e, e2] X.env = (false, eval e X.env) :: starEach [e2] X.env := by rfl) (hpl : (backTo pos (starEach [e2] X.env)).any (·.1) = false := by rfl) :
    PI X (.Tuple elts kk tpos) (.Call (.Name "zip" p) [e, e2] [] pos) (bvI X.K Wx (mZip m)) := by
  refine pi_imp (pi_z hg hm ha hs hpl) fun σ H R ⟨F, B, L, as, wf, s, h⟩ => ?_
  refine ⟨F, B, L, as, wf, s, (End.bind h).imp fun rs L1 h1 vs F1 H1 asr as1 g1 s1 r1 => ?_⟩
  split at h1
  · rename_i r u
    obtain ⟨v, t, a1, a2, ev, ea, rv, v2, t2, b1, b2, ev2, eb, rv2, et, ea2⟩ := r1
    subst ev et ea ea2 ev2 eb
    rw [List.append_nil] at g1
    have g1' : Go F B H as F1 H1 (b1 ++ (a1 ++ as1)) := g1.sub fun p => by simp only [List.count_append]; omega
    have wfa : WF F1 B H1 (a1 ++ as1) := g1'.wf.sub (le_r _ _)
    obtain ⟨ws, L2, F2, as2, h2, g2, s2, o1, e1, oi1⟩ := od_items wfa s1 rv ((End.bind h1).behind (g1'.sub (le_r _ _)) fun _ _ h => h)
    have g2f := g2.frame g1'.wf
    have rv2' := rv2.frame g2.ext (g2.kept g1'.wf)
    obtain ⟨us, L3, F3, as3, h3, g3, s3, o2, e2', oi2⟩ := od_items g2f.wf s2 rv2' ((End.bind h2).behind (g1'.trans g2f) fun _ _ h => h)
    refine ⟨o1, o2, ws.length, us.length, by rw [e1, e2'], (oi1.mono g3.ext F3 H1 as3 (Same.refl _) g3.wf).1, (oi2 F3 H1 as3 (Same.refl _) g3.wf).1, ?_⟩
    exact (show ∀ J F' H' as', _ → _ → _ → R J H' from h3) _ F3 H1 as3 ((g1'.trans g2f).trans g3) s3 (it_z (oi1.mono g3.ext) oi2)
  · exact h1.elim
end
end BV

namespace BV
open PySem PySem.Spec PyProof.Rows L2

/-! ### arithmetic -/
section
variable {X : Cx}
/-- // by any divisor that is not too wide -/
def CDivX (_ j : Int) : Prop := j ≠ 0 ∧ j.natAbs.log2 < 9000
theorem op_fdivX : OpR X (binaryOp .FloorDiv) (rI CDivX fun i j => .int (i.fdiv j)) := opI fun i j _ _ _ _ _ hc q => floordiv_int hc.1 q (.inl (PyProof.noPylong_of_log2 hc.2))
end
def aAdd : R → R → M R := mkS (gI fun i j => some (.int (i + j)))
def aSub : R → R → M R := mkS (gI fun i j => some (.int (i - j)))
def aMul : R → R → M R := mkS (gI fun i j => if i.natAbs.log2 + j.natAbs.log2 < 1000000 then some (.int (i * j)) else none)
def aDiv : R → R → M R := mkS (gI fun i j => if j ≠ 0 ∧ j.natAbs.log2 < 9000 then some (.int (i.fdiv j)) else none)
def aMod : R → R → M R := mkS (gI fun i j => if j ≠ 0 then some (.int (i.fmod j)) else none)
def aPow : R → R → M R := mkS (gI fun i j => if 0 ≤ j ∧ j ≤ 1000000 ∧ i.natAbs < 2 ^ 64 then some (.int (i ^ j.toNat)) else none)
theorem ite_some {α : Type} {c : Prop} [Decidable c] {a b : α} (h : (if c then some a else none) = some b) : c ∧ a = b := by
  by_cases hc : c
  · rw [if_pos hc] at h; exact ⟨hc, Option.some.inj h⟩
  · rw [if_neg hc] at h; cases h
section
variable {K : PySem.W.Frag}
theorem ok_addI : OpOk K (rI0 fun i j => .int (i + j)) aAdd := okI0 fun i j d e F => by cases e; rfl
theorem ok_sub : OpOk K (rI0 fun i j => .int (i - j)) aSub := okI0 fun i j d e F => by cases e; rfl
theorem ok_mul : OpOk K (rI CMulW fun i j => .int (i * j)) aMul := okI fun i j d e => by obtain ⟨c, rfl⟩ := ite_some e; exact ⟨c, fun _ => rfl⟩
theorem ok_div : OpOk K (rI CDivX fun i j => .int (i.fdiv j)) aDiv := okI fun i j d e => by obtain ⟨c, rfl⟩ := ite_some e; exact ⟨c, fun _ => rfl⟩
theorem ok_mod : OpOk K (rI (fun _ j => j ≠ 0) fun i j => .int (i.fmod j)) aMod := okI fun i j d e => by obtain ⟨c, rfl⟩ := ite_some e; exact ⟨c, fun _ => rfl⟩
theorem ok_pow : OpOk K (rI CPow fun i j => .int (i ^ j.toNat)) aPow := okI fun i j d e => by obtain ⟨c, rfl⟩ := ite_some e; exact ⟨c, fun _ => rfl⟩
end
/-- two texts -/
def gS (f : Str → Str → Option D) : D → D → Option D
  | .str i, .str j => f i j
  | _, _ => none
theorem gS_of {f : Str → Str → Option D} {d1 d2 d : D} (h : gS f d1 d2 = some d) : ∃ i j, d1 = .str i ∧ d2 = .str j ∧ f i j = some d := by
  unfold gS at h
  split at h
  · exact ⟨_, _, rfl, rfl, h⟩
  · cases h
def aCatS : R → R → M R := mkS (gS fun i j => if i.length + j.length ≤ sizeLine then some (.str (i ++ j)) else none)
abbrev rCatS : R2 := fun x y H Q => ∃ i j, x = .str i ∧ y = .str j ∧ i.length + j.length ≤ sizeLine ∧ Q (.str (i ++ j)) H
theorem ok_catS {K : PySem.W.Frag} : OpOk K rCatS aCatS := .scal fun H d1 d2 v1 v2 d Q r1 r2 e q => by
  obtain ⟨i, j, rfl, rfl, e⟩ := gS_of e
  obtain ⟨c, rfl⟩ := ite_some e
  cases r1; cases r2
  exact ⟨i, j, rfl, rfl, c, q _ fun _ => rfl⟩
/-! lists and tuples put together -/
/-- the items of a list that may be added to another -/
def W.lseq : W → Option (List W)
  | .frz (.lst ds) => some (ds.map .frz)
  | .brw (.lst ds) => some (ds.map mkB)
  | .olst ws => if ws.all W.no = true then some ws else none
  | _ => none
theorem lseq_ok {K : PySem.W.Frag} {F B H : Hp} (sF : Same F H) (sB : Same B H) {w : W} {v : V} {as : List Addr} {ws : List W} (h : RepW K F B H w v as) (e : w.lseq = some ws) : ∃ a vs, v = .ref a ∧ H a = some (.lst vs) ∧ RepWs K F B H ws vs [] := by
  cases w with
  | frz d => cases d with
    | lst ds => cases e; obtain ⟨⟨a, vs, e1, q, r⟩, _⟩ := h; exact ⟨a, vs, e1, sF _ _ q, reps_frz r⟩
    | _ => cases e
  | brw d => cases d with
    | lst ds => cases e; obtain ⟨⟨a, vs, e1, q, r⟩, _⟩ := h; exact ⟨a, vs, e1, sB _ _ q, reps_brw r⟩
    | _ => cases e
  | olst us =>
    have e' : (if us.all W.no = true then some us else none) = some ws := e
    split at e'
    · rename_i hn
      cases e'
      obtain ⟨a, vs, bs, e1, q, ea, r⟩ := h
      have := nos_nil hn r
      subst this
      exact ⟨a, vs, e1, q, r⟩
    · cases e'
  | _ => cases e
theorem RepWs.app {K : PySem.W.Frag} {F B H : Hp} : ∀ {ws us : List W} {vs xs : List V}, RepWs K F B H ws vs [] → RepWs K F B H us xs [] → RepWs K F B H (ws ++ us) (vs ++ xs) []
  | [], us, _, xs, h, q => by rw [show _ = [] from h.1]; exact q
  | w :: ws, us, _, xs, ⟨v, r, a1, a2, e, ea, h, t⟩, q => by
    obtain ⟨rfl, rfl⟩ := List.append_eq_nil_iff.mp ea.symm
    subst e
    exact ⟨v, r ++ xs, [], [], rfl, rfl, h, t.app q⟩
def aCatL : R → R → M R := fun x y L => match x.get L, y.get L with
  | some a, some b => match a.lseq, b.lseq with
    | some ws, some us => if ws.length + us.length ≤ sizeLine then .ok (.val (.olst (ws ++ us))) L else .bad
    | _, _ => .bad
  | _, _ => .bad
theorem keep_new {H : Hp} {p : Addr} {o : HO} (n : H p = none) (as : List Addr) : Kept as H (upd H p o) := fun q _ u e => by rw [upd_ne (fun z => by rw [z, n] at e; cases e)]; exact e
theorem ok_catL {K : PySem.W.Frag} : OpOk K rCat aCatL := fun Wx σ F B H L as as1 as2 rx ry v1 v2 Q wf s p1 p2 h => by
  unfold aCatL at h
  split at h
  · rename_i w1 w2 e1 e2
    split at h
    · rename_i ws us es eu
      obtain ⟨hz, h⟩ := of_ite h
      obtain ⟨b1, q1⟩ := get_ok s p1 e1
      obtain ⟨b2, q2⟩ := get_ok s p2 e2
      obtain ⟨a, vs, ev, hq, rs⟩ := lseq_ok wf.f wf.b q1 es
      obtain ⟨b, xs, ex, hq2, ru⟩ := lseq_ok wf.f wf.b q2 eu
      refine ⟨a, b, vs, xs, ev, ex, hq, hq2, by rw [rs.len, ru.len]; exact hz, fun p np => ?_⟩
      have g1 := go_drop2 wf
      have g2 := Go.alloc g1.wf np (.lst (vs ++ xs))
      refine h (.ref p) F _ [p] as (g1.trans g2) (SRel.frame (Same.refl _) (Same.refl _) (keep_new np _) s) ⟨p, vs ++ xs, [], rfl, upd_same, rfl, RepWs.frame (Same.refl _) (Same.refl _) (keep_new np _) (rs.app ru)⟩
    · exact h.elim
  · exact h.elim
def aAddU : R → R → M R := gOr aAdd (gOr aCatS aCatL)
section
variable {X : Cx}
abbrev rAddU : R2 := fun x y H Q => rI0 (fun i j => .int (i + j)) x y H Q ∨ (rCatS x y H Q ∨ rCat x y H Q)
theorem op_addU : OpR X (binaryOp .Add) rAddU := opr_or op_add (opr_or op_add_str op_cat)
theorem ok_addU : OpOk X.K rAddU aAddU := .or ok_addI (.or ok_catS ok_catL)
end

/-! ### comparisons -/
def cI (f : Int → Int → Bool) : R → R → M R := mkS (gI fun i j => some (.bl (f i j)))
theorem ok_cI {K : PySem.W.Frag} {f : Int → Int → Bool} : OpOk K (rI0 fun i j => .bl (f i j)) (cI f) := okI0 fun i j d e F => by cases e; rfl
def cS (f : Str → Str → Bool) : R → R → M R := mkS (gS fun i j => some (.bl (f i j)))
abbrev rCS (f : Str → Str → Bool) : R2 := fun x y H Q => ∃ i j, x = .str i ∧ y = .str j ∧ Q (.bl (f i j)) H
theorem ok_cS {K : PySem.W.Frag} {f : Str → Str → Bool} : OpOk K (rCS f) (cS f) := .scal fun H d1 d2 v1 v2 d Q r1 r2 e q => by
  obtain ⟨i, j, rfl, rfl, e⟩ := gS_of e
  cases e
  cases r1; cases r2
  exact ⟨i, j, rfl, rfl, q _ fun _ => rfl⟩
abbrev ltS (i j : Str) : Bool := decide (i.cps.toList < j.cps.toList)
def cLt : R → R → M R := gOr (cI fun i j => decide (i < j)) (cS ltS)
def cGt : R → R → M R := gOr (cI fun i j => decide (j < i)) (cS fun i j => ltS j i)
def cLe : R → R → M R := gOr (cI fun i j => decide (i ≤ j)) (cS fun i j => !ltS j i)
def cGe : R → R → M R := gOr (cI fun i j => decide (j ≤ i)) (cS fun i j => !ltS i j)
/-- equality of scalars -/
def eqS : D → D → Option Bool
  | .non, .non => some true
  | .int i, .int j => some (decide (i = j))
  | .bl i, .bl j => some (decide (i = j))
  | .str i, .str j => some (decide (i = j))
  | .non, .int _ | .int _, .non | .non, .bl _ | .bl _, .non | .non, .str _ | .str _, .non | .int _, .str _ | .str _, .int _ | .bl _, .str _ | .str _, .bl _ => some false
  | _, _ => none
theorem dec_inj {α β : Type} [DecidableEq α] [DecidableEq β] {f : α → β} (hf : ∀ a b, f a = f b → a = b) (a b : α) : decide (f a = f b) = decide (a = b) := by
  by_cases e : a = b
  · subst e; simp
  · rw [decide_eq_false e, decide_eq_false fun z => e (hf _ _ z)]
theorem eqS_ok {K : PySem.W.Frag} {H : Hp} {d1 d2 : D} {v1 v2 : V} {b : Bool} (r1 : Rep K H d1 v1) (r2 : Rep K H d2 v2) (e : eqS d1 d2 = some b) : scal v1 v2 = true ∧ decide (v1 = v2) = b := by
  unfold eqS at e
  split at e <;> first
    | (cases e; cases r1; cases r2; exact ⟨rfl, rfl⟩)
    | (cases e; cases r1; cases r2; exact ⟨rfl, dec_inj (fun _ _ h => V.int.inj h) _ _⟩)
    | (cases e; cases r1; cases r2; exact ⟨rfl, dec_inj (fun _ _ h => V.bl.inj h) _ _⟩)
    | (cases e; cases r1; cases r2; exact ⟨rfl, dec_inj (fun _ _ h => V.str.inj h) _ _⟩)
    | cases e
def cEqS : R → R → M R := mkS fun a b => (eqS a b).map .bl
def cNeS : R → R → M R := mkS fun a b => (eqS a b).map fun k => .bl (!k)
theorem ok_eqS {K : PySem.W.Frag} : OpOk K rEq cEqS := .scal fun H d1 d2 v1 v2 d Q r1 r2 e q => by
  obtain ⟨b, eb, rfl⟩ := map_some e
  obtain ⟨h1, h2⟩ := eqS_ok r1 r2 eb
  exact ⟨h1, by rw [h2]; exact q _ fun _ => rfl⟩
theorem ok_neS {K : PySem.W.Frag} : OpOk K rNe cNeS := .scal fun H d1 d2 v1 v2 d Q r1 r2 e q => by
  obtain ⟨b, eb, rfl⟩ := map_some e
  obtain ⟨h1, h2⟩ := eqS_ok r1 r2 eb
  exact ⟨h1, by rw [h2]; exact q _ fun _ => rfl⟩
/-! is None -/
abbrev rIsN : R2 := fun x y H Q => y = .non ∧ Q (.bl (decide (x = .non))) H
abbrev rNotN : R2 := fun x y H Q => y = .non ∧ Q (.bl (!decide (x = .non))) H
def D.isNone : D → Bool
  | .non => true
  | _ => false
theorem isNone_ok {K : PySem.W.Frag} {H : Hp} {d : D} {v : V} (r : Rep K H d v) : decide (v = .non) = d.isNone := by
  cases d with
  | non => cases r; rfl
  | bl b => cases r; rfl
  | int i => cases r; rfl
  | str x => cases r; rfl
  | ty n => cases r; rfl
  | adr a => cases r; rfl
  | tup xs => obtain ⟨a, vs, e, _⟩ := r; subst e; rfl
  | lst xs => obtain ⟨a, vs, e, _⟩ := r; subst e; rfl
  | lok xs => obtain ⟨a, vs, e, _⟩ := r; subst e; rfl
  | dct xs => obtain ⟨a, vs, e, _⟩ := r; subst e; rfl
  | dcT xs => obtain ⟨a, vs, e, _⟩ := r; subst e; rfl
  | obj C xs => obtain ⟨a, dx, vs, e, _⟩ := r; subst e; rfl
def cIsN : R → R → M R := mkS fun a b => match b with
  | .non => some (.bl a.isNone)
  | _ => none
def cNotN : R → R → M R := mkS fun a b => match b with
  | .non => some (.bl (!a.isNone))
  | _ => none
theorem ok_isN {K : PySem.W.Frag} : OpOk K rIsN cIsN := .scal fun H d1 d2 v1 v2 d Q r1 r2 e q => by
  split at e
  · cases e; cases r2
    exact ⟨rfl, by rw [isNone_ok r1]; exact q _ fun _ => rfl⟩
  · cases e
theorem ok_notN {K : PySem.W.Frag} : OpOk K rNotN cNotN := .scal fun H d1 d2 v1 v2 d Q r1 r2 e q => by
  split at e
  · cases e; cases r2
    exact ⟨rfl, by rw [isNone_ok r1]; exact q _ fun _ => rfl⟩
  · cases e
/-! in -/
def D.flat : D → Bool
  | .non | .bl _ | .int _ | .str _ => true
  | _ => false
def eqF : D → D → Bool
  | .non, .non => true
  | .bl a, .bl b => a == b
  | .bl a, .int b => (if a then 1 else 0) == b
  | .int a, .bl b => a == (if b then 1 else 0)
  | .int a, .int b => a == b
  | .str a, .str b => a == b
  | _, _ => false
theorem flat_ok {K : PySem.W.Frag} {H : Hp} {d : D} {v : V} (hf : d.flat = true) (r : Rep K H d v) : flatV v = true := by
  cases d <;> first | (cases r; rfl) | cases hf
theorem eqF_ok {K : PySem.W.Frag} {H H' : Hp} {d e : D} {v u : V} (hd : d.flat = true) (he : e.flat = true) (r : Rep K H d v) (q : Rep K H' e u) : eqV v u = eqF d e := by
  cases d <;> first | exact (Bool.false_ne_true hd).elim | (cases e <;> first | exact (Bool.false_ne_true he).elim | (cases r; cases q; rfl))
def D.items : D → Option (List D)
  | .lst ds => some ds
  | .lok ds => some ds
  | .tup ds => some ds
  | _ => none
theorem items_rep {K : PySem.W.Frag} {H : Hp} {d : D} {v : V} {ds : List D} (e : d.items = some ds) (r : Rep K H d v) : ∃ a vs, v = .ref a ∧ (SqL K H a vs ∨ SqT K H a vs) ∧ Reps K H ds vs := by
  cases d with
  | lst xs => cases e; obtain ⟨a, vs, e1, q, r⟩ := r; exact ⟨a, vs, e1, .inl (.inl (.inl q)), r⟩
  | lok xs => cases e; obtain ⟨a, vs, e1, q, r⟩ := r; exact ⟨a, vs, e1, .inl q, r⟩
  | tup xs => cases e; obtain ⟨a, vs, e1, q, r⟩ := r; exact ⟨a, vs, e1, .inr q, r⟩
  | _ => cases e
def inF (x : D) (ds : List D) : Bool := ds.any fun y => eqF y x
theorem inF_ok {K : PySem.W.Frag} {H : Hp} {x : D} {v : V} (hx : x.flat = true) (rx : Rep K H x v) : ∀ {ds : List D} {vs : List V}, ds.all D.flat = true → Reps K H ds vs → vs.all flatV = true ∧ inV v vs = inF x ds
  | [], _, _, h => by rw [show _ = [] from h]; exact ⟨rfl, rfl⟩
  | d :: ds, _, hf, ⟨u, r, e, h, t⟩ => by
    subst e
    rw [List.all_cons, Bool.and_eq_true] at hf
    obtain ⟨h1, h2⟩ := inF_ok hx rx hf.2 t
    refine ⟨by rw [List.all_cons, flat_ok hf.1 h, h1]; rfl, ?_⟩
    unfold inV inF at *
    rw [List.any_cons, List.any_cons, h2, eqF_ok hf.1 hx h rx]
def gIn (x d : D) : Option Bool := match d.items with
  | some ds => if x.flat = true ∧ ds.all D.flat = true then some (inF x ds) else none
  | none => none
def cInQ : R → R → M R := mkS fun x d => (gIn x d).map .bl
def cNinQ : R → R → M R := mkS fun x d => (gIn x d).map fun k => .bl (!k)
theorem gIn_ok {K : PySem.W.Frag} {H : Hp} {x d : D} {v u : V} {b : Bool} (rx : Rep K H x v) (rd : Rep K H d u) (e : gIn x d = some b) : ∃ p xs, u = .ref p ∧ (SqL K H p xs ∨ SqT K H p xs) ∧ flatV v = true ∧ xs.all flatV = true ∧ inV v xs = b := by
  unfold gIn at e
  split at e
  · rename_i ds ei
    obtain ⟨⟨h1, h2⟩, rfl⟩ := ite_some e
    obtain ⟨a, vs, e1, q, r⟩ := items_rep ei rd
    obtain ⟨q1, q2⟩ := inF_ok h1 rx h2 r
    exact ⟨a, vs, e1, q, flat_ok h1 rx, q1, q2⟩
  · cases e
theorem ok_inQ {K : PySem.W.Frag} : OpOk K (rIn K false) cInQ := .scal fun H d1 d2 v1 v2 d Q r1 r2 e q => by
  obtain ⟨b, eb, rfl⟩ := map_some e
  obtain ⟨p, xs, e1, hq, f1, f2, e2⟩ := gIn_ok r1 r2 eb
  exact ⟨p, xs, e1, hq, f1, f2, by rw [e2]; exact q _ fun _ => rfl⟩
theorem ok_ninQ {K : PySem.W.Frag} : OpOk K (rIn K true) cNinQ := .scal fun H d1 d2 v1 v2 d Q r1 r2 e q => by
  obtain ⟨b, eb, rfl⟩ := map_some e
  obtain ⟨p, xs, e1, hq, f1, f2, e2⟩ := gIn_ok r1 r2 eb
  exact ⟨p, xs, e1, hq, f1, f2, by rw [e2]; exact q _ fun _ => rfl⟩
/-- one sign in a text -/
def inSg (f : Bool → Bool) : R → R → M R := mkS (gS fun c z => match c.cps.toList with
  | [k] => some (.bl (f (decide (k ∈ z.cps.toList))))
  | _ => none)
abbrev rSg (f : Bool → Bool) : R2 := fun x y H Q => ∃ (c : Nat) (z : Str), x = .str ⟨#[c]⟩ ∧ y = .str z ∧ Q (.bl (f (decide (c ∈ z.cps.toList)))) H
theorem ok_sg {K : PySem.W.Frag} {f : Bool → Bool} : OpOk K (rSg f) (inSg f) := .scal fun H d1 d2 v1 v2 d Q r1 r2 e q => by
  obtain ⟨i, j, rfl, rfl, e2⟩ := gS_of e
  cases r1; cases r2
  split at e2
  · rename_i k ek
    cases e2
    obtain ⟨a⟩ := i
    have : a = #[k] := by
      apply Array.toList_inj.mp
      exact ek
    subst this
    exact ⟨k, j, rfl, rfl, q _ fun _ => rfl⟩
  · cases e2
section
variable {X : Cx}
abbrev rInU (K : PySem.W.Frag) : R2 := fun x y H Q => rIn K false x y H Q ∨ rSg id x y H Q
abbrev rNinU (K : PySem.W.Frag) : R2 := fun x y H Q => rIn K true x y H Q ∨ rSg (fun b => !b) x y H Q
def cInU : R → R → M R := gOr cInQ (inSg id)
def cNinU : R → R → M R := gOr cNinQ (inSg fun b => !b)
theorem op_inU : OpR X (compareOp .In) (rInU X.K) := opr_or op_in_seq op_in_sign
theorem op_ninU : OpR X (compareOp .NotIn) (rNinU X.K) := opr_or op_notIn_seq op_notIn_sign
theorem ok_inU : OpOk X.K (rInU X.K) cInU := .or ok_inQ ok_sg
theorem ok_ninU : OpOk X.K (rNinU X.K) cNinU := .or ok_ninQ ok_sg
theorem op_ltU : OpR X (compareOp .Lt) (fun x y H Q => rI0 (fun i j => .bl (decide (i < j))) x y H Q ∨ rCS ltS x y H Q) := opr_or op_lt op_lt_str
theorem ok_ltU : OpOk X.K (fun x y H Q => rI0 (fun i j => .bl (decide (i < j))) x y H Q ∨ rCS ltS x y H Q) cLt := .or ok_cI ok_cS
theorem op_gtU : OpR X (compareOp .Gt) (fun x y H Q => rI0 (fun i j => .bl (decide (j < i))) x y H Q ∨ rCS (fun i j => ltS j i) x y H Q) := opr_or op_gt op_gt_str
theorem ok_gtU : OpOk X.K (fun x y H Q => rI0 (fun i j => .bl (decide (j < i))) x y H Q ∨ rCS (fun i j => ltS j i) x y H Q) cGt := .or ok_cI ok_cS
theorem op_leU : OpR X (compareOp .LtE) (fun x y H Q => rI0 (fun i j => .bl (decide (i ≤ j))) x y H Q ∨ rCS (fun i j => !ltS j i) x y H Q) := opr_or op_le op_le_str
theorem ok_leU : OpOk X.K (fun x y H Q => rI0 (fun i j => .bl (decide (i ≤ j))) x y H Q ∨ rCS (fun i j => !ltS j i) x y H Q) cLe := .or ok_cI ok_cS
theorem op_geU : OpR X (compareOp .GtE) (fun x y H Q => rI0 (fun i j => .bl (decide (j ≤ i))) x y H Q ∨ rCS (fun i j => !ltS i j) x y H Q) := opr_or op_ge op_ge_str
theorem ok_geU : OpOk X.K (fun x y H Q => rI0 (fun i j => .bl (decide (j ≤ i))) x y H Q ∨ rCS (fun i j => !ltS i j) x y H Q) cGe := .or ok_cI ok_cS
end
/-! -e -/
def mNeg (m : M R) : M R := fun L => (m L).bind fun r L1 => match r with
  | .val (.frz (.int i)) => .ok (sc (.int (-i))) L1
  | _ => .bad
section
variable {X : Cx} {Wx : WX} {a : Expr} {ma : M R} {pos : Pos}
theorem be_neg (ha : PE X a (bvE X.K Wx ma)) : PE X (.UnaryOp .USub a pos) (bvE X.K Wx (mNeg ma)) :=
  pe_imp (pe_un un_neg ha) fun σ H Q ⟨F, B, L, as, wf, s, h⟩ => ⟨F, B, L, as, wf, s, (End.bind h).imp fun r L1 h1 v F' H' asr as' g' s' r' => by
    split at h1
    · rename_i i
      exact ⟨i, r'.1, h1 _ F' H' [] as' (g'.sub (le_r _ _)) s' ⟨rfl, rfl⟩⟩
    · exact h1.elim⟩
theorem be_bits {apos : Pos} (ha : PE X a (bvE X.K Wx ma)) (hbase : attributeBase a "bit_length" X.env (eval a X.env) = eval a X.env := by rfl) (hline : (apos.endLine == pos.line) = true := by rfl) : PE X (.Call (.Attribute a "bit_length" apos) [] [] pos) (bvE X.K Wx (fun L => (ma L).bind fun r L1 => match r with
    | .val (.frz (.int i)) => .ok (sc (.int (Builtin.Int.intBits i : Nat))) L1
    | _ => .bad)) :=
  pe_imp (pe_bits ha hbase hline) fun σ H Q ⟨F, B, L, as, wf, s, h⟩ => ⟨F, B, L, as, wf, s, (End.bind h).imp fun r L1 h1 v F' H' asr as' g' s' r' => by
    split at h1
    · rename_i i
      exact ⟨i, r'.1, h1 _ F' H' [] as' (g'.sub (le_r _ _)) s' ⟨rfl, rfl⟩⟩
    · exact h1.elim⟩
end
/-! names of the module and of what is built in -/
section
variable {X : Cx} {Wx : WX} {x : Str} {pos : Pos} {C : Addr} {n : String}
theorem be_cls (hg : Gl X x) (hm : X.mg x = some (.ref C)) (hd : (x == ("__debug__" : Str)) = false := by decide) : PE X (.Name x pos) (bvE X.K Wx (mC (.adr C))) := pe_imp (pe_glob (v := .ref C) hg hm rfl hd) (of_tC fun _ => rfl)
theorem be_ty (hg : Gl X x) (hm : X.mg x = none) (hv : bootBuiltins x = some (.type n)) (hn : x ≠ "__name__" := by decide) (hd : (x == ("__debug__" : Str)) = false := by decide) : PE X (.Name x pos) (bvE X.K Wx (mC (.ty n))) := pe_imp (pe_bltn (v := .ty n) hg hm hv rfl hn hd) (of_tC fun _ => rfl)
end

/-! ### built-in functions -/
theorem go_drop1 {F B H : Hp} {as as1 : List Addr} (wf : WF F B H (as1 ++ as)) : Go F B H (as1 ++ as) F H ([] ++ as) := (Go.refl wf).sub fun p => by rw [List.nil_append, List.count_append]; omega
/-- one argument, data in, a scalar out -/
def f1 (g : D → Option D) : List R → M R := fun rs L => match rs with
  | [r] => match r.get L with
    | some w => match g w.rd with
      | some d => .ok (.val (.frz d)) L
      | none => .bad
    | none => .bad
  | _ => .bad
def f2 (g : D → D → Option D) : List R → M R := fun rs L => match rs with
  | [r, u] => mkS g r u L
  | _ => .bad
theorem f1_ok {K : PySem.W.Frag} {r : List V → Hp → VK → Prop} {g : D → Option D} (hg : ∀ H d v e Q, Rep K H d v → g d = some e → (∀ v, (∀ F, Rep K F e v) → Q v H) → r [v] H Q) : CallOk K r (f1 g) := fun Wx σ F B H L as as1 rs vs Q wf s rr h => by
  unfold f1 at h
  split at h
  · rename_i r
    obtain ⟨v, t, a1, a2, ev, ea, rv, et, ea2⟩ := rr
    subst ev et ea
    split at h
    · rename_i w ew
      split at h
      · rename_i d ed
        exact hg H w.rd v d Q (rv.rd wf.f wf.b s ew) ed fun v hv => h v F H [] as (go_drop1 wf) s ⟨hv _, rfl⟩
      · exact h.elim
    · exact h.elim
  · exact h.elim
theorem f2_ok {K : PySem.W.Frag} {r : List V → Hp → VK → Prop} {g : D → D → Option D} (hg : ∀ H d1 d2 v1 v2 e Q, Rep K H d1 v1 → Rep K H d2 v2 → g d1 d2 = some e → (∀ v, (∀ F, Rep K F e v) → Q v H) → r [v1, v2] H Q) : CallOk K r (f2 g) := fun Wx σ F B H L as as1 rs vs Q wf s rr h => by
  unfold f2 at h
  split at h
  · rename_i r u
    obtain ⟨v, t, a1, a2, ev, ea, rv, v2, t2, b1, b2, ev2, eb, rv2, et, ea2⟩ := rr
    subst ev et ea ev2 eb
    unfold mkS at h
    split at h
    · rename_i w1 w2 e1 e2
      split at h
      · rename_i d ed
        exact hg H _ _ v v2 d Q (rv.rd wf.f wf.b s e1) (rv2.rd wf.f wf.b s e2) ed fun v hv => h v F H [] as (go_drop1 wf) s ⟨hv _, rfl⟩
      · exact h.elim
    · exact h.elim
  · exact h.elim
def lenD : D → Option D
  | .str y => if y.length ≤ sizeLine then some (.int y.length) else none
  | .lst xs => some (.int xs.length)
  | .lok xs => some (.int xs.length)
  | .tup xs => some (.int xs.length)
  | _ => none
theorem ok_len {K : PySem.W.Frag} : CallOk K (fun xs H Q => ∃ x n, xs = [x] ∧ LenV K x H n ∧ Q (.int n) H) (f1 lenD) := f1_ok fun H d v e Q r h q => by
  cases d with
  | str y => cases r; obtain ⟨c, rfl⟩ := ite_some (show (if y.length ≤ sizeLine then some (D.int y.length) else none) = some e from h); exact ⟨_, y.length, rfl, ⟨c, rfl⟩, q _ fun _ => rfl⟩
  | lst xs => cases h; obtain ⟨a, vs, e1, hq, r⟩ := r; subst e1; exact ⟨_, xs.length, rfl, .inl ⟨vs, .inl (.inl hq), by rw [r.len]⟩, q _ fun _ => rfl⟩
  | lok xs => cases h; obtain ⟨a, vs, e1, hq, r⟩ := r; subst e1; exact ⟨_, xs.length, rfl, .inl ⟨vs, hq, by rw [r.len]⟩, q _ fun _ => rfl⟩
  | tup xs => cases h; obtain ⟨a, vs, e1, hq, r⟩ := r; subst e1; exact ⟨_, xs.length, rfl, .inr ⟨vs, hq, by rw [r.len]⟩, q _ fun _ => rfl⟩
  | _ => cases h
def absD : D → Option D
  | .int i => some (.int (if i < 0 then -i else i))
  | _ => none
theorem ok_abs {K : PySem.W.Frag} : CallOk K (fun xs H Q => ∃ i, xs = [.int i] ∧ Q (.int (if i < 0 then -i else i)) H) (f1 absD) := f1_ok fun H d v e Q r h q => by
  cases d with
  | int i => cases r; cases h; exact ⟨i, rfl, q _ fun _ => rfl⟩
  | _ => cases h
def intD : D → Option D
  | .int i => some (.int i)
  | .bl k => some (.int (if k then 1 else 0))
  | _ => none
theorem ok_int {K : PySem.W.Frag} : CallOk K (fun xs H Q => (∃ i, xs = [.int i] ∧ Q (.int i) H) ∨ ∃ k, xs = [.bl k] ∧ Q (.int (if k then 1 else 0)) H) (f1 intD) := f1_ok fun H d v e Q r h q => by
  cases d with
  | int i => cases r; cases h; exact .inl ⟨i, rfl, q _ fun _ => rfl⟩
  | bl k => cases r; cases h; exact .inr ⟨k, rfl, q _ fun _ => rfl⟩
  | _ => cases h
def strD : D → Option D
  | .int i => if i.natAbs.log2 < 1920 then some (.str (toString i)) else none
  | _ => none
theorem ok_str {K : PySem.W.Frag} : CallOk K (fun xs H Q => ∃ i, xs = [.int i] ∧ i.natAbs.log2 < 1920 ∧ Q (.str (toString i)) H) (f1 strD) := f1_ok fun H d v e Q r h q => by
  cases d with
  | int i => cases r; obtain ⟨c, rfl⟩ := ite_some (show (if i.natAbs.log2 < 1920 then some (D.str (toString i)) else none) = some e from h); exact ⟨i, rfl, c, q _ fun _ => rfl⟩
  | _ => cases h
def maxD : D → D → Option D := gI fun i j => some (.int (if j > i then j else i))
def minD : D → D → Option D := gI fun i j => some (.int (if j < i then j else i))
theorem ok_max2 {K : PySem.W.Frag} : CallOk K (fun xs H Q => ∃ i j, xs = [.int i, .int j] ∧ Q (.int (if j > i then j else i)) H) (f2 maxD) := f2_ok fun H d1 d2 v1 v2 e Q r1 r2 h q => by
  obtain ⟨i, j, rfl, rfl, h⟩ := gI_of h
  cases r1; cases r2; cases h
  exact ⟨i, j, rfl, q _ fun _ => rfl⟩
theorem ok_min2 {K : PySem.W.Frag} : CallOk K (fun xs H Q => ∃ i j, xs = [.int i, .int j] ∧ Q (.int (if j < i then j else i)) H) (f2 minD) := f2_ok fun H d1 d2 v1 v2 e Q r1 r2 h q => by
  obtain ⟨i, j, rfl, rfl, h⟩ := gI_of h
  cases r1; cases r2; cases h
  exact ⟨i, j, rfl, q _ fun _ => rfl⟩
/-- a list of ints -/
def intsD : List D → Option (List Int)
  | [] => some []
  | .int i :: r => (intsD r).map (i :: ·)
  | _ => none
theorem ints_rep {K : PySem.W.Frag} {H : Hp} : ∀ {ds : List D} {vs : List V} {ns : List Int}, intsD ds = some ns → Reps K H ds vs → vs = ns.map V.int
  | [], _, _, e, h => by cases e; exact h
  | .int i :: ds, _, ns, e, ⟨v, r, e1, h, t⟩ => by
    obtain ⟨ms, em, rfl⟩ := map_some (f := (i :: ·)) e
    rw [e1, ints_rep em t, show v = .int i from h]
    rfl
  | .non :: _, _, _, e, _ => nomatch e
  | .bl _ :: _, _, _, e, _ => nomatch e
  | .str _ :: _, _, _, e, _ => nomatch e
  | .ty _ :: _, _, _, e, _ => nomatch e
  | .adr _ :: _, _, _, e, _ => nomatch e
  | .tup _ :: _, _, _, e, _ => nomatch e
  | .lst _ :: _, _, _, e, _ => nomatch e
  | .lok _ :: _, _, _, e, _ => nomatch e
  | .dct _ :: _, _, _, e, _ => nomatch e
  | .dcT _ :: _, _, _, e, _ => nomatch e
  | .obj _ _ :: _, _, _, e, _ => nomatch e
def strsD : List D → Option (List Str)
  | [] => some []
  | .str i :: r => (strsD r).map (i :: ·)
  | _ => none
theorem strs_rep {K : PySem.W.Frag} {H : Hp} : ∀ {ds : List D} {vs : List V} {ns : List Str}, strsD ds = some ns → Reps K H ds vs → vs = ns.map V.str
  | [], _, _, e, h => by cases e; exact h
  | .str i :: ds, _, ns, e, ⟨v, r, e1, h, t⟩ => by
    obtain ⟨ms, em, rfl⟩ := map_some (f := (i :: ·)) e
    rw [e1, strs_rep em t, show v = .str i from h]
    rfl
  | .non :: _, _, _, e, _ => nomatch e
  | .bl _ :: _, _, _, e, _ => nomatch e
  | .int _ :: _, _, _, e, _ => nomatch e
  | .ty _ :: _, _, _, e, _ => nomatch e
  | .adr _ :: _, _, _, e, _ => nomatch e
  | .tup _ :: _, _, _, e, _ => nomatch e
  | .lst _ :: _, _, _, e, _ => nomatch e
  | .lok _ :: _, _, _, e, _ => nomatch e
  | .dct _ :: _, _, _, e, _ => nomatch e
  | .dcT _ :: _, _, _, e, _ => nomatch e
  | .obj _ _ :: _, _, _, e, _ => nomatch e
def D.list? : D → Option (List D)
  | .lst ds => some ds
  | .lok ds => some ds
  | _ => none
theorem list_rep {K : PySem.W.Frag} {H : Hp} {d : D} {v : V} {ds : List D} (e : d.list? = some ds) (r : Rep K H d v) : ∃ a vs, v = .ref a ∧ SqL K H a vs ∧ Reps K H ds vs := by
  cases d with
  | lst xs => cases e; obtain ⟨a, vs, e1, q, r⟩ := r; exact ⟨a, vs, e1, .inl (.inl q), r⟩
  | lok xs => cases e; obtain ⟨a, vs, e1, q, r⟩ := r; exact ⟨a, vs, e1, q, r⟩
  | _ => cases e
def sumD (d : D) : Option D := (d.list?.bind intsD).map fun ns => .int ns.sum
theorem ok_sum {K : PySem.W.Frag} : CallOk K (rSum K) (f1 sumD) := f1_ok fun H d v e Q r h q => by
  obtain ⟨ns, en, rfl⟩ := map_some h
  obtain ⟨ds, ed, en⟩ := bind_some en
  obtain ⟨a, vs, e1, hq, rs⟩ := list_rep ed r
  exact ⟨a, ns, by rw [e1], by rw [← ints_rep en rs]; exact hq, q _ fun _ => rfl⟩
end BV

namespace BV
open PySem PySem.Spec PyProof.Rows L2

/-! ### sorted texts -/
def leS (a b : Str) : Bool := !ltCps b.cps.toList a.cps.toList
def insS (x : Str) : List Str → List Str
  | [] => [x]
  | y :: r => if leS x y = true then x :: y :: r else y :: insS x r
def sortS : List Str → List Str
  | [] => []
  | x :: r => insS x (sortS r)
theorem leS_iff {a b : Str} : leS a b = true ↔ a.cps.toList ≤ b.cps.toList := by
  unfold leS
  rw [ltCps_eq, Bool.not_eq_true', decide_eq_false_iff_not]
  exact Iff.rfl
theorem leS_refl (a : Str) : leS a a = true := leS_iff.mpr (List.le_refl _)
theorem leS_trans {a b c : Str} (h : leS a b = true) (k : leS b c = true) : leS a c = true := leS_iff.mpr (List.le_trans (leS_iff.mp h) (leS_iff.mp k))
theorem leS_total (a b : Str) : leS a b = true ∨ leS b a = true := by
  rw [leS_iff, leS_iff]
  exact List.le_total _ _
theorem str_ext {a b : Str} (h : a.cps.toList = b.cps.toList) : a = b := by
  cases a; cases b
  exact congrArg Str.mk (Array.toList_inj.mp h)
theorem leS_antisymm {a b : Str} (h : leS a b = true) (k : leS b a = true) : a = b := str_ext (List.le_antisymm (leS_iff.mp h) (leS_iff.mp k))
abbrev SortedS (l : List Str) : Prop := l.Pairwise fun a b => leS a b = true
theorem insS_perm (x : Str) : ∀ l, (insS x l).Perm (x :: l)
  | [] => .refl _
  | y :: r => by
    unfold insS
    split
    · exact .refl _
    · exact ((insS_perm x r).cons y).trans (.swap x y r)
theorem insS_sorted {x : Str} : ∀ {l : List Str}, SortedS l → SortedS (insS x l)
  | [], _ => by simp [insS, SortedS]
  | y :: r, h => by
    unfold insS
    rw [SortedS, List.pairwise_cons] at h
    split
    · rename_i hx
      refine List.pairwise_cons.mpr ⟨fun z hz => ?_, List.pairwise_cons.mpr h⟩
      rcases List.mem_cons.mp hz with e | e
      · subst e; exact hx
      · exact leS_trans hx (h.1 z e)
    · rename_i hx
      refine List.pairwise_cons.mpr ⟨fun z hz => ?_, insS_sorted h.2⟩
      rcases List.mem_cons.mp ((insS_perm x r).mem_iff.mp hz) with e | e
      · subst e
        rcases leS_total z y with q | q
        · exact absurd q hx
        · exact q
      · exact h.1 z e
theorem sortS_perm : ∀ l, (sortS l).Perm l
  | [] => .refl _
  | x :: r => (insS_perm x _).trans ((sortS_perm r).cons x)
theorem sortS_sorted : ∀ l, SortedS (sortS l)
  | [] => List.Pairwise.nil
  | x :: r => insS_sorted (sortS_sorted r)
theorem rising_pair : ∀ {p : Str} {l : List Str}, risingS p l = true → SortedS (p :: l)
  | p, [], _ => by simp [SortedS]
  | p, x :: r, h => by
    unfold risingS at h
    rw [Bool.and_eq_true] at h
    have ih := rising_pair h.2
    have hp : leS p x = true := h.1
    refine List.pairwise_cons.mpr ⟨fun z hz => ?_, ih⟩
    rcases List.mem_cons.mp hz with e | e
    · subst e; exact hp
    · exact leS_trans hp ((List.pairwise_cons.mp ih).1 z e)
theorem sortedS_pair {l : List Str} (h : sortedS l = true) : SortedS l := by
  cases l with
  | nil => exact .nil
  | cons x r => exact rising_pair h
theorem sorted_unique {l m : List Str} (p : l.Perm m) (h : SortedS l) (k : SortedS m) : l = m := p.eq_of_pairwise (le := fun a b => leS a b = true) (fun a b _ _ h k => leS_antisymm h k) h k
theorem sortS_of {l m : List Str} (p : l.Perm m) (h : sortedS l = true) : l = sortS m := sorted_unique (p.trans (sortS_perm m).symm) (sortedS_pair h) (sortS_sorted m)

/-- one argument in, a new list of texts out -/
def bSorted : List R → M R := fun rs L => match rs with
  | [r] => match r.get L with
    | some w => match w.rd.list?.bind strsD with
      | some xs => if xs.length < 64 then .ok (.val (.olst ((sortS xs).map fun x => .frz (.str x)))) L else .bad
      | none => .bad
    | none => .bad
  | _ => .bad
theorem repws_strs {K : PySem.W.Frag} {F B H : Hp} : ∀ xs : List Str, RepWs K F B H (xs.map fun x => .frz (.str x)) (xs.map V.str) []
  | [] => ⟨rfl, rfl⟩
  | x :: r => ⟨_, _, [], [], rfl, rfl, ⟨rfl, rfl⟩, repws_strs r⟩
theorem ok_sorted {K : PySem.W.Frag} : CallOk K (rSortedS K) bSorted := fun Wx σ F B H L as as1 rs vs Q wf s rr h => by
  unfold bSorted at h
  split at h
  · rename_i r
    obtain ⟨v, t, a1, a2, ev, ea, rv, et, ea2⟩ := rr
    subst ev et ea
    split at h
    · rename_i w ew
      split at h
      · rename_i xs ex
        obtain ⟨hz, h⟩ := of_ite h
        obtain ⟨ds, ed, en⟩ := bind_some ex
        obtain ⟨a, us, e1, hq, rs⟩ := list_rep ed (rv.rd wf.f wf.b s ew)
        refine ⟨a, xs, by rw [e1], by rw [← strs_rep en rs]; exact hq, hz, fun ys p pm so np => ?_⟩
        rw [sortS_of pm so]
        have g1 := go_drop1 wf
        exact h (.ref p) F _ [p] as (g1.trans (Go.alloc g1.wf np _)) (SRel.frame (Same.refl _) (Same.refl _) (keep_new np _) s) ⟨p, _, [], rfl, upd_same, rfl, repws_strs _⟩
      · exact h.elim
    · exact h.elim
  · exact h.elim
/-- list(x) -/
def bList : List R → M R := fun rs L => match rs with
  | [r] => match r.get L with
    | some w => match w.seq with
      | some ws => .ok (.val (.olst ws)) L
      | none => .bad
    | none => .bad
  | _ => .bad
abbrev rList (K : PySem.W.Frag) : List V → Hp → VK → Prop := fun xs H Q => ∃ p ys, xs = [.ref p] ∧ (SqL K H p ys ∨ SqT K H p ys) ∧ ∀ l, H l = none → Q (.ref l) (upd H l (.lst ys))
theorem ok_list {K : PySem.W.Frag} : CallOk K (rList K) bList := fun Wx σ F B H L as as1 rs vs Q wf s rr h => by
  unfold bList at h
  split at h
  · rename_i r
    obtain ⟨v, t, a1, a2, ev, ea, rv, et, ea2⟩ := rr
    subst ev et ea
    split at h
    · rename_i w ew
      split at h
      · rename_i ws es
        obtain ⟨bs, rw'⟩ := get_ok s rv ew
        obtain ⟨a, us, e1, hq, rs⟩ := seq_ok wf.f wf.b rw' es
        refine ⟨a, us, by rw [e1], hq, fun p np => ?_⟩
        have g1 := go_drop1 wf
        exact h (.ref p) F _ [p] as (g1.trans (Go.alloc g1.wf np _)) (SRel.frame (Same.refl _) (Same.refl _) (keep_new np _) s) ⟨p, _, [], rfl, upd_same, rfl, RepWs.frame (Same.refl _) (Same.refl _) (keep_new np _) rs⟩
      · exact h.elim
    · exact h.elim
  · exact h.elim
/-- tuple(x) -/
def mkT (ws : List W) : W := match frs ws with
  | some ds => .frz (.tup ds)
  | none => .otup ws
def W.isTup : W → Bool
  | .frz (.tup _) => true
  | .brw (.tup _) => true
  | _ => false
def W.isLst : W → Bool
  | .frz (.lst _) | .frz (.lok _) | .brw (.lst _) | .brw (.lok _) | .olst _ => true
  | _ => false
def bTuple : List R → M R := fun rs L => match rs with
  | [r] => match r.get L with
    | some w => if w.isTup = true then .ok (.val w) L else if w.isLst = true then match w.seq with
        | some ws => .ok (.val (mkT ws)) L
        | none => .bad
      else .bad
    | none => .bad
  | _ => .bad
abbrev rTuple (K : PySem.W.Frag) : List V → Hp → VK → Prop := fun xs H Q => ∃ p ys, xs = [.ref p] ∧ ((SqL K H p ys ∧ ∀ l, H l = none → Q (.ref l) (upd H l (.tup ys))) ∨ (SqT K H p ys ∧ Q (.ref p) H))
theorem mkT_ok {K : PySem.W.Frag} {F B H : Hp} {as : List Addr} {ws : List W} {vs : List V} {T : Addr} (wf : WF F B H as) (nT : H T = none) (r : RepWs K F B H ws vs []) :
    ∃ F2 asx, Go F B H as F2 (upd H T (.tup vs)) (asx ++ as) ∧ RepW K F2 B (upd H T (.tup vs)) (mkT ws) (.ref T) asx := by
  unfold mkT
  split
  · rename_i ds ed
    have g := Go.allocF wf nT (.tup vs)
    exact ⟨_, [], g, ⟨T, vs, rfl, .inl (.inl upd_same), RepWs.fr g.ext (fun q i => (in_nil i).elim) ed r⟩, rfl⟩
  · exact ⟨F, [T], Go.alloc wf nT _, T, vs, [], rfl, upd_same, rfl, RepWs.frame (Same.refl _) (Same.refl _) (keep_new nT _) r⟩
theorem ok_tuple {K : PySem.W.Frag} : CallOk K (rTuple K) bTuple := fun Wx σ F B H L as as1 rs vs Q wf s rr h => by
  unfold bTuple at h
  split at h
  · rename_i r
    obtain ⟨v, t, a1, a2, ev, ea, rv, et, ea2⟩ := rr
    subst ev et ea
    split at h
    · rename_i w ew
      obtain ⟨bs, rw'⟩ := get_ok s rv ew
      by_cases ht : w.isTup = true
      · rw [if_pos ht] at h
        have hs : ∃ ws, w.seq = some ws := by
          unfold W.isTup at ht
          split at ht
          · exact ⟨_, rfl⟩
          · exact ⟨_, rfl⟩
          · cases ht
        have hn : w.no = true := by
          unfold W.isTup at ht
          split at ht
          · rfl
          · rfl
          · cases ht
        have z := no_nil hn rw'
        subst z
        have hT : ∃ a ys, v = .ref a ∧ SqT K H a ys := by
          unfold W.isTup at ht
          split at ht
          · obtain ⟨⟨a, ys, e, q, _⟩, _⟩ := rw'; exact ⟨a, ys, e, sameSqT wf.f q⟩
          · obtain ⟨⟨a, ys, e, q, _⟩, _⟩ := rw'; exact ⟨a, ys, e, sameSqT wf.b q⟩
          · cases ht
        obtain ⟨a, ys, e, q⟩ := hT
        subst e
        exact ⟨a, ys, rfl, .inr ⟨q, h (.ref a) F H [] as (go_drop1 wf) s rw'⟩⟩
      · rw [if_neg ht] at h
        by_cases hl : w.isLst = true
        · rw [if_pos hl] at h
          split at h
          · rename_i ws es
            obtain ⟨a, us, e1, hq, rs⟩ := seq_ok wf.f wf.b rw' es
            have hL : ∃ a ys, v = .ref a ∧ SqL K H a ys ∧ RepWs K F B H ws ys [] := by
              unfold W.isLst at hl
              split at hl
              · cases es; obtain ⟨⟨a, ys, e, q, r⟩, _⟩ := rw'; exact ⟨a, ys, e, .inl (.inl (wf.f _ _ q)), reps_frz r⟩
              · cases es; obtain ⟨⟨a, ys, e, q, r⟩, _⟩ := rw'; exact ⟨a, ys, e, wf.f.seq q, reps_frz r⟩
              · cases es; obtain ⟨⟨a, ys, e, q, r⟩, _⟩ := rw'; exact ⟨a, ys, e, .inl (.inl (wf.b _ _ q)), reps_brw r⟩
              · cases es; obtain ⟨⟨a, ys, e, q, r⟩, _⟩ := rw'; exact ⟨a, ys, e, wf.b.seq q, reps_brw r⟩
              · rename_i us2
                have es' : (if us2.all W.no = true then some us2 else none) = some ws := es
                split at es'
                · rename_i hn
                  cases es'
                  obtain ⟨a, ys, bs, e, q, eb, r⟩ := rw'
                  have := nos_nil hn r
                  subst this
                  exact ⟨a, ys, e, .inl (.inl q), r⟩
                · cases es'
              · cases hl
            obtain ⟨a, ys, e, q, r⟩ := hL
            subst e
            refine ⟨a, ys, rfl, .inl ⟨q, fun p np => ?_⟩⟩
            have g1 := go_drop1 wf
            obtain ⟨F2, asx, g2, r2⟩ := mkT_ok g1.wf np r
            exact h (.ref p) F2 _ asx as (g1.trans g2) (SRel.frame g2.ext (Same.refl _) (keep_new np _) s) r2
          · exact h.elim
        · rw [if_neg hl] at h
          exact h.elim
    · exact h.elim
  · exact h.elim

/-! ### isinstance -/
/-- an own class whose instances isinstance may be asked of -/
structure IsC (K : PySem.W.Frag) (C : Addr) : Prop where
  cl : Cls K C
  ha : PySem.W.findIn K (.ref C) "__class__" = some (some (.builtin "object.__class__"))
  hn : PySem.W.specialIn K (.builtin "object.__class__") "__get__" = some (some (.builtin "getset_descriptor.__get__"))
  htk : PySem.W.takesIn K (.builtin "object.__class__") = some true
  hm : PySem.W.mroIn K C (.type "object") = some true
def D.type (cs : List Addr) : D → Option Value
  | .non => some (.type "NoneType")
  | .bl _ => some (.type "bool")
  | .int _ => some (.type "int")
  | .str _ => some (.type "str")
  | .lst _ => some (.type "list")
  | .tup _ => some (.type "tuple")
  | .dct _ => some (.type "dict")
  | .dcT _ => some (.type "dict")
  | .obj C _ => if C ∈ cs then some (.ref C) else none
  | _ => none
def D.asCls : D → Option Value
  | .ty n => some (.type n)
  | .adr C => some (.ref C)
  | _ => none
/-- isinstance's answer, by the written part -/
def isi (K : PySem.W.Frag) (cs : List Addr) (x c : D) : Option D := match x.type cs, c.asCls with
  | some t, some u => (PySem.W.kitOne K t u).map .bl
  | _, _ => none
theorem type_ok {K : PySem.W.Frag} {cs : List Addr} (hcs : ∀ C ∈ cs, IsC K C) {H : Hp} {d : D} {v : V} {t : Value} (r : Rep K H d v) (e : d.type cs = some t) : TyX K H v t := by
  cases d with
  | non => cases r; cases e; exact .base .non
  | bl b => cases r; cases e; exact .base (.bl b)
  | int i => cases r; cases e; exact .base (.int i)
  | str x => cases r; cases e; exact .base (.str x)
  | lst xs => obtain ⟨a, vs, e1, q, _⟩ := r; subst e1; cases e; exact .base (.lst q)
  | tup xs =>
    obtain ⟨a, vs, e1, q, _⟩ := r
    subst e1
    cases e
    rcases q with (q | ⟨o, q⟩) | ⟨o, its, n, hk, hc, _⟩
    · exact .base (.tup q)
    · exact .fTuple q
    · exact .kTuple hk hc
  | dct xs => obtain ⟨a, vs, e1, q, _⟩ := r; subst e1; cases e; exact .base (.dK q)
  | dcT xs => obtain ⟨a, vs, e1, q, _⟩ := r; subst e1; cases e; exact .base (.dT q)
  | obj C fs =>
    obtain ⟨a, dx, vs, e1, q, _⟩ := r
    subst e1
    obtain ⟨hC, rfl⟩ := ite_some (show (if C ∈ cs then some (Value.ref C) else none) = some t from e)
    have c := hcs C hC
    exact .base (.ins q c.cl c.ha c.hn c.htk c.hm)
  | _ => cases e
theorem ok_isi {K : PySem.W.Frag} (cs : List Addr) (hcs : ∀ C ∈ cs, IsC K C) : CallOk K (rIsi K) (f2 (isi K cs)) := f2_ok fun H d1 d2 v1 v2 e Q r1 r2 h q => by
  unfold isi at h
  split at h
  · rename_i t u et eu
    obtain ⟨b, eb, rfl⟩ := map_some h
    have hc : ClsV v2 u := by
      cases d2 with
      | ty n => cases r2; cases eu; exact .ty n
      | adr C => cases r2; cases eu; exact .own C
      | _ => cases eu
    exact ⟨v1, v2, t, u, b, rfl, hc, type_ok hcs r1 et, eb, q _ fun _ => rfl⟩
  · cases h

/-! ### methods of what is built in -/
/-- l.append(e): l slot i's own list -/
def gAppend (x : R) (rs : List R) : M R := fun L => match x, rs with
  | .al i, [r] => (toF r L).bind fun d L1 => match L1[i]? with
    | some (some (.olst ws)) => if ws.length < sizeLine then .ok (sc .non) (L1.set i (some (.olst (ws ++ [.frz d])))) else .bad
    | _ => .bad
  | _, _ => .bad
/-- slot i's own list gets other items -/
theorem list_write {K : PySem.W.Frag} {F B H : Hp} {as : List Addr} {σ : L2.St} {L : Lc} {i : Nat} {ws : List W} (wf : WF F B H as) (s : SRel K F B H σ L as) (e : L[i]? = some (some (.olst ws))) :
    ∃ a vs bs pre post, σ[i]? = some (some (.ref a)) ∧ H a = some (.lst vs) ∧ RepWs K F B H ws vs bs ∧ as = pre ++ ((a :: bs) ++ post) ∧
      ∀ (ws' : List W) (vs' : List V) (bs' : List Addr), RepWs K F B H ws' vs' bs' → (∀ p, List.count p bs' ≤ List.count p bs) → ∃ as', Go F B H as F (upd H a (.lst vs')) as' ∧ SRel K F B (upd H a (.lst vs')) σ (L.set i (some (.olst ws'))) as' := by
  obtain ⟨s0, pre, a1, post, k1, ⟨v, ev, a, vs, bs, e1, q, eb, r⟩, ea, k⟩ := SRel.at s e
  subst ev e1 eb ea
  refine ⟨a, vs, bs, pre, post, k1, q, r, rfl, fun ws' vs' bs' r' hb => ?_⟩
  have nd := wf.nd a
  have kp : ∀ l : List Addr, (∀ p, List.count p (a :: l) ≤ List.count p (pre ++ ((a :: bs) ++ post))) → Kept l H (upd H a (.lst vs')) := fun l hl p ip o eo => by
    rw [upd_ne (fun z => by
      subst z
      have := hl p
      rw [List.count_cons_self] at this
      have ip' : 0 < List.count p l := ip
      omega)]
    exact eo
  have g := Go.write (F := F) (B := B) (p := a) wf (by unfold In; simp only [List.count_append, List.count_cons_self]; omega) (.lst vs')
  have r2 := RepWs.frame (Same.refl F) (Same.refl B) (kp bs' fun p => by have := hb p; simp only [List.count_append, List.count_cons]; omega) r'
  have s3 := k F B _ (some (.ref a)) (some (.olst ws')) (a :: bs') (Same.refl _) (Same.refl _) (kp (pre ++ post) fun p => by simp only [List.count_append, List.count_cons]; omega) ⟨.ref a, rfl, a, vs', bs', rfl, upd_same, rfl, r2⟩
  rw [set_same k1] at s3
  exact ⟨_, g.sub fun p => by have := hb p; simp only [List.count_append, List.count_cons]; omega, s3⟩
theorem ok_append {K : PySem.W.Frag} : MtOk K rAppend gAppend := fun Wx σ F B H L as as0 as1 rx x rs vs Q wf s r0 rr h => by
  unfold gAppend at h
  split at h
  · rename_i i r
    obtain ⟨hx, rfl⟩ := r0
    obtain ⟨v, t, a1, a2, ev, ea, rv, et, ea2⟩ := rr
    subst ev et ea ea2
    obtain ⟨d, L1, ed, h1⟩ := toF_end (End.bind h)
    have wf' : WF F B H (a1 ++ as) := wf.sub fun p => by simp only [List.nil_append, List.append_nil]; exact Nat.le_refl _
    obtain ⟨F1, as2, g1, s1, q1⟩ := toF_ok wf' s rv ed
    split at h1
    · rename_i ws el
      obtain ⟨hz, h2⟩ := of_ite h1
      obtain ⟨a, us, bs, pre, post, k1, q, r, ea3, upd'⟩ := list_write g1.wf s1 el
      rw [hx] at k1
      cases k1
      obtain ⟨as', g2, s2⟩ := upd' (ws ++ [.frz d]) (us ++ [v]) (bs ++ []) (RepWs.snoc r (show RepW K F1 B H (.frz d) v [] from ⟨q1, rfl⟩)) fun p => by rw [List.append_nil]; exact Nat.le_refl _
      refine ⟨a, us, v, rfl, rfl, q, by rw [r.len]; exact hz, ?_⟩
      exact h2 .non F1 _ [] as' ((g1.sup fun p => by simp only [List.nil_append, List.append_nil]; exact Nat.le_refl _).trans g2) s2 ⟨rfl, rfl⟩
    · exact h1.elim
  · exact h.elim
/-- a method that reads data and gives a scalar -/
def g1 (g : D → D → Option D) (x : R) (rs : List R) : M R := fun L => match rs with
  | [r] => mkS g x r L
  | _ => .bad
theorem g1_ok {K : PySem.W.Frag} {r : V → List V → Hp → VK → Prop} {g : D → D → Option D} (hg : ∀ H d1 d2 v1 v2 e Q, Rep K H d1 v1 → Rep K H d2 v2 → g d1 d2 = some e → (∀ v, (∀ F, Rep K F e v) → Q v H) → r v1 [v2] H Q) : MtOk K r (g1 g) := fun Wx σ F B H L as as0 as1 rx x rs vs Q wf s r0 rr h => by
  unfold g1 at h
  split at h
  · rename_i u
    obtain ⟨v, t, a1, a2, ev, ea, rv, et, ea2⟩ := rr
    subst ev et ea
    unfold mkS at h
    split at h
    · rename_i w1 w2 e1 e2
      split at h
      · rename_i d ed
        exact hg H _ _ x v d Q (r0.rd wf.f wf.b s e1) (rv.rd wf.f wf.b s e2) ed fun v hv => h v F H [] as ((Go.refl wf).sub fun p => by simp only [List.nil_append, List.count_append]; omega) s ⟨hv _, rfl⟩
      · exact h.elim
    · exact h.elim
  · exact h.elim
def joinD : D → D → Option D
  | .str a, d => (d.items.bind strsD).bind fun ys => if (ys.map (·.length)).sum + ys.length * a.length ≤ 16777216 then some (.str (Txt.join a ys)) else none
  | _, _ => none
abbrev rJoin (K : PySem.W.Frag) : V → List V → Hp → VK → Prop := fun x xs H Q => ∃ a p, ∃ ys : List Str, x = .str a ∧ xs = [.ref p] ∧ (SqL K H p (ys.map V.str) ∨ SqT K H p (ys.map V.str)) ∧ (ys.map (·.length)).sum + ys.length * a.length ≤ 16777216 ∧ Q (.str (Txt.join a ys)) H
theorem ok_join {K : PySem.W.Frag} : MtOk K (rJoin K) (g1 joinD) := g1_ok fun H d1 d2 v1 v2 e Q r1 r2 h q => by
  cases d1 with
  | str a =>
    obtain ⟨ys, ey, h⟩ := bind_some (show ((d2.items.bind strsD).bind fun ys => if (ys.map (·.length)).sum + ys.length * a.length ≤ 16777216 then some (D.str (Txt.join a ys)) else none) = some e from h)
    obtain ⟨hz, rfl⟩ := ite_some h
    obtain ⟨ds, ed, es⟩ := bind_some ey
    obtain ⟨p, vs, e2, hq, rs⟩ := items_rep ed r2
    cases r1
    have ev := strs_rep es rs
    subst ev
    exact ⟨a, p, ys, rfl, by rw [e2], hq, hz, q _ fun _ => rfl⟩
  | _ => cases h
def sindexD : D → D → Option D
  | .str a, .str b => match Builtin.Str.occurrences a b 0 a.length 1 with
    | i :: _ => some (.int (i : Nat))
    | [] => none
  | _, _ => none
abbrev rSindex : V → List V → Hp → VK → Prop := fun x xs H Q => ∃ a b i rest, x = .str a ∧ xs = [.str b] ∧ Builtin.Str.occurrences a b 0 a.length 1 = i :: rest ∧ Q (.int (i : Nat)) H
theorem ok_sindex {K : PySem.W.Frag} : MtOk K rSindex (g1 sindexD) := g1_ok fun H d1 d2 v1 v2 e Q r1 r2 h q => by
  cases d1 with
  | str a => cases d2 with
    | str b =>
      cases r1; cases r2
      have h' : (match Builtin.Str.occurrences a b 0 a.length 1 with
        | i :: _ => some (D.int (i : Nat))
        | [] => none) = some e := h
      split at h'
      · rename_i i rest eo
        cases h'
        exact ⟨a, b, i, rest, rfl, rfl, eo, q _ fun _ => rfl⟩
      · cases h'
    | _ => cases h
  | _ => cases h

/-! ### x[i] = e -/
def sSetIx (i : Nat) (mi me : M R) : MS := fun L => (me L).thenS fun r L1 => (toF r L1).thenS fun d L2 => match L2[i]? with
  | some (some _) => (mi L2).thenS fun k L3 => match k, L3[i]? with
    | .val (.frz (.int j)), some (some (.olst ws)) => match ixN ws.length j with
      | some n => .next (L3.set i (some (.olst (ws.set n (.frz d)))))
      | none => .bad
    | _, _ => .bad
  | _ => .bad
theorem RepWs.set {K : PySem.W.Frag} {F B H : Hp} {w : W} {v : V} (q : RepW K F B H w v []) : ∀ {ws : List W} {vs : List V} {as : List Addr} (n : Nat), RepWs K F B H ws vs as → ∃ as', (∀ p, List.count p as' ≤ List.count p as) ∧ RepWs K F B H (ws.set n w) (vs.set n v) as'
  | [], _, _, n, h => by
    obtain ⟨rfl, rfl⟩ := h
    exact ⟨[], fun _ => Nat.le_refl _, rfl, rfl⟩
  | u :: ws, _, _, 0, ⟨x, r, a1, a2, e, ea, h, t⟩ => by
    subst e ea
    exact ⟨a2, fun p => by rw [List.count_append]; omega, v, r, [], a2, rfl, rfl, q, t⟩
  | u :: ws, _, _, n + 1, ⟨x, r, a1, a2, e, ea, h, t⟩ => by
    subst e ea
    obtain ⟨as', k, t'⟩ := RepWs.set q n t
    exact ⟨a1 ++ as', fun p => by have := k p; simp only [List.count_append]; omega, x, _, a1, as', rfl, rfl, h, t'⟩
section
variable {X : Cx} {Wx : WX} {fl : List Bool} {i : Nat} {x : Str} {e b : Expr} {mi me : M R} {pos pos' px : Pos}
theorem setIx_rel : ∀ T σ H, bvS X.K Wx fl (sSetIx i mi me) T σ H → tAsg (bvE X.K Wx me) (gSub (tVar i) (bvE X.K Wx mi) rSetL) T σ H := fun T σ H ⟨F, B, L, as, wf, s, h⟩ => by
  refine ⟨F, B, L, as, wf, s, (EndS.thenS h).imp fun r L1 h1 v F1 H1 asr as1 g1 s1 r1 => ?_⟩
  obtain ⟨d, L2, e2, h2⟩ := toF_endS h1
  obtain ⟨F2, as2, g2, s2, q2⟩ := toF_ok g1.wf s1 r1 e2
  split at h2
  · rename_i w0 e0
    obtain ⟨s0, pre0, b0, post0, k0, ⟨vx, evx, _⟩, _, _⟩ := SRel.at s2 e0
    subst evx
    refine ⟨vx, k0, F2, B, L2, as2, g2.wf, s2, ((EndS.thenS h2).behind (g1.trans g2) fun _ _ h => h).imp fun k L3 h3 u F3 H3 asr3 as3 g3 s3 r3 => ?_⟩
    split at h3
    · rename_i j ws el
      split at h3
      · rename_i n en
        have g3' := g3.sub (le_r asr3 as3)
        obtain ⟨a, vs, bs, pre, post, k1, q, rr, ea, wr⟩ := list_write g3'.wf s3 el
        rw [k0] at k1
        cases k1
        have rv : RepW X.K F3 B H3 (.frz d) v [] := ⟨q2.mono g3'.ext, rfl⟩
        obtain ⟨bs', kb, rs'⟩ := RepWs.set rv n rr
        obtain ⟨as', g4, s4⟩ := wr _ _ bs' rs' kb
        refine ⟨a, vs, j, n, rfl, r3.1, q, by rw [rr.len]; exact en, ?_⟩
        exact h3 σ F3 _ as' (((g1.trans g2).trans g3').trans g4) s4 (Pin.refl _ _)
      · exact h3.elim
    · exact h3.elim
  · exact h2.elim
theorem bs_setIx (hN : X.N[i]? = some x) (hv : Vis X.env.scope x) (hd : (x == ("__debug__" : Str)) = false) (hcd : (x == ("__classdict__" : Str)) = false) (hi : PE X b (bvE X.K Wx mi)) (he : PE X e (bvE X.K Wx me))
    (hs : swapsWithSole [.Subscript (.Name x px) b pos'] e pos.line X.env = pure false := by rfl) (hw : swappedStores [.Subscript (.Name x px) b pos'] e X.env = pure none := by rfl) (h1 : (assignEach [.Subscript (.Name x px) b pos'] X.env).map (·.2) = [assign (.Subscript (.Name x px) b pos') X.env] := by rfl)
    (ha : ∀ v, assign (.Subscript (.Name x px) b pos') X.env v = (do
      let ov ← holding [v] (eval (.Name x px) X.env)
      let iv ← holding [v, ov] (eval b X.env)
      standAt pos'
      holding [v, ov, iv] (setItem ov iv v)
      release [v, ov, iv] []) := by intro _; rfl) :
    PS X (.Assign [.Subscript (.Name x px) b pos'] e pos) (bvS X.K Wx fl (sSetIx i mi me)) := ps_imp (ps_asg he (pg_sub (pe_var hN hv hd hcd) hi set_list ha) hs hw h1) setIx_rel
end

/-! ### x += e, x -= e -/
def sAug (fl : List Bool) (i : Nat) (g : R → R → M R) (m : M R) : MS := fun L => match L[i]? with
  | some (some (.frz d)) => (m L).thenS fun r L1 => (g (sc d) r L1).thenS fun z L2 => asgn fl i z L2
  | _ => .bad
section
variable {X : Cx} {Wx : WX} {fl : List Bool} {i : Nat} {x : Str} {e : Expr} {m : M R} {op : Operator} {r : R2} {g : R → R → M R} {pos pos' : Pos}
theorem aug_rel (hg : OpOk X.K r g) : ∀ T σ H, bvS X.K Wx fl (sAug fl i g m) T σ H → tAug i (bvE X.K Wx m) r T σ H := fun T σ H ⟨F, B, L, as, wf, s, h⟩ => by
  unfold sAug at h
  split at h
  · rename_i d ed
    obtain ⟨s0, pre0, b0, post0, k0, ⟨vx, evx, rd, rb⟩, _, _⟩ := SRel.at s ed
    subst evx rb
    refine ⟨vx, k0, F, B, L, as, wf, s, (EndS.thenS h).imp fun r1 L1 h1 v F1 H1 asr as1 g1 s1 r1' => ?_⟩
    refine hg Wx σ F1 B H1 L1 as1 [] asr (sc d) r1 vx v _ g1.wf s1 ⟨rd.mono g1.ext, rfl⟩ r1' ((EndS.thenS h1).behind g1 fun z L2 h2 vz F2 H2 asz as2 g2 s2 rz => ?_)
    exact set_ok g2.wf s2 rz (EndS.behind (g1.trans g2) (Pin.refl _ _) h2)
  · exact h.elim
theorem bs_aug (hN : X.N.Nodup) (hi : X.N[i]? = some x) (hx : L2.Loc X.env.scope x) (ho : OpR X (inplaceOp op) r) (hg : OpOk X.K r g) (he : PE X e (bvE X.K Wx m)) (hf : X.fn x = true ∨ X.env.scope.names.lookup x = some .local := by first | exact .inl rfl | exact .inr rfl | assumption) :
    PS X (.AugAssign (.Name x pos') op e pos) (bvS X.K Wx fl (sAug fl i g m)) := ps_imp (ps_aug hN hi hx he (fun pins s σ H x y v u Q I r1 r2 h => ho pins s σ H x y v u Q I r1 r2 h) hf) (aug_rel hg)
theorem iop_sub : OpR X (inplaceOp .Sub) (rI0 fun i j => .int (i - j)) := opI0 fun _ _ _ _ _ _ _ q => isub_int q
theorem iop_addU : OpR X (inplaceOp .Add) (fun x y H Q => rI0 (fun i j => .int (i + j)) x y H Q ∨ rCatS x y H Q) := opr_or iop_add iop_add_str
theorem ok_iaddU : OpOk X.K (fun x y H Q => rI0 (fun i j => .int (i + j)) x y H Q ∨ rCatS x y H Q) (gOr aAdd aCatS) := .or ok_addI ok_catS
end

/-! ### slices -/
def pNone : M (Option Int) := fun L => .ok none L
def pSome (m : M R) : M (Option Int) := fun L => (m L).bind fun r L1 => match r with
  | .val (.frz (.int i)) => .ok (some i) L1
  | _ => .bad
def okO (K : PySem.W.Frag) (F B H : Hp) (as : List Addr) (σ : L2.St) (Q : Option Int → Hp → Prop) : Option Int → Lc → Prop := fun o L => ∀ F' H' as', Go F B H as F' H' as' → SRel K F' B H' σ L as' → Q o H'
def bvO (K : PySem.W.Frag) (Wx : WX) (m : M (Option Int)) : TO := fun σ H Q => ∃ F B L as, WF F B H as ∧ SRel K F B H σ L as ∧ End K Wx F B H as σ (okO K F B H as σ Q) (m L)
theorem po_imp {X : Cx} {e : Option Expr} {t u : TO} (h : PO X e t) (q : ∀ σ H Q, u σ H Q → t σ H Q) : PO X e u := ⟨fun pins s σ H Q I w => h.run pins s σ H Q I (q _ _ _ w)⟩
section
variable {X : Cx} {Wx : WX} {e : Expr} {lo hi : Option Expr} {m : M R} {ml mh : M (Option Int)} {pos p2 : Pos}
theorem bo_none : PO X none (bvO X.K Wx pNone) := po_imp po_none fun σ H Q ⟨F, B, L, as, wf, s, h⟩ => h F H as (Go.refl wf) s
theorem bo_some (he : PE X e (bvE X.K Wx m)) : PO X (some e) (bvO X.K Wx (pSome m)) := po_imp (po_some he) fun σ H Q ⟨F, B, L, as, wf, s, h⟩ => by
  refine ⟨F, B, L, as, wf, s, (End.bind h).imp fun r L1 h1 v F1 H1 asr as1 g1 s1 r1 => ?_⟩
  split at h1
  · rename_i i
    exact ⟨i, r1.1, h1 F1 H1 as1 (g1.sub (le_r _ _)) s1⟩
  · exact h1.elim
def cutL {α : Type} (xs : List α) (lo hi : Option Int) : List α := (xs.drop (HT.sIx xs.length 0 lo)).take (HT.sIx xs.length xs.length hi - HT.sIx xs.length 0 lo)
/-- a[lo:hi] by what a is -/
def slW (w : W) (lo hi : Option Int) : Option W := match w.str? with
  | some z => if z.length ≤ sizeLine then some (.frz (.str (cutS z lo hi))) else none
  | none => if w.isLst = true then (w.seq.map fun ws => .olst (cutL ws lo hi)) else none
def mSl (m : M R) (ml mh : M (Option Int)) : M R := fun L => (m L).bind fun r L1 => (ml L1).bind fun l L2 => (mh L2).bind fun h L3 => match r.get L3 with
  | some w => match slW w l h with
    | some u => .ok (.val u) L3
    | none => .bad
  | none => .bad
abbrev rSlU (K : PySem.W.Frag) : V → Option Int → Option Int → Hp → VK → Prop := fun x lo hi H Q => rSlL K x lo hi H Q ∨ rSlS x lo hi H Q
theorem repws_cut {K : PySem.W.Frag} {F B H : Hp} : ∀ {ws : List W} {vs : List V}, RepWs K F B H ws vs [] → ∀ n, RepWs K F B H (ws.drop n) (vs.drop n) [] ∧ RepWs K F B H (ws.take n) (vs.take n) []
  | [], vs, h, n => by rw [show vs = [] from h.1]; simp [RepWs]
  | w :: ws, vs, h, 0 => ⟨h, rfl, rfl⟩
  | w :: ws, vs, ⟨v, r, a1, a2, e, ea, h, t⟩, n + 1 => by
    obtain ⟨rfl, rfl⟩ := List.append_eq_nil_iff.mp ea.symm
    subst e
    obtain ⟨h1, h2⟩ := repws_cut t n
    exact ⟨h1, v, _, [], [], rfl, rfl, h, h2⟩
theorem lst_rep {K : PySem.W.Frag} {F B H : Hp} (sF : Same F H) (sB : Same B H) {w : W} {v : V} {as : List Addr} {ws : List W} (hl : w.isLst = true) (h : RepW K F B H w v as) (es : w.seq = some ws) : ∃ a ys, v = .ref a ∧ SqL K H a ys ∧ RepWs K F B H ws ys [] := by
  unfold W.isLst at hl
  split at hl
  · cases es; obtain ⟨⟨a, ys, e, q, r⟩, _⟩ := h; exact ⟨a, ys, e, .inl (.inl (sF _ _ q)), reps_frz r⟩
  · cases es; obtain ⟨⟨a, ys, e, q, r⟩, _⟩ := h; exact ⟨a, ys, e, sF.seq q, reps_frz r⟩
  · cases es; obtain ⟨⟨a, ys, e, q, r⟩, _⟩ := h; exact ⟨a, ys, e, .inl (.inl (sB _ _ q)), reps_brw r⟩
  · cases es; obtain ⟨⟨a, ys, e, q, r⟩, _⟩ := h; exact ⟨a, ys, e, sB.seq q, reps_brw r⟩
  · rename_i us2
    have es' : (if us2.all W.no = true then some us2 else none) = some ws := es
    split at es'
    · rename_i hn
      cases es'
      obtain ⟨a, ys, bs, e, q, eb, r⟩ := h
      have := nos_nil hn r
      subst this
      exact ⟨a, ys, e, .inl (.inl q), r⟩
    · cases es'
  · cases hl
theorem be_slice (he : PE X e (bvE X.K Wx m)) (hl : PO X lo (bvO X.K Wx ml)) (hu : PO X hi (bvO X.K Wx mh)) : PE X (.Subscript e (.Slice lo hi none p2) pos) (bvE X.K Wx (mSl m ml mh)) := by
  refine pe_imp (pe_slice (SlR.or sl_list sl_str) he hl hu) fun σ H Q ⟨F, B, L, as, wf, s, h⟩ => ?_
  refine ⟨F, B, L, as, wf, s, (End.bind h).imp fun r L1 h1 v F1 H1 asr as1 g1 s1 r1 => ?_⟩
  refine ⟨F1, B, L1, as1, g1.wf.sub (le_r _ _), s1, (End.bind h1).behind (g1.sub (le_r _ _)) fun l L2 h2 F2 H2 as2 g2 s2 => ?_⟩
  obtain ⟨g3, k3⟩ := framed g1 g2
  refine ⟨F2, B, L2, as2, g2.wf, s2, (End.bind h2).behind (g3.sub (le_r _ _)) fun u L3 h3 F3 H3 as3 g4 s3 => ?_⟩
  obtain ⟨g5, k5⟩ := framed g3 g4
  have r3 := (r1.frame g2.ext k3).frame g4.ext k5
  split at h3
  · rename_i w ew
    split at h3
    · rename_i z ez
      obtain ⟨bs, rw'⟩ := get_ok s3 r3 ew
      have g6 := g5.sub (le_r asr as3)
      unfold slW at ez
      split at ez
      · rename_i t et
        have := str_of et
        subst this
        obtain ⟨hz, rfl⟩ := ite_some ez
        exact .inr ⟨t, rw'.1, hz, h3 _ F3 H3 [] as3 g6 s3 ⟨rfl, rfl⟩⟩
      · by_cases hlst : w.isLst = true
        · rw [if_pos hlst] at ez
          obtain ⟨ws, es, rfl⟩ := map_some ez
          obtain ⟨a, ys, e1, q, rs⟩ := lst_rep g5.wf.f g5.wf.b hlst rw' es
          subst e1
          refine .inl ⟨a, ys, rfl, q, fun p np => ?_⟩
          have hlen := rs.len
          have rc : RepWs X.K F3 B H3 (cutL ws l u) (cutV ys l u) [] := by
            unfold cutL cutV
            rw [hlen]
            exact (repws_cut (repws_cut rs _).1 _).2
          exact h3 (.ref p) F3 _ [p] as3 (g6.trans (Go.alloc g6.wf np _)) (SRel.frame (Same.refl _) (Same.refl _) (keep_new np _) s3) ⟨p, _, [], rfl, upd_same, rfl, RepWs.frame (Same.refl _) (Same.refl _) (keep_new np _) rc⟩
        · rw [if_neg hlst] at ez
          cases ez
    · exact h3.elim
  · exact h3.elim
end

/-! ### comprehensions, the block's context -/
theorem Bd.blk {X : Cx} {Wx : WX} {k : Nat} (c : Bd X Wx k) (s : Shared) (H : Hp) (scope : Scope) (cenv : Env) (fp : List Addr) : Bd (X.blk s H scope cenv fp) W0 k := ⟨c.calm, c.nd, takes0, PassesOwn.never, c.hr⟩
section
variable {X : Cx} {Wx : WX} {k : Nat} {elt tg iter : Expr} {ifs : List Expr} {scope : Scope} {own : List (Str × Nat)} {pos : Pos} {mi : M (List W)} {fl fo : List Bool} {g : MG} {mt : M Bool} {me : M R}
theorem bts_nil {X : Cx} : PTs X [] (bvT X.K W0 mYes) := ⟨fun pins s σ H Q I ⟨F, B, L, as, wf, sr, h⟩ => pts_nil.run pins s σ H Q I (h F H as (Go.refl wf) sr)⟩
theorem be_lc (c : Bd X Wx k) (kp : Bool) (hi : PI X tg iter (bvI X.K Wx mi)) (ok : BlkOk X.N X.env.scope scope own)
    (hg : ∀ (s : Shared) (H : Hp) (C : Addr) (cl : List (Str × Addr)) (fp : List Addr), PG (X.blk s H scope (compEnvC scope cl C X.env) fp) tg (bvG X.K fl g))
    (ht : ∀ (s : Shared) (H : Hp) (C : Addr) (cl : List (Str × Addr)) (fp : List Addr), PTs (X.blk s H scope (compEnvC scope cl C X.env) fp) ifs (bvT X.K W0 mt))
    (he : ∀ (s : Shared) (H : Hp) (C : Addr) (cl : List (Str × Addr)) (fp : List Addr), PE (X.blk s H scope (compEnvC scope cl C X.env) fp) elt (bvE X.K W0 me)) (hs : ∀ x, foldedSetIterable iter X.env x = pure x := by intro _; rfl) :
    PE X (.ListComp elt [⟨tg, iter, ifs, 0⟩] scope pos) (bvE X.K Wx (mLc kp fl (own.map (·.2)) mi g mt me)) := pe_imp (pe_lc c.calm c.nd hi ok hg ht he hs) lc_rel
theorem bs_setLc {i : Nat} {y : Str} {py spos : Pos} (c : Bd X Wx k) (kp : Bool) (hy : X.N[i]? = some y) (hyl : X.env.scope.names.lookup y = some .local) (hsw : swapsWith (.ListComp elt [⟨tg, iter, ifs, 0⟩] scope pos) (some (.Name y py)) spos.line X.env = pure true) (hi : PI X tg iter (bvI X.K Wx mi)) (ok : BlkOk X.N X.env.scope scope own)
    (hg : ∀ (s : Shared) (H : Hp) (C : Addr) (cl : List (Str × Addr)) (fp : List Addr), PG (X.blk s H scope (compEnvC scope cl C X.env) fp) tg (bvG X.K fl g))
    (ht : ∀ (s : Shared) (H : Hp) (C : Addr) (cl : List (Str × Addr)) (fp : List Addr), PTs (X.blk s H scope (compEnvC scope cl C X.env) fp) ifs (bvT X.K W0 mt))
    (he : ∀ (s : Shared) (H : Hp) (C : Addr) (cl : List (Str × Addr)) (fp : List Addr), PE (X.blk s H scope (compEnvC scope cl C X.env) fp) elt (bvE X.K W0 me)) (hs : ∀ x, foldedSetIterable iter X.env x = pure x := by intro _; rfl) :
    PS X (.Assign [.Name y py] (.ListComp elt [⟨tg, iter, ifs, 0⟩] scope pos) spos) (bvS X.K Wx fo (sSet fo i (mLc kp fl (own.map (·.2)) mi g mt me))) := by
  refine ps_imp (ps_setLc c.calm c.nd hy hyl hsw hi ok hg ht he hs) fun T σ H ⟨F, B, L, as, wf, s, h⟩ => ?_
  refine lc_rel (Wx := Wx) σ H _ ⟨F, B, L, as, wf, s, (EndS.thenS h).imp fun r L1 h1 v F' H' asr as' g' s' r' => ?_⟩
  exact set_ok g'.wf s' r' (EndS.behind g' (Pin.refl _ _) h1)
end

/-! ### try around what never raises -/
section
variable {X : Cx} {Wx : WX} {fl : List Bool} {body : List Stmt} {h0 : ExceptHandler} {hs : List ExceptHandler} {m : MS} {pos : Pos}
/-- what a reading with no exception is in any context -/
def noX (m : MS) : MS := fun L => match m L with
  | .exc _ _ => .bad
  | r => r
theorem bs_try_thru (hb : PSs X.nox body (bvS X.K W0 fl m)) : PS X (.Try body (h0 :: hs) [] [] pos) (bvS X.K Wx fl (noX m)) := by
  refine ps_imp (ps_try_thru0 hb) fun T σ H ⟨F, B, L, as, wf, s, h⟩ => ⟨F, B, L, as, wf, s, ?_⟩
  unfold noX at h
  cases e : m L with
  | exc x L1 => rw [e] at h; exact h.elim
  | next L1 => rw [e] at h; exact h
  | brk L1 => rw [e] at h; exact h
  | cnt L1 => rw [e] at h; exact h
  | ret w L1 => rw [e] at h; exact h
  | bad => rw [e] at h; exact h
theorem Bd.nox {k : Nat} (c : Bd X Wx k) : Bd X.nox W0 k := ⟨c.calm, c.nd, takes0, PassesOwn.never, c.hr⟩
end
end BV

namespace BV
open PySem PySem.Spec PyProof.Rows L2

/-! ### what is never reached may be read as nothing -/
def mBad {α : Type} : M α := fun _ => .bad
def sBad : MS := fun _ => .bad
section
variable {X : Cx} {Wx : WX} {fl : List Bool} {e : Expr} {st : Stmt} {sts : List Stmt}
theorem be_bad : PE X e (bvE X.K Wx mBad) := ⟨fun pins s σ H Q I ⟨F, B, L, as, wf, sr, h⟩ => h.elim⟩
theorem bs_bad : PS X st (bvS X.K Wx fl sBad) := ⟨fun pins s σ H Q I ⟨F, B, L, as, wf, sr, h⟩ => h.elim⟩
theorem bss_bad : PSs X sts (bvS X.K Wx fl sBad) := ⟨fun pins s σ H Q I ⟨F, B, L, as, wf, sr, h⟩ => h.elim⟩
theorem bt_bad : PT X e (bvT X.K Wx mBad) := ⟨fun pins s σ H Q I ⟨F, B, L, as, wf, sr, h⟩ => h.elim⟩
end

/-! ### what the top has written of defs -/
structure DefAt (K : PySem.W.Frag) (mg : Str → Option Value) (x qual : Str) (st : Stmt) (ps : List Str) : Prop where
  ex : ∃ (f : Addr) (fd : FuncData), mg x = some (.ref f) ∧ PySem.W.keepIn K (.ref f) = true ∧ Binds K fd ps [] ∧ Fun K x qual st f fd
structure MethAt (K : PySem.W.Frag) (C : Addr) (m qual : Str) (st : Stmt) (ps : List Str) : Prop where
  ex : ∃ (f : Addr) (fd : FuncData), Meth K C m f ∧ Binds K fd ps [] ∧ Fun K m qual st f fd
structure MakeAt (K : PySem.W.Frag) (C : Addr) (qual : Str) (st : Stmt) (ps : List Str) : Prop where
  ex : ∃ (f : Addr) (fd : FuncData), Mk K C f ∧ Binds K fd ps [] ∧ Fun K "__init__" qual st f fd
structure LawAt (K : PySem.W.Frag) (mg : Str → Option Value) (x qual : Str) (st : Stmt) (p : Str) : Prop where
  ex : ∃ (f : Addr) (fd : FuncData), mg x = some (.ref f) ∧ (∀ (s : Shared) (v : Value), BindsTo s fd ⟨[v], []⟩ [(p, v)]) ∧ Fun K x qual st f fd
structure DefOk (P : Program) (w : World) (K : PySem.W.Frag) (mg : Str → Option Value) (base : Heap) (k : Nat) (x : Str) (fl : List Bool) (fn : Fn) : Prop where
  ex : ∃ (f : Addr) (fd : FuncData) (ps : List Str), mg x = some (.ref f) ∧ PySem.W.keepIn K (.ref f) = true ∧ Binds K fd ps [] ∧ FnOk P w K mg base (L2.CX P w) k f fd ps (spBV K fl fn)
structure MetOk (P : Program) (w : World) (K : PySem.W.Frag) (mg : Str → Option Value) (base : Heap) (k : Nat) (C : Addr) (m : Str) (fl : List Bool) (fn : Fn) : Prop where
  cls : Cls K C
  ex : ∃ (f : Addr) (fd : FuncData) (ps : List Str), Meth K C m f ∧ FnOk P w K mg base (L2.CX P w) k f fd ps (spBV K fl fn) ∧ Binds K fd ps []
structure MakeOk (P : Program) (w : World) (K : PySem.W.Frag) (mg : Str → Option Value) (base : Heap) (k : Nat) (C : Addr) (fl : List Bool) (fn : Fn) : Prop where
  ex : ∃ (f : Addr) (fd : FuncData) (ps : List Str), Mk K C f ∧ Binds K fd ps [] ∧ FnOk P w K mg base (L2.CX P w) k f fd ps (spBV K (true :: fl) fn)
section
variable {P : Program} {w : World} {K : PySem.W.Frag} {mg : Str → Option Value} {base : Heap} {x qual m : Str} {st : Stmt} {ps : List Str} {k : Nat} {fl : List Bool} {fn : Fn} {C : Addr}
theorem DefAt.ok (D : DefAt K mg x qual st ps) (h : ∀ f fd, Fun K x qual st f fd → FnOk P w K mg base (L2.CX P w) k f fd ps (spBV K fl fn)) : DefOk P w K mg base k x fl fn := by
  obtain ⟨f, fd, h1, h2, h3, h4⟩ := D.ex
  exact ⟨f, fd, ps, h1, h2, h3, h f fd h4⟩
theorem MethAt.ok (D : MethAt K C m qual st ps) (cl : Cls K C) (h : ∀ f fd, Fun K m qual st f fd → FnOk P w K mg base (L2.CX P w) k f fd ps (spBV K fl fn)) : MetOk P w K mg base k C m fl fn := by
  obtain ⟨f, fd, h1, h3, h4⟩ := D.ex
  exact ⟨cl, f, fd, ps, h1, h f fd h4, h3⟩
theorem MakeAt.ok (D : MakeAt K C qual st ps) (h : ∀ f fd, Fun K "__init__" qual st f fd → FnOk P w K mg base (L2.CX P w) k f fd ps (spBV K (true :: fl) fn)) : MakeOk P w K mg base k C fl fn := by
  obtain ⟨f, fd, h1, h3, h4⟩ := D.ex
  exact ⟨f, fd, ps, h1, h3, h f fd h4⟩
end
section
variable {l : PySem.W.OpenLaw} {K : PySem.W.Frag} {h : Heap} {mg : Str → Option Value} {x qual : Str} {st : Stmt} {ps : List Str} {f : Addr} {C : Addr} {oc : Value} {od an : Option Addr} {sl : Array (Option Value)} {kV dc pm cd ct : Value}
theorem DefAt.mk' (X : K.In h) (G : h.Ns mainGlobals mg) (hb : ∀ (kV doc pm : Value) (an : Option Addr) (cdv ct : Value) (us : List Value), us.length = ps.length → bindArgs (PySem.W.fnOf x qual (defArgs st) (defBody st) (defScope st) .none kV doc pm an cdv ct) ⟨us, []⟩ = pure (ps.zip us))
    (a : PySem.W.nsIn K mainGlobals x = some (some (.ref f))) (l : K.lookup f = some ⟨oc, od, .func (PySem.W.fnOf x qual (defArgs st) (defBody st) (defScope st) .none kV dc pm an cd ct), sl⟩) (c : PySem.W.codeIn K cd qual = true) (k : PySem.W.keepIn K (.ref f) = true) : DefAt K mg x qual st ps :=
  have F := fun_mk (st := st) l c k
  ⟨f, _, PySem.W.mg_of X G a, k, F.binds hb, F⟩
theorem MethAt.mk' (hb : ∀ (kV doc pm : Value) (an : Option Addr) (cdv ct : Value) (us : List Value), us.length = ps.length → bindArgs (PySem.W.fnOf x qual (defArgs st) (defBody st) (defScope st) .none kV doc pm an cdv ct) ⟨us, []⟩ = pure (ps.zip us))
    (a : PySem.W.findIn K (.ref C) x = some (some (.ref f))) (i : PySem.W.isFn K (.ref f) = true) (l : K.lookup f = some ⟨oc, od, .func (PySem.W.fnOf x qual (defArgs st) (defBody st) (defScope st) .none kV dc pm an cd ct), sl⟩) (c : PySem.W.codeIn K cd qual = true) (k : PySem.W.keepIn K (.ref f) = true) : MethAt K C x qual st ps :=
  have F := fun_mk (st := st) l c k
  ⟨f, _, ⟨a, i, k⟩, F.binds hb, F⟩
theorem MakeAt.mk' (hb : ∀ (kV doc pm : Value) (an : Option Addr) (cdv ct : Value) (us : List Value), us.length = ps.length → bindArgs (PySem.W.fnOf "__init__" qual (defArgs st) (defBody st) (defScope st) .none kV doc pm an cdv ct) ⟨us, []⟩ = pure (ps.zip us))
    (a : PySem.W.findIn K (.ref C) "__init__" = some (some (.ref f))) (i : PySem.W.isFn K (.ref f) = true) (l : K.lookup f = some ⟨oc, od, .func (PySem.W.fnOf "__init__" qual (defArgs st) (defBody st) (defScope st) .none kV dc pm an cd ct), sl⟩) (c : PySem.W.codeIn K cd qual = true) (k : PySem.W.keepIn K (.ref f) = true)
    (m : PySem.W.makesIn K C = true) (kc : PySem.W.keepIn K (.ref C) = true) : MakeAt K C qual st ps :=
  have F := fun_mk (st := st) l c k
  ⟨f, _, ⟨m, a, i, kc⟩, F.binds hb, F⟩
theorem LawAt.mk' {p : Str} (X : K.In h) (G : h.Ns mainGlobals mg) (hb : ∀ (kV doc pm : Value) (an : Option Addr) (cdv ct : Value) (v : Value), bindArgs (PySem.W.fnOf x qual (defArgs st) (defBody st) (defScope st) .none kV doc pm an cdv ct) ⟨[v], []⟩ = pure [(p, v)])
    (a : PySem.W.nsIn K mainGlobals x = some (some (.ref f))) (l : K.lookup f = some ⟨oc, od, .func (PySem.W.fnOf x qual (defArgs st) (defBody st) (defScope st) .none kV dc pm an cd ct), sl⟩) (c : PySem.W.codeIn K cd qual = true) (k : PySem.W.keepIn K (.ref f) = true) : LawAt K mg x qual st p :=
  ⟨f, _, PySem.W.mg_of X G a, fun s v => .of_eq (hb _ _ _ _ _ _ v), fun_mk (st := st) l c k⟩
end
section
variable {X : Cx} {Wx : WX} {k j : Nat} {fl : List Bool} {fn : Fn} {x m : Str} {p pos apos : Pos} {o e : Expr} {es : List Expr} {ma : M R} {mr : M (List R)} {C : Addr} {pl : Sem Bool}
theorem be_callD (c : Bd X Wx j) (D : DefOk X.prog X.w X.K X.mg X.base k x fl fn) (ha : PA X (e :: es) (bvA X.K Wx mr)) (hk : k ≤ j := by decide)
    (hg : Gl X x := by rfl) (hdb : (x == ("__debug__" : Str)) = false := by decide) (he : starEach (e :: es) X.env = (false, eval e X.env) :: starEach es X.env := by rfl) (hpl : (backTo pos (starEach es X.env)).any (·.1) = false := by rfl) :
    PE X (.Call (.Name x p) (e :: es) [] pos) (bvE X.K Wx (mCall fl fn mr)) := by
  obtain ⟨f, fd, ps, h1, h2, h3, h4⟩ := D.ex
  exact be_call c h4 hk h1 h2 h3 hg ha hdb he hpl
theorem be_makeD (c : Bd X Wx j) (D : MakeOk X.prog X.w X.K X.mg X.base k C fl fn) (hm : X.mg x = some (.ref C)) (ha : PA X (e :: es) (bvA X.K Wx mr)) (hk : k + 1 ≤ j := by decide)
    (hg : Gl X x := by rfl) (hdb : (x == ("__debug__" : Str)) = false := by decide) (he : starEach (e :: es) X.env = (false, eval e X.env) :: starEach es X.env := by rfl) (hpl : (backTo pos (starEach es X.env)).any (·.1) = false := by rfl) :
    PE X (.Call (.Name x p) (e :: es) [] pos) (bvE X.K Wx (mMake C fl fn mr)) := by
  obtain ⟨f, fd, ps, h1, h3, h4⟩ := D.ex
  exact be_make c h1 h4 hk hm h3 hg ha hdb he hpl
def dOne (C : Addr) (fl : List Bool) (fn : Fn) : Disp := fun A => if A = C then some (fl, fn) else none
theorem dOne_ok (D : MetOk X.prog X.w X.K X.mg X.base k C m fl fn) : ∀ A fl' fn', dOne C fl fn A = some (fl', fn') → MethOk X k m A fl' fn' := fun A fl' fn' e => by
  unfold dOne at e
  split at e
  · rename_i h
    cases e
    subst h
    exact ⟨D.cls, D.ex⟩
  · cases e
theorem be_methD (c : Bd X Wx j) (D : MetOk X.prog X.w X.K X.mg X.base k C m fl fn) (he : PE X o (bvE X.K Wx ma)) (ha : PA X (e :: es) (bvA X.K Wx mr)) (hk : k ≤ j := by decide)
    (hst : starEach (e :: es) X.env = (false, eval e X.env) :: starEach es X.env := by rfl) (hpl : (backTo pos (starEach es X.env)).any (·.1) = false := by rfl)
    (ht : eval (.Call (.Attribute o m apos) (e :: es) [] pos) X.env = (eval o X.env >>= fun ov => standAt apos.atName >>= fun _ => holding [ov] (getMethod ov m pl) >>= fun q => callWith pos q.1 q.2 (backTo pos (starEach (e :: es) X.env)) (backToKw pos (keywordEach [] X.env))) := by rfl) :
    PE X (.Call (.Attribute o m apos) (e :: es) [] pos) (bvE X.K Wx (mMeth (dOne C fl fn) m ma mr)) := be_meth c hk (dOne_ok D) he ha hst hpl ht
end
/-- one class's field -/
theorem one_cls {C : Addr} {p : Addr → Prop} (h : p C) : ∀ A ∈ [C], p A := fun A hA => by
  have e : A = C := by simpa using hA
  subst e
  exact h

/-! ### the end -/
def spLaw (K : PySem.W.Frag) (n : Nat) : Sp := fun vs H Q _ => ∃ (a : Addr) (ns : List Int), vs = [.ref a] ∧ SqL K H a (ns.map V.int) ∧ ns.length ≤ n ∧ ∀ H', Q (.bl true) H'
theorem reps_ints {K : PySem.W.Frag} {F : Hp} : ∀ ns : List Int, Reps K F (ns.map D.int) (ns.map V.int)
  | [] => rfl
  | _ :: r => ⟨_, _, rfl, rfl, reps_ints r⟩
theorem sp_law {K : PySem.W.Frag} {n : Nat} {fn : Fn} (h : ∀ ns : List Int, ns.length ≤ n → fn [.frz (.lok (ns.map D.int))] = .ok (.frz (.bl true)) []) : ∀ vs H Q E, spLaw K n vs H Q E → spBV K [false] fn vs H Q E := by
  rintro vs H Q E ⟨a, ns, rfl, q, hl, k⟩
  refine ⟨rfl, H, H, [.frz (.lok (ns.map D.int))], [], ⟨fun _ _ e => e, fun _ _ e => e, fun p => Nat.zero_le _, fun p hp => absurd hp (by simp [In])⟩, ?_, ?_⟩
  · exact ⟨.ref a, [], [], [], rfl, rfl, ⟨⟨a, _, rfl, q, reps_ints ns⟩, rfl⟩, rfl, rfl⟩
  · rw [h ns hl]
    intro v F' H' asw as' g r o
    have ev : v = .bl true := r.1
    subst ev
    exact k H'
theorem law_end {l : PySem.W.OpenLaw} {n k : Nat} {q : Program} {loose : List Str} {XP : (Str → Option Value) → Heap → Prop} {YP : World → Heap → Prop} {d : DefRec} {K : Params → PySem.W.Frag} {qual p : Str} {st : Stmt} (hn : l.most = some n) (hdf : d.params.defaults = []) (hn2 : n ≤ sizeLine) (hr : Room k callerA)
    (hY : ∀ (w : World) (h : Heap), YP w h → (K w.params).In h)
    (F : ∀ (w : World) (mg : Str → Option Value) (h : Heap), (K w.params).In h → h.Ns mainGlobals mg →
      ∃ fn : Fn, LawAt (K w.params) mg d.name qual st p ∧ (∀ (base : Heap) (f : Addr) (fd : FuncData), Fun (K w.params) d.name qual st f fd → FnOk l.prog w (K w.params) mg base (L2.CX l.prog w) k f fd [p] (spBV (K w.params) [false] fn)) ∧
        ∀ ns : List Int, ns.length ≤ n → fn [.frz (.lok (ns.map D.int))] = .ok (.frz (.bl true)) []) :
    PySem.W.WalkO q loose XP YP l.row.toRowW d [] (fun f vs => PySem.call f vs) := by
  refine L2.walk_of (n := n) (k := k) (x := p) (CX := fun w => L2.CX l.prog w) (sp := fun w => spLaw (K w.params) n) hn hn2 hdf hr hY (fun w mg fa h KX G hmg => ?_) (fun _ _ a ns hl _ hS => ⟨a, ns, rfl, hS, hl, fun _ => rfl⟩) fun w H s e s' z => ?_
  · obtain ⟨fn, LA, ok, law⟩ := F w mg h KX G
    obtain ⟨f, fd, h1, h2, h3⟩ := LA.ex
    have e := hmg.symm.trans h1
    cases e
    exact ⟨fd, h2, fun base _ _ => (ok base fa fd h3).imp (sp_law law)⟩
  · obtain ⟨a, B, H', cls, d, _, _, _, _, _, _, _, z⟩ := z
    exact z
end BV

namespace BV
open PySem PySem.Spec PyProof.Rows L2
def mBits (m : M R) : M R := fun L => (m L).bind fun r L1 => match r with
    | .val (.frz (.int i)) => .ok (sc (.int (Builtin.Int.intBits i : Nat))) L1
    | _ => .bad
section
variable {X : Cx} {Wx : WX} {a b c : Expr} {ma mb mc : M R} {pos apos : Pos} {r r' : R2} {g g' : R → R → M R} {op op' : CmpOp} {m : M Bool}
theorem be_chainD (ho : OpR X (compareOp op) r) (hg : OpOk X.K r g) (ho' : OpR X (compareOp op') r') (hg' : OpOk X.K r' g') (ha : PE X a (bvE X.K Wx ma)) (hb : PE X b (bvE X.K Wx mb)) (hc : PE X c (bvE X.K Wx mc)) (hm : lastMarks [op, op'] [b, c] = false := by with_unfolding_all rfl) :
    PE X (.Compare a [op, op'] [b, c] pos) (bvE X.K Wx (mChain g g' ma mb mc)) := be_chain ho hg ho' hg' ha hb hc (of_chain hg hg') (pe_chain ho ho' ha hb hc hm)
theorem bt_chainD (ho : OpR X (compareOp op) r) (hg : OpOk X.K r g) (ho' : OpR X (compareOp op') r') (hg' : OpOk X.K r' g') (ha : PE X a (bvE X.K Wx ma)) (hb : PE X b (bvE X.K Wx mb)) (hc : PE X c (bvE X.K Wx mc)) (hm : lastMarks [op, op'] [b, c] = false := by with_unfolding_all rfl) :
    PT X (.Compare a [op, op'] [b, c] pos) (bvT X.K Wx (mBl (mChain g g' ma mb mc))) := pt_imp (pt_chain ho ho' ha hb hc hm) (of_bl (of_chain hg hg'))
theorem bgs_cons {e : Expr} {es : List Expr} {fl : List Bool} {g : MG} {gs : List W → MS} (h1 : PG X e (bvG X.K fl g)) (h2 : PGs X es (bvGs X.K fl gs)) (hs : (assignEach (e :: es) X.env).map (·.2) = assign e X.env :: (assignEach es X.env).map (·.2) := by rfl) : PGs X (e :: es) (bvGs X.K fl (gsCons g gs)) :=
  ⟨fun pins s σ H vs us Q I r h => (pgs_cons h1 h2 hs).run pins s σ H vs us Q I r (gs_rel vs σ H Q h)⟩
theorem be_bitsD (ha : PE X a (bvE X.K Wx ma)) (hbase : attributeBase a "bit_length" X.env (eval a X.env) = eval a X.env := by rfl) (hline : (apos.endLine == pos.line) = true := by rfl) : PE X (.Call (.Attribute a "bit_length" apos) [] [] pos) (bvE X.K Wx (mBits ma)) := be_bits ha hbase hline
theorem bts_one (h : PT X c (bvT X.K W0 m)) : PTs X [c] (bvT X.K W0 m) := pts_one h
end
theorem na_of {K : PySem.W.Frag} {C : Addr} {f : Str} (h : PySem.W.findIn K (.ref C) f = some none) : NoAttr K C f := h
theorem blkAt (N : List Str) (sc : Scope) {scope : Scope} {own : List (Str × Nat)} (h : BlkOk N sc scope own) : BlkOk N sc scope own := h
/-- one more than the i-th slot's number -/
def fuelI (i : Nat) : Lc → Nat := fun L => match L[i]? with
  | some (some (.frz (.int n))) => n.toNat + 1
  | _ => 0
end BV

namespace BV
open PySem PySem.Spec PyProof.Rows L2

/-! ### how the readings are evaluated: rules for simp -/
abbrev iW (n : Int) : W := .frz (.int n)
abbrev iR (n : Int) : R := .val (.frz (.int n))
abbrev bR (b : Bool) : R := .val (.frz (.bl b))
section
variable {α β : Type} {L : Lc} {fl : List Bool}
@[simp] theorem e_bind (a : α) (f : α → Lc → Res β) : (Res.ok a L).bind f = f a L := (rfl)
@[simp] theorem e_then (a : α) (f : α → Lc → SRes) : (Res.ok a L).thenS f = f a L := (rfl)
@[simp] theorem e_badb (f : α → Lc → Res β) : (Res.bad).bind f = .bad := (rfl)
def look (i : Nat) (o : Option (Option W)) (L : Lc) : Res R := match o with
  | some (some (.frz d)) => .ok (.val (.frz d)) L
  | some (some (.brw d)) => .ok (.val (.brw d)) L
  | some (some _) => .ok (.al i) L
  | _ => .bad
@[simp] theorem e_var (i : Nat) : mVar i L = look i L[i]? L := (rfl)
@[simp] theorem e_lk_f (i : Nat) (d : D) : look i (some (some (.frz d))) L = .ok (.val (.frz d)) L := (rfl)
@[simp] theorem e_lk_b (i : Nat) (d : D) : look i (some (some (.brw d))) L = .ok (.val (.brw d)) L := (rfl)
@[simp] theorem e_lk_l (i : Nat) (ws : List W) : look i (some (some (.olst ws))) L = .ok (.al i) L := (rfl)
@[simp] theorem e_lk_t (i : Nat) (ws : List W) : look i (some (some (.otup ws))) L = .ok (.al i) L := (rfl)
@[simp] theorem e_lk_o (i : Nat) (C : Addr) (fs : List (Str × W)) : look i (some (some (.oobj C fs))) L = .ok (.al i) L := (rfl)
@[simp] theorem e_C (d : D) : mC d L = .ok (.val (.frz d)) L := (rfl)
@[simp] theorem e_op (g : R → R → M R) (a b : M R) : mOp g a b L = (a L).bind fun x L1 => (b L1).bind fun y L2 => g x y L2 := (rfl)
def SRes.seq (r : SRes) (b : MS) : SRes := match r with
  | .next L1 => b L1
  | r => r
@[simp] theorem e_seq (a b : MS) : sSeq a b L = (a L).seq b := (rfl)
@[simp] theorem e_seq_n (b : MS) : (SRes.next L).seq b = b L := (rfl)
@[simp] theorem e_seq_r (b : MS) (w : W) : (SRes.ret w L).seq b = .ret w L := (rfl)
@[simp] theorem e_seq_b (b : MS) : (SRes.brk L).seq b = .brk L := (rfl)
@[simp] theorem e_seq_c (b : MS) : (SRes.cnt L).seq b = .cnt L := (rfl)
@[simp] theorem e_nil : sNil L = .next L := (rfl)
@[simp] theorem e_brk : sBrk L = .brk L := (rfl)
@[simp] theorem e_exp (m : M R) : sExp m L = (m L).thenS fun _ L1 => .next L1 := (rfl)
@[simp] theorem e_set (i : Nat) (m : M R) : sSet fl i m L = (m L).thenS fun r L1 => asgn fl i r L1 := (rfl)
@[simp] theorem e_asgn (i : Nat) (w : W) (h : fl[i]? ≠ some true) : asgn fl i (.val w) L = .next (L.set i (some w)) := if_neg h
@[simp] theorem e_ret (m : M R) : sRet m L = (m L).thenS handed := (rfl)
@[simp] theorem e_handed (w : W) : handed (.val w) L = .ret w L := (rfl)
@[simp] theorem e_if (c : M Bool) (a b : MS) : sIf c a b L = (c L).thenS fun k L1 => if k = true then a L1 else b L1 := (rfl)
@[simp] theorem e_ifE (c : M Bool) (a b : M R) : mIfE c a b L = (c L).bind fun k L1 => if k = true then a L1 else b L1 := (rfl)
def blR (r : R) (L : Lc) : Res Bool := match r with
  | .val (.frz (.bl b)) => .ok b L
  | _ => .bad
@[simp] theorem e_mBl (m : M R) : mBl m L = (m L).bind blR := (rfl)
@[simp] theorem e_blR (b : Bool) : blR (.val (.frz (.bl b))) L = .ok b L := (rfl)
@[simp] theorem e_not (m : M Bool) : mNot m L = (m L).bind fun k L1 => .ok (!k) L1 := (rfl)
@[simp] theorem e_and (a b : M Bool) : mAnd a b L = (a L).bind fun k L1 => if k = true then b L1 else .ok false L1 := (rfl)
@[simp] theorem e_or (a b : M Bool) : mOr a b L = (a L).bind fun k L1 => if k = true then .ok true L1 else b L1 := (rfl)
@[simp] theorem e_andV (a b : M R) : mAndV a b L = (mBl a L).bind fun k L1 => if k = true then b L1 else .ok (sc (.bl false)) L1 := (rfl)
@[simp] theorem e_orV (a b : M R) : mOrV a b L = (mBl a L).bind fun k L1 => if k = true then .ok (sc (.bl true)) L1 else b L1 := (rfl)
@[simp] theorem e_notV (a : M R) : mNotV a L = (mBl a L).bind fun k L1 => .ok (sc (.bl (!k))) L1 := (rfl)
def truR (r : R) (L1 : Lc) : Res Bool := match r.get L1 with
  | some w => match tru w.rd with
    | some k => .ok k L1
    | none => .bad
  | none => .bad
@[simp] theorem e_tru (m : M R) : mTru m L = (m L).bind truR := (rfl)
@[simp] theorem e_truR (b : Bool) : truR (.val (.frz (.bl b))) L = .ok b L := (rfl)
/-! ints -/
variable (i j : Int)
@[simp] theorem e_add : aAddU (.val (.frz (.int i))) (.val (.frz (.int j))) L = .ok (.val (.frz (.int (i + j)))) L := (rfl)
@[simp] theorem e_sub : aSub (.val (.frz (.int i))) (.val (.frz (.int j))) L = .ok (.val (.frz (.int (i - j)))) L := (rfl)
def SzM (i j : Int) : Prop := i.natAbs.log2 + j.natAbs.log2 < 1000000
def SzD (j : Int) : Prop := j ≠ 0 ∧ j.natAbs.log2 < 9000
@[simp] theorem e_mul (h : SzM i j) : aMul (.val (.frz (.int i))) (.val (.frz (.int j))) L = .ok (.val (.frz (.int (i * j)))) L := by
  show (match (if i.natAbs.log2 + j.natAbs.log2 < 1000000 then some (D.int (i * j)) else none) with
    | some d => Res.ok (R.val (.frz d)) L
    | none => .bad) = _
  rw [if_pos (show i.natAbs.log2 + j.natAbs.log2 < 1000000 from h)]
@[simp] theorem e_div (h : SzD j) : aDiv (.val (.frz (.int i))) (.val (.frz (.int j))) L = .ok (.val (.frz (.int (i.fdiv j)))) L := by
  show (match (if j ≠ 0 ∧ j.natAbs.log2 < 9000 then some (D.int (i.fdiv j)) else none) with
    | some d => Res.ok (R.val (.frz d)) L
    | none => .bad) = _
  rw [if_pos (show j ≠ 0 ∧ j.natAbs.log2 < 9000 from h)]
@[simp] theorem e_mod (h : j ≠ 0) : aMod (.val (.frz (.int i))) (.val (.frz (.int j))) L = .ok (.val (.frz (.int (i.fmod j)))) L := by
  show (match (if j ≠ 0 then some (D.int (i.fmod j)) else none) with
    | some d => Res.ok (R.val (.frz d)) L
    | none => .bad) = _
  rw [if_pos h]
def SzP (i j : Int) : Prop := 0 ≤ j ∧ j ≤ 1000000 ∧ i.natAbs < 2 ^ 64
@[simp] theorem e_pow (h : SzP i j) : aPow (.val (.frz (.int i))) (.val (.frz (.int j))) L = .ok (.val (.frz (.int (i ^ j.toNat)))) L := by
  show (match (if 0 ≤ j ∧ j ≤ 1000000 ∧ i.natAbs < 2 ^ 64 then some (D.int (i ^ j.toNat)) else none) with
    | some d => Res.ok (R.val (.frz d)) L
    | none => .bad) = _
  rw [if_pos (show 0 ≤ j ∧ j ≤ 1000000 ∧ i.natAbs < 2 ^ 64 from h)]
@[simp] theorem e_lt : cLt (.val (.frz (.int i))) (.val (.frz (.int j))) L = .ok (.val (.frz (.bl (decide (i < j))))) L := (rfl)
@[simp] theorem e_gt : cGt (.val (.frz (.int i))) (.val (.frz (.int j))) L = .ok (.val (.frz (.bl (decide (j < i))))) L := (rfl)
@[simp] theorem e_le : cLe (.val (.frz (.int i))) (.val (.frz (.int j))) L = .ok (.val (.frz (.bl (decide (i ≤ j))))) L := (rfl)
@[simp] theorem e_ge : cGe (.val (.frz (.int i))) (.val (.frz (.int j))) L = .ok (.val (.frz (.bl (decide (j ≤ i))))) L := (rfl)
@[simp] theorem e_eq : cEqS (.val (.frz (.int i))) (.val (.frz (.int j))) L = .ok (.val (.frz (.bl (decide (i = j))))) L := (rfl)
@[simp] theorem e_ne : cNeS (.val (.frz (.int i))) (.val (.frz (.int j))) L = .ok (.val (.frz (.bl (!decide (i = j))))) L := (rfl)
@[simp] theorem e_neg (m : M R) : mNeg m L = (m L).bind fun r L1 => match r with
  | .val (.frz (.int i)) => .ok (sc (.int (-i))) L1
  | _ => .bad := (rfl)
/-! argument lists -/
@[simp] theorem e_nilA : mNil L = .ok [] L := (rfl)
@[simp] theorem e_cons (a : M R) (b : M (List R)) : mCons a b L = (a L).bind fun r L1 => (b L1).bind fun rs L2 => .ok (r :: rs) L2 := (rfl)
@[simp] theorem e_callB (g : List R → M R) (m : M (List R)) : mCallB g m L = (m L).bind g := (rfl)
@[simp] theorem e_f1 (g : D → Option D) (d : D) : f1 g [.val (.frz d)] L = match g d with
  | some e => .ok (.val (.frz e)) L
  | none => .bad := (rfl)
@[simp] theorem e_len_str (x : Str) (h : x.length ≤ sizeLine) : lenD (.str x) = some (.int x.length) := if_pos h
@[simp] theorem e_len_lst (x : List D) : lenD (.lst x) = some (.int x.length) := (rfl)
@[simp] theorem e_len_lok (x : List D) : lenD (.lok x) = some (.int x.length) := (rfl)
@[simp] theorem e_len_tup (x : List D) : lenD (.tup x) = some (.int x.length) := (rfl)
@[simp] theorem e_int (i : Int) : intD (.int i) = some (.int i) := (rfl)
@[simp] theorem e_abs (i : Int) : absD (.int i) = some (.int (if i < 0 then -i else i)) := (rfl)
@[simp] theorem e_par (i j : Nat) (m : M (List R)) : sPar fl i j m L = (m L).thenS fun rs L1 => match rs with
  | [.val v, .val w] => if fl[i]? = some true ∨ fl[j]? = some true ∨ v.no = false ∨ w.no = false then .bad else .next ((L1.set i (some v)).set j (some w))
  | _ => .bad := (rfl)
@[simp] theorem e_no (d : D) : (W.frz d).no = true := (rfl)
@[simp] theorem e_while (fuel : Lc → Nat) (c : M Bool) (b : MS) : sWhile fuel c b L = whileL c b (fuel L) L := (rfl)
@[simp] theorem e_for (mi : M (List W)) (g : MG) (b : MS) : sFor mi g b L = (mi L).thenS fun ws L1 => forL g b ws L1 := (rfl)
@[simp] theorem e_gNm (i : Nat) (r : R) : gNm fl i r L = asgn fl i r L := (rfl)
theorem sub62 {j : Int} (h0 : 0 ≤ j) (h : j < 2 ^ 62) : -(2 ^ 62) ≤ j ∧ j < 2 ^ 62 := by omega
def rg1 (rs : List R) (L1 : Lc) : Res (List W) := match rs with
  | [.val (.frz (.int j))] => if -(2 ^ 62) ≤ j ∧ j < 2 ^ 62 then .ok (intsW 0 j.toNat) L1 else .bad
  | _ => .bad
def rg2 (rs : List R) (L1 : Lc) : Res (List W) := match rs with
  | [.val (.frz (.int i)), .val (.frz (.int j))] => if -(2 ^ 62) ≤ i ∧ i < 2 ^ 62 ∧ -(2 ^ 62) ≤ j ∧ j < 2 ^ 62 then .ok (intsW i (j - i).toNat) L1 else .bad
  | _ => .bad
def SzR (j : Int) : Prop := -(2 ^ 62) ≤ j ∧ j < 2 ^ 62
@[simp] theorem e_range1 (m : M (List R)) : mRange1 m L = (m L).bind rg1 := (rfl)
@[simp] theorem e_range2 (m : M (List R)) : mRange2 m L = (m L).bind rg2 := (rfl)
@[simp] theorem e_rg1 (h : SzR j) : rg1 [.val (.frz (.int j))] L = .ok (intsW 0 j.toNat) L := if_pos h
@[simp] theorem e_rg2 (h : SzR i) (h2 : SzR j) : rg2 [.val (.frz (.int i)), .val (.frz (.int j))] L = .ok (intsW i (j - i).toNat) L := if_pos ⟨h.1, h.2, h2.1, h2.2⟩
theorem intsW_succ (lo : Int) (n : Nat) : intsW lo (n + 1) = .frz (.int lo) :: intsW (lo + 1) n := by
  unfold intsW
  rw [List.range_succ_eq_map, List.map_cons, List.map_map]
  refine congr (congrArg List.cons ?_) (List.map_congr_left fun k _ => ?_)
  · rw [Int.natCast_zero, Int.add_zero]
  · show W.frz (.int (lo + ((k + 1 : Nat) : Int))) = W.frz (.int (lo + 1 + (k : Int)))
    congr 2
    omega
theorem intsW_zero (lo : Int) : intsW lo 0 = [] := rfl
end
/-! ### a def by its body's end -/
theorem run_ret {n : Nat} {fl : List Bool} {m : MS} {ws : List W} {L0 L : Lc} {w : W} {os : List W} (e : m L0 = .ret w L) (h0 : ws.map some ++ List.replicate (n - ws.length) none = L0 := by rfl) (o : outs fl L = some os := by rfl) : runF n fl m ws = .ok w os := by
  unfold runF
  rw [h0, e]
  dsimp only
  rw [o]
theorem run_next {n : Nat} {fl : List Bool} {m : MS} {ws : List W} {L0 L : Lc} {os : List W} (e : m L0 = .next L) (h0 : ws.map some ++ List.replicate (n - ws.length) none = L0 := by rfl) (o : outs fl L = some os := by rfl) : runF n fl m ws = .ok (.frz .non) os := by
  unfold runF
  rw [h0, e]
  dsimp only
  rw [o]
/-! sizes -/
/-- n bits hold it -/
def Bit (n : Nat) (i : Int) : Prop := i.natAbs < 2 ^ n
theorem Bit.log {n : Nat} {i : Int} (h : Bit n i) : i.natAbs.log2 ≤ n := by
  by_cases h0 : i.natAbs = 0
  · rw [h0]; exact Nat.zero_le _
  · exact Nat.le_of_lt ((Nat.log2_lt h0).mpr h)
theorem Bit.mono {n m : Nat} {i : Int} (h : Bit n i) (k : n ≤ m) : Bit m i := Nat.lt_of_lt_of_le h (Nat.pow_le_pow_right (by decide) k)
theorem Bit.mul {n m : Nat} {i j : Int} (h : Bit n i) (k : Bit m j) : Bit (n + m) (i * j) := by
  unfold Bit at *
  rw [Int.natAbs_mul, Nat.pow_add]
  exact Nat.mul_lt_mul'' h k
theorem Bit.szM {n m : Nat} {i j : Int} (h : Bit n i) (k : Bit m j) (l : n + m < 1000000) : SzM i j := by
  have := h.log; have := k.log
  unfold SzM; omega
theorem Bit.szD {n : Nat} {j : Int} (h : Bit n j) (h0 : j ≠ 0) (l : n < 9000) : SzD j := by
  have := h.log
  exact ⟨h0, by omega⟩
theorem Bit.of {n : Nat} {i : Int} (h0 : 0 ≤ i) (h : i < 2 ^ n) : Bit n i := by
  unfold Bit
  have e : (i.natAbs : Int) = i := by omega
  have h2 : ((i.natAbs : Nat) : Int) < ((2 ^ n : Nat) : Int) := by rw [e]; push_cast; exact h
  exact Int.ofNat_lt.mp h2
theorem Bit.pow {n : Nat} {i : Int} (h : Bit n i) : ∀ k : Nat, Bit (n * k + 1) (i ^ k)
  | 0 => by unfold Bit; simp
  | k + 1 => by
    have ih := Bit.pow h k
    have := ih.mul h
    rw [Int.pow_succ]
    exact this.mono (by rw [Nat.mul_succ]; omega)
end BV

namespace BV
open PySem PySem.Spec PyProof.Rows L2
/-! ### evaluation: calls, fields, items -/
section
variable {L : Lc} {fl : List Bool}
/-- from a slot's content -/
def slotW (o : Option (Option W)) : Option W := match o with
  | some o => o
  | none => none
@[simp] theorem e_slotW (o : Option W) : slotW (some o) = o := (rfl)
@[simp] theorem e_get_v (w : W) : R.get L (.val w) = some w := (rfl)
@[simp] theorem e_get_a (i : Nat) : R.get L (.al i) = slotW L[i]? := (rfl)
@[simp] theorem e_fr_f (d : D) : (W.frz d).fr = some d := (rfl)
def toFv (o : Option D) (L : Lc) : Res D := match o with
  | some d => .ok d L
  | none => .bad
@[simp] theorem e_toFv (d : D) : toFv (some d) L = .ok d L := (rfl)
@[simp] theorem e_toF_v (w : W) : toF (.val w) L = toFv w.fr L := by unfold toF toFv; dsimp only; try (cases w.fr <;> rfl)
def toFa (i : Nat) (o : Option (Option W)) (L : Lc) : Res D := match o with
  | some (some w) => match w.fr with
    | some d => .ok d (L.set i (some (.frz d)))
    | none => .bad
  | _ => .bad
@[simp] theorem e_toF_a (i : Nat) : toF (.al i) L = toFa i L[i]? L := (rfl)
def toFb (i : Nat) (o : Option D) (L : Lc) : Res D := match o with
  | some d => .ok d (L.set i (some (.frz d)))
  | none => .bad
@[simp] theorem e_toFb (i : Nat) (d : D) : toFb i (some d) L = .ok d (L.set i (some (.frz d))) := (rfl)
@[simp] theorem e_toFa (i : Nat) (w : W) : toFa i (some (some w)) L = toFb i w.fr L := by unfold toFa toFb; rfl
@[simp] theorem e_fr_l (ws : List W) : (W.olst ws).fr = (frs ws).map .lst := by rw [W.fr]
@[simp] theorem e_fr_o (C : Addr) (fs : List (Str × W)) : (W.oobj C fs).fr = (frF fs).map (.obj C) := by rw [W.fr]
@[simp] theorem e_frs_nil : frs [] = some [] := by rw [frs]
@[simp] theorem e_frs_frz (ds : List D) : frs (ds.map .frz) = some ds := by
  induction ds with
  | nil => rw [List.map_nil, frs]
  | cons d ds ih => rw [List.map_cons, frs, ih]; rfl
@[simp] theorem e_frs_cons (d : D) (ws : List W) : frs (.frz d :: ws) = (frs ws).map (d :: ·) := by
  rw [frs, e_fr_f]
  cases frs ws <;> rfl
@[simp] theorem e_frF_nil : frF [] = some [] := by rw [frF]
@[simp] theorem e_frF_cons (f : Str) (d : D) (ws : List (Str × W)) : frF ((f, .frz d) :: ws) = (frF ws).map ((f, d) :: ·) := by
  rw [frF, e_fr_f]
  cases frF ws <;> rfl
/-! preparing arguments -/
@[simp] theorem e_prep_nil : prep [] [] L = .ok ([], []) L := (rfl)
@[simp] theorem e_prep_f (r : R) (rs : List R) : prep (false :: fl) (r :: rs) L = (toF r L).bind fun d L1 => (prep fl rs L1).bind fun p L2 => .ok (.frz d :: p.1, p.2) L2 := by rw [prep]
def prepT (fl : List Bool) (rs : List R) (i : Nat) (o : Option (Option W)) (L : Lc) : Res (List W × List Nat) := match o with
  | some (some w) => (prep fl rs (L.set i none)).bind fun p L1 => .ok (w :: p.1, i :: p.2) L1
  | _ => .bad
@[simp] theorem e_prep_t (i : Nat) (rs : List R) : prep (true :: fl) (.al i :: rs) L = prepT fl rs i L[i]? L := by rw [prep]; rfl
@[simp] theorem e_prepT (rs : List R) (i : Nat) (w : W) : prepT fl rs i (some (some w)) L = (prep fl rs (L.set i none)).bind fun p L1 => .ok (w :: p.1, i :: p.2) L1 := (rfl)
@[simp] theorem e_prep_v (w : W) (rs : List R) : prep (true :: fl) (.val w :: rs) L = (prep fl rs L).bind fun p L1 => .ok (w :: p.1, L.length :: p.2) L1 := by rw [prep]
def bkR (w : W) (o : Option Lc) : Res R := match o with
  | some L1 => .ok (.val w) L1
  | none => .bad
def bkX (x : Ex) (o : Option Lc) : Res R := match o with
  | some L1 => .exc x L1
  | none => .bad
def calledR (r : FRes) (is : List Nat) (L : Lc) : Res R := match r with
  | .ok w os => bkR w (back is os L)
  | .exc x os => bkX x (back is os L)
  | .bad => .bad
@[simp] theorem e_called (fn : Fn) (ws : List W) (is : List Nat) : called fn ws is L = calledR (fn ws) is L := by
  unfold called calledR
  cases fn ws with
  | ok w os => dsimp only; unfold bkR; cases back is os L <;> rfl
  | exc x os => dsimp only; unfold bkX; cases back is os L <;> rfl
  | bad => rfl
@[simp] theorem e_calledR (w : W) (os : List W) (is : List Nat) : calledR (.ok w os) is L = bkR w (back is os L) := (rfl)
@[simp] theorem e_bkR (w : W) : bkR w (some L) = .ok (.val w) L := (rfl)
@[simp] theorem e_back_nil : back [] [] L = some L := by rw [back]
@[simp] theorem e_back_cons (i : Nat) (is : List Nat) (w : W) (ws : List W) : back (i :: is) (w :: ws) L = back is ws (L.set i (some w)) := by rw [back]
@[simp] theorem e_call (fn : Fn) (m : M (List R)) : mCall fl fn m L = (m L).bind fun rs L1 => callR fl fn rs L1 := (rfl)
@[simp] theorem e_callR (fn : Fn) (rs : List R) : callR fl fn rs L = (prep fl rs L).bind fun p L1 => called fn p.1 p.2 L1 := (rfl)
/-! making -/
def madeF (r : FRes) (is : List Nat) (L : Lc) : Res R := match r with
  | .ok (.frz .non) (o :: os) => bkR o (back is os L)
  | .exc x (_ :: os) => bkX x (back is os L)
  | _ => .bad
@[simp] theorem e_madeF (o : W) (os : List W) (is : List Nat) : madeF (.ok (.frz .non) (o :: os)) is L = bkR o (back is os L) := (rfl)
theorem madeR_is (C : Addr) (fn : Fn) (rs : List R) : madeR C fl fn rs L = (prep fl rs L).bind fun p L2 => madeF (fn (.oobj C [] :: p.1)) p.2 L2 := by
  unfold madeR
  have h : ∀ (p : List W × List Nat) (L1 : Lc), (match fn (.oobj C [] :: p.1) with
      | .ok (.frz .non) (o :: os) => match back p.2 os L1 with
        | some L2 => Res.ok (.val o) L2
        | none => .bad
      | .exc x (_ :: os) => match back p.2 os L1 with
        | some L2 => .exc x L2
        | none => .bad
      | _ => .bad) = madeF (fn (.oobj C [] :: p.1)) p.2 L1 := fun p L1 => by
    unfold madeF
    split
    · rename_i o os e
      unfold bkR
      cases back p.2 os L1 <;> rfl
    · rename_i x a os e
      unfold bkX
      cases back p.2 os L1 <;> rfl
    · rfl
  cases prep fl rs L with
  | ok p L1 => exact h p L1
  | exc x L1 => rfl
  | bad => rfl
@[simp] theorem e_make (C : Addr) (fn : Fn) (m : M (List R)) : mMake C fl fn m L = (m L).bind fun rs L1 => (prep fl rs L1).bind fun p L2 => madeF (fn (.oobj C [] :: p.1)) p.2 L2 := by
  unfold mMake
  cases m L with
  | ok rs L1 => exact madeR_is C fn rs
  | exc x L1 => rfl
  | bad => rfl
/-! fields -/
def fldR (cs : List Addr) (f : Str) (o : Option W) (L1 : Lc) : Res R := match o with
  | some w => match w.cls with
    | some C => if C ∈ cs then match w.fld f with
        | some u => .ok (.val u) L1
        | none => .bad
      else .bad
    | none => .bad
  | none => .bad
@[simp] theorem e_fld (cs : List Addr) (f : Str) (m : M R) : mFld cs f m L = (m L).bind fun r L1 => fldR cs f (r.get L1) L1 := (rfl)
theorem fldR_of {cs : List Addr} {f : Str} {w u : W} {C : Addr} (h1 : w.cls = some C) (h2 : C ∈ cs) (h3 : w.fld f = some u) : fldR cs f (some w) L = .ok (.val u) L := by
  unfold fldR
  dsimp only
  rw [h1]
  dsimp only
  rw [if_pos h2, h3]
def fldSetR (cs : List Addr) (i : Nat) (f : Str) (d : D) (o : Option (Option W)) (L2 : Lc) : SRes := match o with
  | some (some (.oobj C fs)) => if C ∈ cs ∧ fs.length < 1000 then .next (L2.set i (some (.oobj C (putW f (.frz d) fs)))) else .bad
  | _ => .bad
@[simp] theorem e_fldSet (cs : List Addr) (i : Nat) (f : Str) (m : M R) : sFldSet cs i f m L = (m L).thenS fun r L1 => (toF r L1).thenS fun d L2 => fldSetR cs i f d L2[i]? L2 := (rfl)
@[simp] theorem e_fldSetR (cs : List Addr) (i : Nat) (f : Str) (d : D) (C : Addr) (fs : List (Str × W)) (h : C ∈ cs) (h2 : fs.length < 1000) : fldSetR cs i f d (some (some (.oobj C fs))) L = .next (L.set i (some (.oobj C (putW f (.frz d) fs)))) := if_pos ⟨h, h2⟩
/-! methods -/
def methR (ds : Disp) (m : Str) (r : R) (o : Option W) (mr : M (List R)) (L1 : Lc) : Res R := match o with
  | some w => match w.cls with
    | some C => if w.nofld m = true then match ds C with
        | some p => (mr L1).bind fun rs L2 => callR p.1 p.2 (r :: rs) L2
        | none => .bad
      else .bad
    | none => .bad
  | none => .bad
@[simp] theorem e_meth (ds : Disp) (m : Str) (ma : M R) (mr : M (List R)) : mMeth ds m ma mr L = (ma L).bind fun r L1 => methR ds m r (r.get L1) mr L1 := (rfl)
theorem methR_of {fn : Fn} {m : Str} {r : R} {w : W} {C : Addr} {mr : M (List R)} (h1 : w.cls = some C) (h2 : w.nofld m = true) : methR (dOne C fl fn) m r (some w) mr L = (mr L).bind fun rs L2 => callR fl fn (r :: rs) L2 := by
  unfold methR
  dsimp only
  rw [h1]
  dsimp only
  rw [if_pos h2, show dOne C fl fn C = some (fl, fn) from if_pos rfl]
/-! built-ins over one value -/
def f1R (g : D → Option D) (o : Option W) (L : Lc) : Res R := match o with
  | some w => match g w.rd with
    | some d => .ok (.val (.frz d)) L
    | none => .bad
  | none => .bad
@[simp] theorem e_f1l (g : D → Option D) (ws : List W) : f1 g [.val (.olst ws)] L = f1R g (some (.olst ws)) L := (rfl)
@[simp] theorem e_f1a (g : D → Option D) (i : Nat) : f1 g [.al i] L = f1R g (slotW L[i]?) L := (rfl)
theorem f1R_of {g : D → Option D} {w : W} {d : D} (h : g w.rd = some d) : f1R g (some w) L = .ok (.val (.frz d)) L := by
  unfold f1R
  dsimp only
  rw [h]
theorem rds_frz (ds : List D) : rds (ds.map .frz) = ds := by
  induction ds with
  | nil => rw [List.map_nil, rds]
  | cons d ds ih => rw [List.map_cons, rds, ih, W.rd]
@[simp] theorem e_rd_f (d : D) : (W.frz d).rd = d := by rw [W.rd]
theorem rd_lst (ds : List D) : (W.olst (ds.map .frz)).rd = .lst ds := by rw [W.rd, rds_frz]
theorem intsD_map (ns : List Int) : intsD (ns.map D.int) = some ns := by
  induction ns with
  | nil => rfl
  | cons n ns ih => rw [List.map_cons, intsD, ih]; rfl
theorem sumD_map (ns : List Int) : sumD (.lst (ns.map D.int)) = some (.int ns.sum) := by
  unfold sumD
  show Option.map _ (Option.bind (some (ns.map D.int)) intsD) = _
  rw [Option.bind_some, intsD_map]
  rfl
/-! items -/
def kR (g : W → W → Option W) (a b : Option W) (L : Lc) : Res R := match a, b with
  | some a, some b => match g a b with
    | some w => .ok (.val w) L
    | none => .bad
  | _, _ => .bad
@[simp] theorem e_mkK (g : W → W → Option W) (x y : R) : mkK g x y L = kR g (x.get L) (y.get L) L := (rfl)
theorem kR_of {g : W → W → Option W} {a b w : W} (h : g a b = some w) : kR g (some a) (some b) L = .ok (.val w) L := by
  unfold kR
  dsimp only
  rw [h]
theorem atI_nat {α : Type} {xs : List α} {i : Nat} {x : α} (h : xs[i]? = some x) : atI xs (i : Int) = some x := by
  have hi := (List.getElem?_eq_some_iff.mp h).1
  unfold atI ixN
  rw [if_pos (Int.natCast_nonneg i), if_pos (Int.ofNat_lt.mpr hi), Option.bind_some, Int.toNat_natCast]
  exact h
end
end BV

namespace BV
open PySem PySem.Spec PyProof.Rows L2
/-! ### evaluation: comprehensions, loops -/
theorem mLc_ok {kp : Bool} {fl : List Bool} {vs : List Nat} {mi : M (List W)} {g : MG} {mt : M Bool} {me : M R} {L L1 L2 : Lc} {ws acc : List W} (h1 : mi L = .ok ws L1) (h2 : lcL kp vs g mt me ws (wipeL L1 vs) [] = some (acc, L2))
    (hl : L1.length = fl.length) (hf : (List.range fl.length).all (fun j => decide (j ∈ vs) || fl[j]? == some true) = true := by rfl) : mLc kp fl vs mi g mt me L = .ok (.val (.olst acc)) L2 := by
  unfold mLc
  rw [h1]
  show (if L1.length = fl.length ∧ (List.range fl.length).all (fun j => decide (j ∈ vs) || fl[j]? == some true) = true then (match lcL kp vs g mt me ws (wipeL L1 vs) [] with
    | some (acc, L2) => Res.ok (R.val (W.olst acc)) L2
    | none => .bad) else .bad) = _
  rw [if_pos ⟨hl, hf⟩, h2]
theorem lcL_cons {kp : Bool} {vs : List Nat} {g : MG} {mt : M Bool} {me : M R} {L L1 L2 L3 L4 : Lc} {w u : W} {ws acc : List W} {r : R} (h1 : g (.val w) L = .next L1) (h2 : mt L1 = .ok true L2) (h3 : me L2 = .ok r L3) (h4 : toW kp r L3 = .ok u L4) (hl : acc.length < sizeLine) :
    lcL kp vs g mt me (w :: ws) L acc = lcL kp vs g mt me ws (wipeL L4 vs) (acc ++ [u]) := by
  rw [lcL, h1]
  dsimp only
  rw [h2]
  dsimp only
  rw [h3]
  dsimp only
  rw [h4]
  dsimp only
  rw [if_pos hl]
@[simp] theorem e_yes {L : Lc} : mYes L = .ok true L := (rfl)
@[simp] theorem e_toW {L : Lc} (w : W) : toW true (.val w) L = .ok w L := (rfl)
/-- one turn of a for -/
def turnF (g : MG) (body : MS) (w : W) (L : Lc) : SRes := match g (.val w) L with
  | .next L1 => match body L1 with
    | .cnt L2 => .next L2
    | r => r
  | _ => .bad
/-- a for by an invariant; P: what its end must be -/
theorem for_inv {g : MG} {body : MS} {ws : List W} (I : Nat → Lc → Prop) (P : SRes → Prop)
    (step : ∀ (i : Nat) (w : W) (L : Lc), ws[i]? = some w → I i L → (∃ L', turnF g body w L = .next L' ∧ I (i + 1) L') ∨ (∃ L', turnF g body w L = .brk L' ∧ P (.next L')) ∨ (∃ v L', turnF g body w L = .ret v L' ∧ P (.ret v L')) ∨ ∃ x L', turnF g body w L = .exc x L' ∧ P (.exc x L'))
    (hend : ∀ L, I ws.length L → P (.next L)) : ∀ {L : Lc}, I 0 L → P (forL g body ws L) := by
  have main : ∀ (us : List W) (i : Nat) (L : Lc), ws.drop i = us → I i L → i ≤ ws.length → P (forL g body us L) := by
    intro us
    induction us with
    | nil =>
      intro i L e h hi
      rw [forL]
      have e2 : i = ws.length := by
        have := congrArg List.length e
        rw [List.length_drop, List.length_nil] at this
        omega
      subst e2
      exact hend L h
    | cons w us ih =>
      intro i L e h hi
      have hw : ws[i]? = some w := by
        have := congrArg (fun l => l[0]?) e
        simpa using this
      have hd : ws.drop (i + 1) = us := by
        rw [← List.drop_drop, e]
        rfl
      have hi2 : i + 1 ≤ ws.length := by
        have := (List.getElem?_eq_some_iff.mp hw).1
        omega
      have hs := step i w L hw h
      rw [forL]
      unfold turnF at hs
      cases e1 : g (.val w) L with
      | next L1 =>
        rw [e1] at hs
        dsimp only at hs ⊢
        cases e2 : body L1 with
        | next L2 =>
          rw [e2] at hs
          dsimp only at hs ⊢
          rcases hs with ⟨L', q, h'⟩ | ⟨L', q, _⟩ | ⟨v, L', q, _⟩ | ⟨x, L', q, _⟩ <;> cases q
          exact ih (i + 1) L2 hd h' hi2
        | cnt L2 =>
          rw [e2] at hs
          dsimp only at hs ⊢
          rcases hs with ⟨L', q, h'⟩ | ⟨L', q, _⟩ | ⟨v, L', q, _⟩ | ⟨x, L', q, _⟩ <;> cases q
          exact ih (i + 1) L2 hd h' hi2
        | brk L2 =>
          rw [e2] at hs
          dsimp only at hs ⊢
          rcases hs with ⟨L', q, _⟩ | ⟨L', q, h'⟩ | ⟨v, L', q, _⟩ | ⟨x, L', q, _⟩ <;> cases q
          exact h'
        | ret v L2 =>
          rw [e2] at hs
          dsimp only at hs ⊢
          rcases hs with ⟨L', q, _⟩ | ⟨L', q, _⟩ | ⟨v, L', q, h'⟩ | ⟨x, L', q, _⟩ <;> cases q
          exact h'
        | exc x L2 =>
          rw [e2] at hs
          dsimp only at hs ⊢
          rcases hs with ⟨L', q, _⟩ | ⟨L', q, _⟩ | ⟨v, L', q, _⟩ | ⟨x, L', q, h'⟩ <;> cases q
          exact h'
        | bad =>
          rw [e2] at hs
          dsimp only at hs
          rcases hs with ⟨L', q, _⟩ | ⟨L', q, _⟩ | ⟨v, L', q, _⟩ | ⟨x, L', q, _⟩ <;> cases q
      | _ =>
        rw [e1] at hs
        dsimp only at hs
        rcases hs with ⟨L', q, _⟩ | ⟨L', q, _⟩ | ⟨v, L', q, _⟩ | ⟨x, L', q, _⟩ <;> cases q
  exact fun {L} h => main ws 0 L rfl h (Nat.zero_le _)
theorem intsW_get {lo : Int} {n i : Nat} {w : W} (h : (intsW lo n)[i]? = some w) : i < n ∧ w = .frz (.int (lo + (i : Nat))) := by
  unfold intsW at h
  rw [List.getElem?_map] at h
  obtain ⟨k, ek, rfl⟩ := map_some h
  obtain ⟨hk, e2⟩ := List.getElem?_eq_some_iff.mp ek
  rw [List.getElem_range] at e2
  subst e2
  rw [List.length_range] at hk
  exact ⟨hk, rfl⟩
theorem intsW_len (lo : Int) (n : Nat) : (intsW lo n).length = n := by
  unfold intsW
  rw [List.length_map, List.length_range]
/-! ### tuples, lists, built-ins of two -/
section
variable {L : Lc}
@[simp] theorem e_toFs_nil : toFs [] L = .ok [] L := by rw [toFs]
@[simp] theorem e_toFs_cons (r : R) (rs : List R) : toFs (r :: rs) L = (toF r L).bind fun d L1 => (toFs rs L1).bind fun ds L2 => .ok (d :: ds) L2 := by rw [toFs]
theorem small_le {n : Nat} (h : n ≤ 1000) : n ≤ sizeLine := Nat.le_of_lt (small1000 h)
def tupR (ds : List D) (L2 : Lc) : Res R := if ds.length ≤ sizeLine then .ok (.val (.frz (.tup ds))) L2 else .bad
def lstR (ds : List D) (L2 : Lc) : Res R := if ds.length ≤ sizeLine then .ok (.val (.olst (ds.map .frz))) L2 else .bad
@[simp] theorem e_tup (m : M (List R)) : mTup m L = (m L).bind fun rs L1 => (toFs rs L1).bind tupR := (rfl)
@[simp] theorem e_lst (m : M (List R)) : mLst m L = (m L).bind fun rs L1 => (toFs rs L1).bind lstR := (rfl)
@[simp] theorem e_tupR (ds : List D) (h : ds.length ≤ 1000) : tupR ds L = .ok (.val (.frz (.tup ds))) L := if_pos (small_le h)
@[simp] theorem e_lstR (ds : List D) (h : ds.length ≤ 1000) : lstR ds L = .ok (.val (.olst (ds.map .frz))) L := if_pos (small_le h)
def scR (o : Option D) (L : Lc) : Res R := match o with
  | some d => .ok (.val (.frz d)) L
  | none => .bad
@[simp] theorem e_scR (d : D) : scR (some d) L = .ok (.val (.frz d)) L := (rfl)
@[simp] theorem e_f2 (g : D → D → Option D) (a b : D) : f2 g [.val (.frz a), .val (.frz b)] L = scR (g a b) L := (rfl)
theorem isi_same {K : PySem.W.Frag} {cs : List Addr} {x c : D} {t : Value} (h1 : x.type cs = some t) (h2 : c.asCls = some t) : isi K cs x c = some (.bl true) := by
  unfold isi
  rw [h1, h2]
  dsimp only
  rw [show PySem.W.kitOne K t t = some true from if_pos (beq_self_eq_true _)]
  rfl
theorem isi_ty {K : PySem.W.Frag} {cs : List Addr} {x : D} {a b : String} {r : Bool} (h1 : x.type cs = some (.type a)) (h : L2.kitB a b = some r) : isi K cs x (.ty b) = some (.bl r) := by
  unfold isi
  rw [h1, show (D.ty b).asCls = some (.type b) from rfl]
  dsimp only
  rw [L2.kit_ty h]
  rfl
theorem ix_nat {w : W} {ws : List W} {i : Nat} {a : W} (hs : w.str? = none) (hw : w.seq = some ws) (h : ws[i]? = some a) : ixW w (iW (i : Nat)) = some a := by
  unfold ixW
  show (match w.str? with
    | some z => if z.length ≤ sizeLine then (atI z.cps.toList (i : Nat)).map fun c => W.frz (.str ⟨#[c]⟩) else none
    | none => w.seq.bind fun ws => atI ws (i : Nat)) = _
  rw [hs, hw]
  exact atI_nat h
theorem ix_0 {a : D} {r : List D} : ixW (.frz (.tup (a :: r))) (iW 0) = some (.frz a) := ix_nat (i := 0) rfl rfl rfl
theorem ix_1 {a b : D} {r : List D} : ixW (.frz (.tup (a :: b :: r))) (iW 1) = some (.frz b) := ix_nat (i := 1) rfl rfl rfl
@[simp] theorem e_kR0 {a : D} {r : List D} : kR ixW (some (.frz (.tup (a :: r)))) (some (.frz (.int 0))) L = .ok (.val (.frz a)) L := kR_of ix_0
@[simp] theorem e_kR1 {a b : D} {r : List D} : kR ixW (some (.frz (.tup (a :: b :: r)))) (some (.frz (.int 1))) L = .ok (.val (.frz b)) L := kR_of ix_1
def bitsR (r : R) (L1 : Lc) : Res R := match r with
    | .val (.frz (.int i)) => .ok (sc (.int (Builtin.Int.intBits i : Nat))) L1
    | _ => .bad
@[simp] theorem e_bits (m : M R) : mBits m L = (m L).bind bitsR := (rfl)
@[simp] theorem e_bitsR (i : Int) : bitsR (.val (.frz (.int i))) L = .ok (.val (.frz (.int (Builtin.Int.intBits i : Nat)))) L := (rfl)
end
/-! ### lists of ints, append, concatenation -/
section
variable {L : Lc}
def bmR (T : String) (g : R → List R → M R) (x : R) (o : Option W) (m : M (List R)) (L1 : Lc) : Res R := match o with
  | some w => if tyD w.rd = T then (m L1).bind fun rs L2 => g x rs L2 else .bad
  | none => .bad
@[simp] theorem e_bm (T : String) (g : R → List R → M R) (a : M R) (m : M (List R)) : mBM T g a m L = (a L).bind fun x L1 => bmR T g x (x.get L1) m L1 := (rfl)
theorem bmR_of {T : String} {g : R → List R → M R} {x : R} {w : W} {m : M (List R)} (h : tyD w.rd = T) : bmR T g x (some w) m L = (m L).bind fun rs L2 => g x rs L2 := if_pos h
@[simp] theorem e_bm_l (g : R → List R → M R) (x : R) (ws : List W) (m : M (List R)) : bmR "list" g x (some (.olst ws)) m L = (m L).bind fun rs L2 => g x rs L2 := bmR_of (by rw [W.rd]; rfl)
@[simp] theorem e_bm_s (g : R → List R → M R) (x : R) (y : Str) (m : M (List R)) : bmR "str" g x (some (.frz (.str y))) m L = (m L).bind fun rs L2 => g x rs L2 := bmR_of (by rw [W.rd]; rfl)
def appR (i : Nat) (d : D) (o : Option (Option W)) (L1 : Lc) : Res R := match o with
  | some (some (.olst ws)) => if ws.length < sizeLine then .ok (sc .non) (L1.set i (some (.olst (ws ++ [.frz d])))) else .bad
  | _ => .bad
@[simp] theorem e_app (i : Nat) (r : R) : gAppend (.al i) [r] L = (toF r L).bind fun d L1 => appR i d L1[i]? L1 := (rfl)
@[simp] theorem e_appR (i : Nat) (d : D) (ws : List W) (h : ws.length < sizeLine) : appR i d (some (some (.olst ws))) L = .ok (sc .non) (L.set i (some (.olst (ws ++ [.frz d])))) := if_pos h
theorem no_map (ds : List D) : (ds.map W.frz).all W.no = true := by
  rw [List.all_eq_true]
  intro w hw
  obtain ⟨d, _, rfl⟩ := List.mem_map.mp hw
  rfl
theorem seq_l (ds : List D) : (W.olst (ds.map .frz)).seq = some (ds.map .frz) := if_pos (no_map ds)
theorem lseq_l (ds : List D) : (W.olst (ds.map .frz)).lseq = some (ds.map .frz) := if_pos (no_map ds)
theorem lseq_f (ds : List D) : (W.frz (.lst ds)).lseq = some (ds.map .frz) := rfl
theorem ixl_nat {ds : List D} {i : Nat} {d : D} (h : ds[i]? = some d) : ixW (.olst (ds.map .frz)) (iW (i : Nat)) = some (.frz d) :=
  ix_nat rfl (seq_l ds) (by rw [List.getElem?_map, h]; rfl)
theorem ixf_nat {ds : List D} {i : Nat} {d : D} (h : ds[i]? = some d) : ixW (.frz (.lst ds)) (iW (i : Nat)) = some (.frz d) :=
  ix_nat rfl rfl (by rw [List.getElem?_map, h]; rfl)
theorem ix_last {w : W} {ws : List W} {a : W} (hs : w.str? = none) (hw : w.seq = some ws) (h : ws.getLast? = some a) : ixW w (iW (-1)) = some a := by
  unfold ixW
  show (match w.str? with
    | some z => if z.length ≤ sizeLine then (atI z.cps.toList (-1)).map fun c => W.frz (.str ⟨#[c]⟩) else none
    | none => w.seq.bind fun ws => atI ws (-1)) = _
  rw [hs, hw]
  show atI ws (-1) = some a
  have hl : 1 ≤ ws.length := by
    cases ws with
    | nil => cases h
    | cons x r => exact Nat.succ_le_succ (Nat.zero_le _)
  unfold atI ixN
  rw [if_neg (by omega), if_pos (by omega), Option.bind_some]
  rw [List.getLast?_eq_getElem?] at h
  have e : (-1 + (ws.length : Int)).toNat = ws.length - 1 := by omega
  rw [e]
  exact h
theorem ixl_last {ds : List D} {d : D} (h : ds.getLast? = some d) : ixW (.olst (ds.map .frz)) (iW (-1)) = some (.frz d) :=
  ix_last rfl (seq_l ds) (by rw [List.getLast?_map, h]; rfl)
/-- concatenation of two lists of data -/
theorem catL_is {x y : R} {a b : W} {ws us : List W} (hx : x.get L = some a) (hy : y.get L = some b) (ha : a.lseq = some ws) (hb : b.lseq = some us) (hl : ws.length + us.length ≤ sizeLine) : aCatL x y L = .ok (.val (.olst (ws ++ us))) L := by
  unfold aCatL
  rw [hx, hy]
  dsimp only
  rw [ha, hb]
  dsimp only
  rw [if_pos hl]
theorem lseq_rd {w : W} {ws : List W} (h : w.lseq = some ws) : ∃ ds, w.rd = .lst ds := by
  unfold W.lseq at h
  split at h
  · exact ⟨_, by rw [W.rd]⟩
  · exact ⟨_, by rw [W.rd]⟩
  · exact ⟨_, by rw [W.rd]⟩
  · cases h
theorem addU_l {x y : R} {a b : W} {ws us : List W} (hx : x.get L = some a) (hy : y.get L = some b) (ha : a.lseq = some ws) (hb : b.lseq = some us) (hl : ws.length + us.length ≤ sizeLine) : aAddU x y L = .ok (.val (.olst (ws ++ us))) L := by
  obtain ⟨d1, e1⟩ := lseq_rd ha
  obtain ⟨d2, e2⟩ := lseq_rd hb
  have b1 : aAdd x y L = .bad := by
    unfold aAdd mkS
    rw [hx, hy]
    dsimp only
    rw [e1, e2]
    rfl
  have b2 : aCatS x y L = .bad := by
    unfold aCatS mkS
    rw [hx, hy]
    dsimp only
    rw [e1, e2]
    rfl
  unfold aAddU gOr
  rw [b1]
  dsimp only
  rw [b2]
  exact catL_is hx hy ha hb hl
end
end BV

namespace BV
open PySem PySem.Spec PyProof.Rows L2
section
variable {L : Lc}
@[simp] theorem e_asg (g : MG) (m : M R) : sAsg g m L = (m L).thenS fun r L1 => g r L1 := (rfl)
def SRes.seqG (r : SRes) (b : MS) : SRes := match r with
  | .next L1 => b L1
  | _ => .bad
@[simp] theorem e_seqG (b : MS) : (SRes.next L).seqG b = b L := (rfl)
@[simp] theorem e_gsc (g : MG) (gs : List W → MS) (w : W) (ws : List W) : gsCons g gs (w :: ws) L = (g (.val w) L).seqG (gs ws) := (rfl)
@[simp] theorem e_gsn : gsNil [] L = .next L := (rfl)
@[simp] theorem e_gTp (n : Nat) (gs : List W → MS) (ds : List D) (h : ds.length = n) : gTp n gs (.val (.frz (.tup ds))) L = gs (ds.map .frz) L := by
  show (if (ds.map W.frz).length = n then gs (ds.map W.frz) L else .bad) = _
  rw [if_pos (by rw [List.length_map]; exact h)]
@[simp] theorem e_exc_try (m : MS) : noX m L = match m L with
  | .exc _ _ => .bad
  | r => r := (rfl)
theorem noX_ret {m : MS} {w : W} {L' : Lc} (h : m L = .ret w L') : noX m L = .ret w L' := by
  unfold noX
  rw [h]
def turnR (r : SRes) : SRes := match r with
  | .cnt L2 => .next L2
  | r => r
@[simp] theorem e_turnR_n : turnR (.next L) = .next L := (rfl)
@[simp] theorem e_turnR_c : turnR (.cnt L) = .next L := (rfl)
@[simp] theorem e_turnR_b : turnR (.brk L) = .brk L := (rfl)
@[simp] theorem e_turnR_r (w : W) : turnR (.ret w L) = .ret w L := (rfl)
theorem turn_is (g : MG) (body : MS) (w : W) : turnF g body w L = (g (.val w) L).seqG fun L1 => turnR (body L1) := by
  unfold turnF SRes.seqG turnR
  cases g (.val w) L <;> rfl
/-- a for that runs to its end -/
theorem for_all {g : MG} {body : MS} {ws : List W} (I : Nat → Lc → Prop) (step : ∀ (i : Nat) (w : W) (L : Lc), ws[i]? = some w → I i L → ∃ L', turnF g body w L = .next L' ∧ I (i + 1) L') {L : Lc} (h0 : I 0 L) :
    ∃ L', forL g body ws L = .next L' ∧ I ws.length L' :=
  for_inv I (fun r => ∃ L', r = .next L' ∧ I ws.length L') (fun i w L hw h => .inl (step i w L hw h)) (fun L h => ⟨L, rfl, h⟩) h0
end
/-! ### x[i] = e -/
section
variable {L : Lc}
def setC (i : Nat) (d : D) (ws : List W) (o : Option Nat) (L3 : Lc) : SRes := match o with
  | some n => .next (L3.set i (some (.olst (ws.set n (.frz d)))))
  | none => .bad
def setB (i : Nat) (d : D) (k : R) (o : Option (Option W)) (L3 : Lc) : SRes := match k, o with
  | .val (.frz (.int j)), some (some (.olst ws)) => setC i d ws (ixN ws.length j) L3
  | _, _ => .bad
def setA (i : Nat) (d : D) (mi : M R) (o : Option (Option W)) (L2 : Lc) : SRes := match o with
  | some (some _) => (mi L2).thenS fun k L3 => setB i d k L3[i]? L3
  | _ => .bad
@[simp] theorem e_setIx (i : Nat) (mi me : M R) : sSetIx i mi me L = (me L).thenS fun r L1 => (toF r L1).thenS fun d L2 => setA i d mi L2[i]? L2 := (rfl)
@[simp] theorem e_setA (i : Nat) (d : D) (mi : M R) (w : W) : setA i d mi (some (some w)) L = (mi L).thenS fun k L3 => setB i d k L3[i]? L3 := (rfl)
@[simp] theorem e_setB (i : Nat) (d : D) (j : Int) (ws : List W) : setB i d (.val (.frz (.int j))) (some (some (.olst ws))) L = setC i d ws (ixN ws.length j) L := (rfl)
@[simp] theorem e_setC (i : Nat) (d : D) (ws : List W) (n : Nat) : setC i d ws (some n) L = .next (L.set i (some (.olst (ws.set n (.frz d))))) := (rfl)
theorem ixN_nat {n i : Nat} (h : i < n) : ixN n (i : Int) = some i := by
  unfold ixN
  rw [if_pos (Int.natCast_nonneg i), if_pos (Int.ofNat_lt.mpr h), Int.toNat_natCast]
end
theorem for_next {g : MG} {body : MS} {w : W} {ws : List W} {L L' : Lc} (h : turnF g body w L = .next L') : forL g body (w :: ws) L = forL g body ws L' := by
  rw [forL]
  unfold turnF at h
  cases e1 : g (.val w) L with
  | next L1 =>
    rw [e1] at h
    dsimp only at h ⊢
    cases e2 : body L1 with
    | next L2 => rw [e2] at h; cases h; rfl
    | cnt L2 => rw [e2] at h; cases h; rfl
    | brk L2 => rw [e2] at h; cases h
    | ret v L2 => rw [e2] at h; cases h
    | exc x L2 => rw [e2] at h; cases h
    | bad => rw [e2] at h; cases h
  | _ => rw [e1] at h; cases h
@[simp] theorem e_iter {L : Lc} (m : M R) : mIter m L = (m L).bind itemsOf := (rfl)
/-! ### slices -/
section
variable {L : Lc}
def slR (l h : Option Int) (o : Option W) (L3 : Lc) : Res R := match o with
  | some w => match slW w l h with
    | some u => .ok (.val u) L3
    | none => .bad
  | none => .bad
@[simp] theorem e_sl (m : M R) (ml mh : M (Option Int)) : mSl m ml mh L = (m L).bind fun r L1 => (ml L1).bind fun l L2 => (mh L2).bind fun h L3 => slR l h (r.get L3) L3 := (rfl)
theorem slR_of {l h : Option Int} {w u : W} (e : slW w l h = some u) : slR l h (some w) L = .ok (.val u) L := by
  unfold slR
  dsimp only
  rw [e]
def pR (r : R) (L1 : Lc) : Res (Option Int) := match r with
  | .val (.frz (.int i)) => .ok (some i) L1
  | _ => .bad
@[simp] theorem e_pSome (m : M R) : pSome m L = (m L).bind pR := (rfl)
@[simp] theorem e_pR (i : Int) : pR (.val (.frz (.int i))) L = .ok (some i) L := (rfl)
@[simp] theorem e_pNone : pNone L = .ok none L := (rfl)
end
end BV

namespace L
open PySem PySem.Spec PyProof.Rows L2 BV
def topS (i : Nat) : Stmt := PySem.Challenge.pw_marktruly_k47_tails_of_hits.main.body.getD i (.Pass ⟨0, 0, 0, 0⟩)
structure Ad where
  Share : Addr
abbrev s_l_stream : Stmt := topS 15
abbrev s_l_tails : Stmt := topS 22
abbrev s_greatest_divisor : Stmt := topS 2
abbrev s_Share_init : Stmt := inClass (topS 9) 0
abbrev s_power : Stmt := topS 3
abbrev s_ways : Stmt := topS 4
abbrev s_hit_tail : Stmt := topS 12
abbrev s_l_lowest : Stmt := topS 18
abbrev s_l_is_whole : Stmt := topS 19
abbrev s_l_is_share : Stmt := topS 20
abbrev s_l_least : Stmt := topS 23
abbrev s_l_least_fits : Stmt := topS 25
abbrev s_Share_is_below : Stmt := inClass (topS 9) 6
abbrev s_hit_least : Stmt := topS 13
abbrev s_l_tails_fit : Stmt := topS 26
abbrev s_l_draw : Stmt := topS 16
abbrev s_l_alphabet : Stmt := topS 21
abbrev s_l_keys : Stmt := topS 29
abbrev s_hits : Stmt := topS 11
abbrev s_l_power : Stmt := topS 28
abbrev s_l_counts_fit : Stmt := topS 30
abbrev s_l_large : Stmt := topS 17
abbrev s_l_level : Stmt := topS 24
abbrev s_l_levels_fit : Stmt := topS 27
abbrev s_l_whole : Stmt := topS 31
abbrev s_law : Stmt := topS 32
abbrev fl_l_stream : List Bool := [false, false]
def m_l_stream (K : PySem.W.Frag) (A : Ad) : MS := (sSeq (sSet fl_l_stream 2 (mOp aAddU (mOp aMul (mC (.int 3)) (mVar 1)) (mC (.int 1))))
  (sSeq (sIf (mBl (mOp cGt (mCallB (f1 lenD) (mCons (mVar 0) mNil)) (mC (.int 0))))
  (sSet fl_l_stream 2 (mOp aAddU (mCallB (f1 intD) (mCons (mOp (mkK ixW) (mVar 0) (mOp aMod (mVar 1) (mCallB (f1 lenD) (mCons (mVar 0) mNil)))) mNil)) (mOp aMul (mOp aDiv (mVar 1) (mCallB (f1 lenD) (mCons (mVar 0) mNil))) (mC (.int 104729)))))
  sNil)
  (sSeq (sIf (mBl (mOp cLt (mVar 2) (mC (.int 0))))
  (sSet fl_l_stream 2 (mOp aSub (mC (.int 1)) (mVar 2)))
  sNil)
  (sSeq (sIf (mBl (mOp cGe (mVar 2) (mOp aPow (mC (.int 10)) (mC (.int 18)))))
  (sRet (mLst (mCons (mVar 2) (mCons (mOp aMod (mCallB (f1 intD) (mCons (mVar 2) mNil)) (mC (.int 2147483647))) (mCons (mC (.int 0)) mNil)))))
  sNil)
  (sRet (mLst (mCons (mC (.int 0)) (mCons (mOp aMod (mCallB (f1 intD) (mCons (mVar 2) mNil)) (mC (.int 2147483647))) (mCons (mC (.int 0)) mNil)))))))))
def fn_l_stream (K : PySem.W.Frag) (A : Ad) : Fn := runF 3 fl_l_stream (m_l_stream K A)
abbrev fl_l_tails : List Bool := [false, false]
def m_l_tails_b1 (K : PySem.W.Frag) (A : Ad) : MS := (sExp (mBM "list" gAppend (mVar 2) (mCons (mOp aMul (mOp (mkK ixW) (mVar 2) (mNeg (mC (.int 1)))) (mOp aSub (mVar 0) (mC (.int 1)))) mNil)))
def m_l_tails_b2 (K : PySem.W.Frag) (A : Ad) : MS := (sSet fl_l_tails 4 (mOp aMul (mVar 4) (mVar 0)))
def m_l_tails_b3 (K : PySem.W.Frag) (A : Ad) : MS := (sSeq (sSet fl_l_tails 5 (mOp aAddU (mLst (mCons (mOp aAddU (mOp (mkK ixW) (mVar 5) (mC (.int 0))) (mOp aMul (mVar 6) (mOp (mkK ixW) (mVar 2) (mVar 7)))) mNil)) (mVar 5)))
  (sSet fl_l_tails 6 (mOp aDiv (mOp aMul (mVar 6) (mOp aSub (mVar 1) (mVar 7))) (mOp aAddU (mVar 7) (mC (.int 1))))))
def m_l_tails (K : PySem.W.Frag) (A : Ad) : MS := (sSeq (sSet fl_l_tails 2 (mLst (mCons (mC (.int 1)) mNil)))
  (sSeq (sFor (mRange1 (mCons (mVar 1) mNil)) (gNm fl_l_tails 3) (m_l_tails_b1 K A))
  (sSeq (sSet fl_l_tails 4 (mC (.int 1)))
  (sSeq (sFor (mRange1 (mCons (mVar 1) mNil)) (gNm fl_l_tails 3) (m_l_tails_b2 K A))
  (sSeq (sSet fl_l_tails 5 (mLst (mCons (mC (.int 0)) mNil)))
  (sSeq (sSet fl_l_tails 6 (mC (.int 1)))
  (sSeq (sFor (mRange1 (mCons (mOp aAddU (mVar 1) (mC (.int 1))) mNil)) (gNm fl_l_tails 7) (m_l_tails_b3 K A))
  (sRet (mTup (mCons (mVar 5) (mCons (mVar 4) mNil)))))))))))
def fn_l_tails (K : PySem.W.Frag) (A : Ad) : Fn := runF 8 fl_l_tails (m_l_tails K A)
abbrev fl_greatest_divisor : List Bool := [false, false]
def m_greatest_divisor_b1 (K : PySem.W.Frag) (A : Ad) : MS := (sPar fl_greatest_divisor 0 1 (mCons (mVar 1) (mCons (mOp aMod (mVar 0) (mVar 1)) mNil)))
def m_greatest_divisor (K : PySem.W.Frag) (A : Ad) : MS := (sSeq (sWhile (fuelI 1) (mBl (mOp cGt (mVar 1) (mC (.int 0)))) (m_greatest_divisor_b1 K A))
  (sRet (mVar 0)))
def fn_greatest_divisor (K : PySem.W.Frag) (A : Ad) : Fn := runF 2 fl_greatest_divisor (m_greatest_divisor K A)
abbrev fl_Share_init : List Bool := [true, false, false]
def m_Share_init (K : PySem.W.Frag) (A : Ad) : MS := (sSeq (sIf (mBl (mOp cEqS (mVar 2) (mC (.int 0))))
  sBad
  sNil)
  (sSeq (sSet fl_Share_init 3 (mCall fl_greatest_divisor (fn_greatest_divisor K A) (mCons (mCallB (f1 absD) (mCons (mVar 1) mNil)) (mCons (mCallB (f1 absD) (mCons (mVar 2) mNil)) mNil))))
  (sSeq (sIf (mBl (mOp cLt (mVar 2) (mC (.int 0))))
  (sSet fl_Share_init 3 (mNeg (mVar 3)))
  sNil)
  (sSeq (sFldSet [A.Share] 0 "over" (mOp aDiv (mVar 1) (mVar 3)))
  (sFldSet [A.Share] 0 "under" (mOp aDiv (mVar 2) (mVar 3)))))))
def fn_Share_init (K : PySem.W.Frag) (A : Ad) : Fn := runF 4 fl_Share_init (m_Share_init K A)
abbrev fl_power : List Bool := [false, false]
def m_power_b1 (K : PySem.W.Frag) (A : Ad) : MS := (sSet fl_power 2 (mOp aMul (mVar 2) (mVar 0)))
def m_power (K : PySem.W.Frag) (A : Ad) : MS := (sSeq (sSet fl_power 2 (mC (.int 1)))
  (sSeq (sFor (mRange1 (mCons (mVar 1) mNil)) (gNm fl_power 3) (m_power_b1 K A))
  (sRet (mVar 2))))
def fn_power (K : PySem.W.Frag) (A : Ad) : Fn := runF 4 fl_power (m_power K A)
abbrev fl_ways : List Bool := [false, false]
def m_ways_b1 (K : PySem.W.Frag) (A : Ad) : MS := (sSet fl_ways 2 (mOp aDiv (mOp aMul (mVar 2) (mOp aAddU (mOp aSub (mVar 0) (mVar 1)) (mVar 3))) (mVar 3)))
def m_ways (K : PySem.W.Frag) (A : Ad) : MS := (sSeq (sIf (mOr (mBl (mOp cLt (mVar 1) (mC (.int 0)))) (mBl (mOp cGt (mVar 1) (mVar 0))))
  (sRet (mC (.int 0)))
  sNil)
  (sSeq (sSet fl_ways 2 (mC (.int 1)))
  (sSeq (sFor (mRange2 (mCons (mC (.int 1)) (mCons (mOp aAddU (mVar 1) (mC (.int 1))) mNil))) (gNm fl_ways 3) (m_ways_b1 K A))
  (sRet (mVar 2)))))
def fn_ways (K : PySem.W.Frag) (A : Ad) : Fn := runF 4 fl_ways (m_ways K A)
abbrev fl_hit_tail : List Bool := [false, false, false]
def fo_hit_tail_1 (K : PySem.W.Frag) (A : Ad) : List Bool := [true, true, true, true, false]
def m_hit_tail_e2 (K : PySem.W.Frag) (A : Ad) : M R := (mOp aMul (mCall fl_ways (fn_ways K A) (mCons (mVar 1) (mCons (mVar 4) mNil))) (mCall fl_power (fn_power K A) (mCons (mOp aSub (mVar 0) (mC (.int 1))) (mCons (mOp aSub (mVar 1) (mVar 4)) mNil))))
def m_hit_tail (K : PySem.W.Frag) (A : Ad) : MS := (sSeq (sSet fl_hit_tail 3 (mCallB (f1 sumD) (mCons (mLc true (fo_hit_tail_1 K A) [4] (mRange2 (mCons (mVar 2) (mCons (mOp aAddU (mVar 1) (mC (.int 1))) mNil))) (gNm (fo_hit_tail_1 K A) 4) mYes (m_hit_tail_e2 K A)) mNil)))
  (sRet (mMake A.Share [false, false] (fn_Share_init K A) (mCons (mVar 3) (mCons (mCall fl_power (fn_power K A) (mCons (mVar 0) (mCons (mVar 1) mNil))) mNil)))))
def fn_hit_tail (K : PySem.W.Frag) (A : Ad) : Fn := runF 5 fl_hit_tail (m_hit_tail K A)
abbrev fl_l_lowest : List Bool := [false, false]
def m_l_lowest_b1 (K : PySem.W.Frag) (A : Ad) : MS := (sSeq (sIf (mBl (mOp cEqS (mVar 3) (mC (.int 0))))
  sBrk
  sNil)
  (sPar fl_l_lowest 2 3 (mCons (mVar 3) (mCons (mOp aMod (mCallB (f1 intD) (mCons (mVar 2) mNil)) (mVar 3)) mNil))))
def m_l_lowest (K : PySem.W.Frag) (A : Ad) : MS := (sSeq (sSet fl_l_lowest 2 (mCallB (f1 absD) (mCons (mVar 0) mNil)))
  (sSeq (sSet fl_l_lowest 3 (mVar 1))
  (sSeq (sFor (mRange1 (mCons (mOp aAddU (mOp aMul (mC (.int 2)) (mBits (mVar 1))) (mC (.int 2))) mNil)) (gNm fl_l_lowest 4) (m_l_lowest_b1 K A))
  (sRet (mTup (mCons (mOp aDiv (mVar 0) (mVar 2)) (mCons (mOp aDiv (mVar 1) (mVar 2)) mNil)))))))
def fn_l_lowest (K : PySem.W.Frag) (A : Ad) : Fn := runF 5 fl_l_lowest (m_l_lowest K A)
abbrev fl_l_is_whole : List Bool := [false]
def m_l_is_whole (K : PySem.W.Frag) (A : Ad) : MS := (sRet (mAndV (mCallB (f2 (isi K [A.Share])) (mCons (mVar 0) (mCons (mC (.ty "int")) mNil))) (mNotV (mCallB (f2 (isi K [A.Share])) (mCons (mVar 0) (mCons (mC (.ty "bool")) mNil))))))
def fn_l_is_whole (K : PySem.W.Frag) (A : Ad) : Fn := runF 1 fl_l_is_whole (m_l_is_whole K A)
abbrev fl_l_is_share : List Bool := [false, false, false]
def m_l_is_share (K : PySem.W.Frag) (A : Ad) : MS := (sSeq (sIf (mOr (mNot (mTru (mCallB (f2 (isi K [A.Share])) (mCons (mVar 0) (mCons (mC (.adr A.Share)) mNil))))) (mOr (mNot (mTru (mCall fl_l_is_whole (fn_l_is_whole K A) (mCons (mFld [A.Share] "over" (mVar 0)) mNil)))) (mNot (mTru (mCall fl_l_is_whole (fn_l_is_whole K A) (mCons (mFld [A.Share] "under" (mVar 0)) mNil))))))
  (sRet (mC (.bl false)))
  sNil)
  (sSeq (sSet fl_l_is_share 3 (mCall fl_l_lowest (fn_l_lowest K A) (mCons (mVar 1) (mCons (mVar 2) mNil))))
  (sRet (mAndV (mOp cEqS (mFld [A.Share] "over" (mVar 0)) (mOp (mkK ixW) (mVar 3) (mC (.int 0)))) (mOp cEqS (mFld [A.Share] "under" (mVar 0)) (mOp (mkK ixW) (mVar 3) (mC (.int 1))))))))
def fn_l_is_share (K : PySem.W.Frag) (A : Ad) : Fn := runF 4 fl_l_is_share (m_l_is_share K A)
abbrev fl_l_least : List Bool := [false, false, false]
def m_l_least_b1 (K : PySem.W.Frag) (A : Ad) : MS := (sIf (mBl (mOp cLe (mOp aMul (mOp (mkK ixW) (mVar 0) (mVar 3)) (mOp (mkK ixW) (mVar 2) (mC (.int 1)))) (mOp aMul (mOp (mkK ixW) (mVar 2) (mC (.int 0))) (mVar 1))))
  (sRet (mVar 3))
  sNil)
def m_l_least (K : PySem.W.Frag) (A : Ad) : MS := (sSeq (sFor (mRange1 (mCons (mCallB (f1 lenD) (mCons (mVar 0) mNil)) mNil)) (gNm fl_l_least 3) (m_l_least_b1 K A))
  (sRet (mOp aSub (mCallB (f1 lenD) (mCons (mVar 0) mNil)) (mC (.int 1)))))
def fn_l_least (K : PySem.W.Frag) (A : Ad) : Fn := runF 4 fl_l_least (m_l_least K A)
abbrev fl_l_least_fits : List Bool := [false, false, false, false]
def m_l_least_fits (K : PySem.W.Frag) (A : Ad) : MS := (sRet (mAndV (mCall fl_l_is_whole (fn_l_is_whole K A) (mCons (mVar 2) mNil)) (mAndV (mOp cEqS (mVar 2) (mVar 3)) (mAndV (mChain cLe cLe (mC (.int 0)) (mVar 2) (mOp aAddU (mVar 1) (mC (.int 1)))) (mOp cGt (mVar 0) (mC (.int 0)))))))
def fn_l_least_fits (K : PySem.W.Frag) (A : Ad) : Fn := runF 4 fl_l_least_fits (m_l_least_fits K A)
abbrev fl_Share_is_below : List Bool := [false, false]
def m_Share_is_below (K : PySem.W.Frag) (A : Ad) : MS := (sRet (mOp cLt (mOp aMul (mFld [A.Share] "over" (mVar 0)) (mFld [A.Share] "under" (mVar 1))) (mOp aMul (mFld [A.Share] "over" (mVar 1)) (mFld [A.Share] "under" (mVar 0)))))
def fn_Share_is_below (K : PySem.W.Frag) (A : Ad) : Fn := runF 2 fl_Share_is_below (m_Share_is_below K A)
abbrev fl_hit_least : List Bool := [false, false, false]
def m_hit_least_b1 (K : PySem.W.Frag) (A : Ad) : MS := (sIf (mNot (mTru (mMeth (dOne A.Share fl_Share_is_below (fn_Share_is_below K A)) "is_below" (mVar 2) (mCons (mCall fl_hit_tail (fn_hit_tail K A) (mCons (mVar 0) (mCons (mVar 1) (mCons (mVar 3) mNil)))) mNil))))
  (sRet (mVar 3))
  sNil)
def m_hit_least (K : PySem.W.Frag) (A : Ad) : MS := (sSeq (sFor (mRange1 (mCons (mOp aAddU (mVar 1) (mC (.int 1))) mNil)) (gNm fl_hit_least 3) (m_hit_least_b1 K A))
  (sRet (mOp aAddU (mVar 1) (mC (.int 1)))))
def fn_hit_least (K : PySem.W.Frag) (A : Ad) : Fn := runF 4 fl_hit_least (m_hit_least K A)
abbrev fl_l_tails_fit : List Bool := [false, false]
def m_l_tails_fit_b1 (K : PySem.W.Frag) (A : Ad) : MS := (sSeq (sSet fl_l_tails_fit 5 (mCall fl_hit_tail (fn_hit_tail K A) (mCons (mVar 0) (mCons (mVar 1) (mCons (mVar 2) mNil)))))
  (sSeq (sIf (mNot (mTru (mCall fl_l_is_share (fn_l_is_share K A) (mCons (mVar 5) (mCons (mOp (mkK ixW) (mVar 3) (mVar 2)) (mCons (mVar 4) mNil))))))
  (sRet (mC (.bl false)))
  sNil)
  (sIf (mBl (mOp cGt (mFld [A.Share] "over" (mVar 5)) (mC (.int 0))))
  (sSeq (sSet fl_l_tails_fit 6 (mCall fl_l_least (fn_l_least K A) (mCons (mVar 3) (mCons (mVar 4) (mCons (mTup (mCons (mOp (mkK ixW) (mVar 3) (mVar 2)) (mCons (mVar 4) mNil))) mNil)))))
  (sIf (mNot (mTru (mCall fl_l_least_fits (fn_l_least_fits K A) (mCons (mVar 0) (mCons (mVar 1) (mCons (mCall fl_hit_least (fn_hit_least K A) (mCons (mVar 0) (mCons (mVar 1) (mCons (mVar 5) mNil)))) (mCons (mVar 6) mNil)))))))
  (sRet (mC (.bl false)))
  sNil))
  sNil)))
def m_l_tails_fit (K : PySem.W.Frag) (A : Ad) : MS := (sSeq (sAsg (gTp 2 (gsCons (gNm fl_l_tails_fit 3) (gsCons (gNm fl_l_tails_fit 4) gsNil))) (mCall fl_l_tails (fn_l_tails K A) (mCons (mVar 0) (mCons (mVar 1) mNil))))
  (sSeq (sFor (mRange1 (mCons (mOp aAddU (mVar 1) (mC (.int 2))) mNil)) (gNm fl_l_tails_fit 2) (m_l_tails_fit_b1 K A))
  (sRet (mC (.bl true)))))
def fn_l_tails_fit (K : PySem.W.Frag) (A : Ad) : Fn := runF 7 fl_l_tails_fit (m_l_tails_fit K A)
abbrev fl_l_draw : List Bool := [true, false]
def m_l_draw (K : PySem.W.Frag) (A : Ad) : MS := (sSeq (sIf (mBl (mOp cGt (mOp (mkK ixW) (mVar 0) (mC (.int 0))) (mC (.int 0))))
  (sSeq (sSet fl_l_draw 3 (mOp aMod (mCallB (f1 intD) (mCons (mOp (mkK ixW) (mVar 0) (mC (.int 0))) mNil)) (mVar 1)))
  (sSeq (sSetIx 0 (mC (.int 0)) (mOp aDiv (mOp (mkK ixW) (mVar 0) (mC (.int 0))) (mVar 1)))
  (sRet (mVar 3))))
  sNil)
  (sSeq (sSetIx 0 (mC (.int 2)) (mOp aAddU (mOp (mkK ixW) (mVar 0) (mC (.int 2))) (mC (.int 1))))
  (sSeq (sSetIx 0 (mC (.int 1)) (mOp aMod (mCallB (f1 intD) (mCons (mOp aAddU (mOp aAddU (mOp aMul (mOp (mkK ixW) (mVar 0) (mC (.int 1))) (mC (.int 48271))) (mOp aMul (mOp (mkK ixW) (mVar 0) (mC (.int 2))) (mC (.int 69621)))) (mC (.int 7))) mNil)) (mC (.int 2147483647))))
  (sSeq (sSet fl_l_draw 2 (mOp aMod (mCallB (f1 intD) (mCons (mOp aAddU (mOp aMul (mOp (mkK ixW) (mVar 0) (mC (.int 1))) (mC (.int 40692))) (mOp (mkK ixW) (mVar 0) (mC (.int 2)))) mNil)) (mC (.int 2147483399))))
  (sRet (mOp aMod (mCallB (f1 intD) (mCons (mVar 2) mNil)) (mVar 1)))))))
def fn_l_draw (K : PySem.W.Frag) (A : Ad) : Fn := runF 4 fl_l_draw (m_l_draw K A)
abbrev fl_l_alphabet : List Bool := [true, false]
def m_l_alphabet_b1 (K : PySem.W.Frag) (A : Ad) : MS := (sSeq (sSet fl_l_alphabet 5 (mOp (mkK ixW) (mVar 2) (mCall fl_l_draw (fn_l_draw K A) (mCons (mVar 0) (mCons (mC (.int 94)) mNil)))))
  (sIf (mBl (mOp cNinU (mVar 5) (mVar 3)))
  (sExp (mBM "list" gAppend (mVar 3) (mCons (mVar 5) mNil)))
  sNil))
def m_l_alphabet (K : PySem.W.Frag) (A : Ad) : MS := (sSeq (sSet fl_l_alphabet 2 (mC (.str " !\"#$&'()*+,-./0123456789:;<=>?@ABCDEFGHIJKLMNOPQRSTUVWXYZ[\\]^_`abcdefghijklmnopqrstuvwxyz{|}~")))
  (sSeq (sSet fl_l_alphabet 3 (mLst (mCons (mOp (mkK ixW) (mVar 2) (mCall fl_l_draw (fn_l_draw K A) (mCons (mVar 0) (mCons (mC (.int 94)) mNil)))) mNil)))
  (sSeq (sFor (mRange2 (mCons (mC (.int 1)) (mCons (mVar 1) mNil))) (gNm fl_l_alphabet 4) (m_l_alphabet_b1 K A))
  (sRet (mBM "str" (g1 joinD) (mC (.str "")) (mCons (mCallB bSorted (mCons (mVar 3) mNil)) mNil))))))
def fn_l_alphabet (K : PySem.W.Frag) (A : Ad) : Fn := runF 6 fl_l_alphabet (m_l_alphabet K A)
abbrev fl_l_keys : List Bool := [false, false, false]
def m_l_keys_b1 (K : PySem.W.Frag) (A : Ad) : MS := (sExp (mBM "list" gAppend (mVar 5) (mCons (mOp aAddU (mVar 6) (mLst (mCons (mTup (mCons (mOp aDiv (mVar 7) (mVar 1)) (mCons (mOp aMod (mCallB (f1 intD) (mCons (mVar 7) mNil)) (mVar 1)) mNil))) mNil))) mNil)))
def m_l_keys_b2 (K : PySem.W.Frag) (A : Ad) : MS := (sFor (mRange1 (mCons (mOp aMul (mVar 0) (mVar 1)) mNil)) (gNm fl_l_keys 7) (m_l_keys_b1 K A))
def m_l_keys_b3 (K : PySem.W.Frag) (A : Ad) : MS := (sSeq (sSet fl_l_keys 5 (mLst mNil))
  (sSeq (sFor (mIter (mVar 3)) (gNm fl_l_keys 6) (m_l_keys_b2 K A))
  (sSet fl_l_keys 3 (mVar 5))))
def m_l_keys (K : PySem.W.Frag) (A : Ad) : MS := (sSeq (sSet fl_l_keys 3 (mLst (mCons (mLst mNil) mNil)))
  (sSeq (sFor (mRange1 (mCons (mVar 2) mNil)) (gNm fl_l_keys 4) (m_l_keys_b3 K A))
  (sRet (mVar 3))))
def fn_l_keys (K : PySem.W.Frag) (A : Ad) : Fn := runF 8 fl_l_keys (m_l_keys K A)
abbrev fl_hits : List Bool := [false, false, false, false]
def m_hits_b1 (K : PySem.W.Frag) (A : Ad) : MS := (sIf (mBl (mOp cEqS (mOp aDiv (mOp aMul (mVar 8) (mVar 4)) (mVar 1)) (mOp aMod (mOp aSub (mBM "str" (g1 sindexD) (mVar 0) (mCons (mVar 6) mNil)) (mVar 7)) (mVar 4))))
  (sAug fl_hits 5 (gOr aAdd aCatS) (mC (.int 1)))
  sNil)
def m_hits (K : PySem.W.Frag) (A : Ad) : MS := (sSeq (sSet fl_hits 4 (mCallB (f1 lenD) (mCons (mVar 0) mNil)))
  (sSeq (sSet fl_hits 5 (mC (.int 0)))
  (sSeq (sFor (mZip (mCons (mVar 2) (mCons (mVar 3) mNil))) (gTp 2 (gsCons (gTp 2 (gsCons (gNm fl_hits 7) (gsCons (gNm fl_hits 8) gsNil))) (gsCons (gNm fl_hits 6) gsNil))) (m_hits_b1 K A))
  (sRet (mVar 5)))))
def fn_hits (K : PySem.W.Frag) (A : Ad) : Fn := runF 9 fl_hits (m_hits K A)
abbrev fl_l_power : List Bool := [false, false]
def m_l_power_b1 (K : PySem.W.Frag) (A : Ad) : MS := (sSet fl_l_power 2 (mOp aMul (mVar 2) (mVar 0)))
def m_l_power (K : PySem.W.Frag) (A : Ad) : MS := (sSeq (sSet fl_l_power 2 (mC (.int 1)))
  (sSeq (sFor (mRange1 (mCons (mVar 1) mNil)) (gNm fl_l_power 3) (m_l_power_b1 K A))
  (sRet (mVar 2))))
def fn_l_power (K : PySem.W.Frag) (A : Ad) : Fn := runF 4 fl_l_power (m_l_power K A)
abbrev fl_l_counts_fit : List Bool := [true]
def m_l_counts_fit_b1 (K : PySem.W.Frag) (A : Ad) : MS := (sIf (mBl (mOp cGt (mCall fl_l_power (fn_l_power K A) (mCons (mOp aMul (mVar 2) (mVar 3)) (mCons (mVar 4) mNil))) (mC (.int 256))))
  (sSet fl_l_counts_fit 4 (mOp aSub (mVar 4) (mC (.int 1))))
  sNil)
def m_l_counts_fit_b2 (K : PySem.W.Frag) (A : Ad) : MS := (sSet fl_l_counts_fit 6 (mOp aAddU (mVar 6) (mOp (mkK ixW) (mVar 1) (mCall fl_l_draw (fn_l_draw K A) (mCons (mVar 0) (mCons (mVar 2) mNil))))))
def fo_l_counts_fit_3 (K : PySem.W.Frag) (A : Ad) : List Bool := [true, true, true, true, true, false, true, true, true, true, true, true, true, true, true]
def m_l_counts_fit_e4 (K : PySem.W.Frag) (A : Ad) : M R := (mC (.int 0))
def m_l_counts_fit_b5 (K : PySem.W.Frag) (A : Ad) : MS := (sSeq (sSet fl_l_counts_fit 11 (mCall fl_hits (fn_hits K A) (mCons (mVar 1) (mCons (mVar 3) (mCons (mVar 9) (mCons (mVar 6) mNil))))))
  (sSeq (sIf (mOr (mNot (mTru (mCall fl_l_is_whole (fn_l_is_whole K A) (mCons (mVar 11) mNil)))) (mNot (mBl (mChain cLe cLe (mC (.int 0)) (mVar 11) (mVar 4)))))
  (sRet (mC (.bl false)))
  sNil)
  (sSeq (sSetIx 7 (mVar 11) (mOp aAddU (mOp (mkK ixW) (mVar 7) (mVar 11)) (mC (.int 1))))
  (sSet fl_l_counts_fit 8 (mOp aAddU (mVar 8) (mC (.int 1)))))))
def m_l_counts_fit_b6 (K : PySem.W.Frag) (A : Ad) : MS := (sSeq (sSet fl_l_counts_fit 14 (mCallB (f1 sumD) (mCons (mSl (mVar 7) (pSome (mVar 10)) pNone) mNil)))
  (sIf (mOr (mBl (mOp cNeS (mOp aMul (mVar 14) (mVar 13)) (mOp aMul (mOp (mkK ixW) (mVar 12) (mVar 10)) (mVar 8)))) (mNot (mTru (mCall fl_l_is_share (fn_l_is_share K A) (mCons (mCall fl_hit_tail (fn_hit_tail K A) (mCons (mVar 2) (mCons (mVar 4) (mCons (mVar 10) mNil)))) (mCons (mVar 14) (mCons (mVar 8) mNil)))))))
  (sRet (mC (.bl false)))
  sNil))
def m_l_counts_fit (K : PySem.W.Frag) (A : Ad) : MS := (sSeq (sSet fl_l_counts_fit 1 (mCall fl_l_alphabet (fn_l_alphabet K A) (mCons (mVar 0) (mCons (mOp aAddU (mC (.int 1)) (mCall fl_l_draw (fn_l_draw K A) (mCons (mVar 0) (mCons (mC (.int 6)) mNil)))) mNil))))
  (sSeq (sSet fl_l_counts_fit 2 (mCallB (f1 lenD) (mCons (mVar 1) mNil)))
  (sSeq (sSet fl_l_counts_fit 3 (mOp aAddU (mC (.int 1)) (mCall fl_l_draw (fn_l_draw K A) (mCons (mVar 0) (mCons (mC (.int 12)) mNil)))))
  (sSeq (sSet fl_l_counts_fit 4 (mCall fl_l_draw (fn_l_draw K A) (mCons (mVar 0) (mCons (mC (.int 9)) mNil))))
  (sSeq (sFor (mRange1 (mCons (mC (.int 8)) mNil)) (gNm fl_l_counts_fit 5) (m_l_counts_fit_b1 K A))
  (sSeq (sSet fl_l_counts_fit 6 (mC (.str "")))
  (sSeq (sFor (mRange1 (mCons (mVar 4) mNil)) (gNm fl_l_counts_fit 5) (m_l_counts_fit_b2 K A))
  (sSeq (sSet fl_l_counts_fit 7 (mLc true (fo_l_counts_fit_3 K A) [5] (mRange1 (mCons (mOp aAddU (mVar 4) (mC (.int 2))) mNil)) (gNm (fo_l_counts_fit_3 K A) 5) mYes (m_l_counts_fit_e4 K A)))
  (sSeq (sSet fl_l_counts_fit 8 (mC (.int 0)))
  (sSeq (sFor (mIter (mCall fl_l_keys (fn_l_keys K A) (mCons (mVar 2) (mCons (mVar 3) (mCons (mVar 4) mNil))))) (gNm fl_l_counts_fit 9) (m_l_counts_fit_b5 K A))
  (sSeq (sAsg (gTp 2 (gsCons (gNm fl_l_counts_fit 12) (gsCons (gNm fl_l_counts_fit 13) gsNil))) (mCall fl_l_tails (fn_l_tails K A) (mCons (mVar 2) (mCons (mVar 4) mNil))))
  (sSeq (sFor (mRange1 (mCons (mOp aAddU (mVar 4) (mC (.int 2))) mNil)) (gNm fl_l_counts_fit 10) (m_l_counts_fit_b6 K A))
  (sRet (mC (.bl true)))))))))))))))
def fn_l_counts_fit (K : PySem.W.Frag) (A : Ad) : Fn := runF 15 fl_l_counts_fit (m_l_counts_fit K A)
abbrev fl_l_large : List Bool := [true, false]
def m_l_large_b1 (K : PySem.W.Frag) (A : Ad) : MS := (sSet fl_l_large 2 (mOp aAddU (mOp aMul (mVar 2) (mC (.int 1000000007))) (mCall fl_l_draw (fn_l_draw K A) (mCons (mVar 0) (mCons (mC (.int 1000000007)) mNil)))))
def m_l_large (K : PySem.W.Frag) (A : Ad) : MS := (sSeq (sSet fl_l_large 2 (mC (.int 0)))
  (sSeq (sFor (mRange1 (mCons (mC (.int 5)) mNil)) (gNm fl_l_large 3) (m_l_large_b1 K A))
  (sRet (mOp aMod (mCallB (f1 intD) (mCons (mVar 2) mNil)) (mVar 1)))))
def fn_l_large (K : PySem.W.Frag) (A : Ad) : Fn := runF 4 fl_l_large (m_l_large K A)
abbrev fl_l_level : List Bool := [true, false, false]
def m_l_level (K : PySem.W.Frag) (A : Ad) : MS := (sSeq (sSet fl_l_level 3 (mCall fl_l_draw (fn_l_draw K A) (mCons (mVar 0) (mCons (mC (.int 8)) mNil))))
  (sSeq (sSet fl_l_level 4 (mOp (mkK ixW) (mVar 1) (mCall fl_l_draw (fn_l_draw K A) (mCons (mVar 0) (mCons (mCallB (f1 lenD) (mCons (mVar 1) mNil)) mNil)))))
  (sSeq (sIf (mBl (mOp cLt (mVar 3) (mC (.int 3))))
  (sRet (mTup (mCons (mCallB (f2 maxD) (mCons (mC (.int 1)) (mCons (mOp aSub (mOp aAddU (mVar 4) (mVar 3)) (mC (.int 1))) mNil))) (mCons (mVar 2) mNil))))
  sNil)
  (sSeq (sIf (mBl (mOp cEqS (mVar 3) (mC (.int 3))))
  (sRet (mTup (mCons (mC (.int 1)) (mCons (mC (.int 1)) mNil))))
  sNil)
  (sSeq (sIf (mBl (mOp cEqS (mVar 3) (mC (.int 4))))
  (sRet (mTup (mCons (mOp aAddU (mC (.int 7)) (mCall fl_l_draw (fn_l_draw K A) (mCons (mVar 0) (mCons (mC (.int 5)) mNil)))) (mCons (mOp aAddU (mC (.int 1)) (mCall fl_l_draw (fn_l_draw K A) (mCons (mVar 0) (mCons (mC (.int 7)) mNil)))) mNil))))
  sNil)
  (sSeq (sIf (mBl (mOp cEqS (mVar 3) (mC (.int 5))))
  (sRet (mTup (mCons (mC (.int 1)) (mCons (mOp aSub (mOp aSub (mOp aPow (mC (.int 10)) (mC (.int 39))) (mC (.int 1))) (mCall fl_l_large (fn_l_large K A) (mCons (mVar 0) (mCons (mOp aPow (mC (.int 10)) (mC (.int 38))) mNil)))) mNil))))
  sNil)
  (sSeq (sIf (mBl (mOp cEqS (mVar 3) (mC (.int 6))))
  (sRet (mTup (mCons (mOp aAddU (mC (.int 1)) (mCall fl_l_large (fn_l_large K A) (mCons (mVar 0) (mCons (mOp aPow (mC (.int 10)) (mC (.int 39))) mNil)))) (mCons (mOp aAddU (mC (.int 1)) (mCall fl_l_large (fn_l_large K A) (mCons (mVar 0) (mCons (mOp aPow (mC (.int 10)) (mC (.int 39))) mNil)))) mNil))))
  sNil)
  (sRet (mTup (mCons (mOp aAddU (mC (.int 1)) (mCall fl_l_draw (fn_l_draw K A) (mCons (mVar 0) (mCons (mC (.int 12)) mNil)))) (mCons (mOp aAddU (mC (.int 1)) (mCall fl_l_draw (fn_l_draw K A) (mCons (mVar 0) (mCons (mC (.int 40)) mNil)))) mNil)))))))))))
def fn_l_level (K : PySem.W.Frag) (A : Ad) : Fn := runF 5 fl_l_level (m_l_level K A)
abbrev fl_l_levels_fit : List Bool := [true, false, false]
def m_l_levels_fit_b1 (K : PySem.W.Frag) (A : Ad) : MS := (sSeq (sSet fl_l_levels_fit 6 (mCall fl_l_level (fn_l_level K A) (mCons (mVar 0) (mCons (mVar 4) (mCons (mVar 5) mNil)))))
  (sSeq (sSet fl_l_levels_fit 7 (mCall fl_l_least (fn_l_least K A) (mCons (mVar 4) (mCons (mVar 5) (mCons (mVar 6) mNil)))))
  (sIf (mNot (mTru (mCall fl_l_least_fits (fn_l_least_fits K A) (mCons (mVar 1) (mCons (mVar 2) (mCons (mCall fl_hit_least (fn_hit_least K A) (mCons (mVar 1) (mCons (mVar 2) (mCons (mMake A.Share [false, false] (fn_Share_init K A) (mCons (mOp (mkK ixW) (mVar 6) (mC (.int 0))) (mCons (mOp (mkK ixW) (mVar 6) (mC (.int 1))) mNil))) mNil)))) (mCons (mVar 7) mNil)))))))
  (sRet (mC (.bl false)))
  sNil)))
def m_l_levels_fit (K : PySem.W.Frag) (A : Ad) : MS := (sSeq (sAsg (gTp 2 (gsCons (gNm fl_l_levels_fit 4) (gsCons (gNm fl_l_levels_fit 5) gsNil))) (mCall fl_l_tails (fn_l_tails K A) (mCons (mVar 1) (mCons (mVar 2) mNil))))
  (sSeq (sFor (mRange1 (mCons (mC (.int 4)) mNil)) (gNm fl_l_levels_fit 3) (m_l_levels_fit_b1 K A))
  (sRet (mC (.bl true)))))
def fn_l_levels_fit (K : PySem.W.Frag) (A : Ad) : Fn := runF 8 fl_l_levels_fit (m_l_levels_fit K A)
abbrev fl_l_whole : List Bool := [false]
def m_l_whole_b1 (K : PySem.W.Frag) (A : Ad) : MS := (sSeq (sSet fl_l_whole 3 (mCall fl_l_stream (fn_l_stream K A) (mCons (mVar 0) (mCons (mVar 2) mNil))))
  (sSeq (sSet fl_l_whole 4 (mOp aAddU (mC (.int 1)) (mCall fl_l_draw (fn_l_draw K A) (mCons (mVar 3) (mCons (mC (.int 6)) mNil)))))
  (sSeq (sSet fl_l_whole 5 (mOp (mkK ixW) (mLst (mCons (mCall fl_l_draw (fn_l_draw K A) (mCons (mVar 3) (mCons (mC (.int 11)) mNil))) (mCons (mC (.int 10)) (mCons (mC (.int 0)) mNil)))) (mOp aMul (mCall fl_l_draw (fn_l_draw K A) (mCons (mVar 3) (mCons (mC (.int 3)) mNil))) (mCall fl_l_draw (fn_l_draw K A) (mCons (mVar 3) (mCons (mC (.int 2)) mNil))))))
  (sSeq (sExp (mBM "list" gAppend (mVar 1) (mCons (mTup (mCons (mVar 4) (mCons (mVar 5) mNil))) mNil)))
  (sIf (mOr (mNot (mTru (mCall fl_l_tails_fit (fn_l_tails_fit K A) (mCons (mVar 4) (mCons (mVar 5) mNil))))) (mNot (mTru (mCall fl_l_levels_fit (fn_l_levels_fit K A) (mCons (mVar 3) (mCons (mVar 4) (mCons (mVar 5) mNil)))))))
  (sRet (mC (.bl false)))
  sNil)))))
def m_l_whole_b2 (K : PySem.W.Frag) (A : Ad) : MS := (sIf (mNot (mTru (mCall fl_l_levels_fit (fn_l_levels_fit K A) (mCons (mVar 3) (mCons (mVar 4) (mCons (mVar 5) mNil))))))
  (sRet (mC (.bl false)))
  sNil)
def m_l_whole (K : PySem.W.Frag) (A : Ad) : MS := (sSeq (sSet fl_l_whole 1 (mLst mNil))
  (sSeq (sFor (mRange1 (mCons (mC (.int 2)) mNil)) (gNm fl_l_whole 2) (m_l_whole_b1 K A))
  (sSeq (sIf (mNot (mTru (mCall fl_l_counts_fit (fn_l_counts_fit K A) (mCons (mCall fl_l_stream (fn_l_stream K A) (mCons (mVar 0) (mCons (mC (.int 2)) mNil))) mNil))))
  (sRet (mC (.bl false)))
  sNil)
  (sSeq (sSet fl_l_whole 3 (mCall fl_l_stream (fn_l_stream K A) (mCons (mVar 0) (mCons (mC (.int 3)) mNil))))
  (sSeq (sFor (mIter (mVar 1)) (gTp 2 (gsCons (gNm fl_l_whole 4) (gsCons (gNm fl_l_whole 5) gsNil))) (m_l_whole_b2 K A))
  (sRet (mCall fl_l_tails_fit (fn_l_tails_fit K A) (mCons (mOp (mkK ixW) (mOp (mkK ixW) (mVar 1) (mC (.int 0))) (mC (.int 0))) (mCons (mOp (mkK ixW) (mOp (mkK ixW) (mVar 1) (mC (.int 0))) (mC (.int 1))) mNil)))))))))
def fn_l_whole (K : PySem.W.Frag) (A : Ad) : Fn := runF 6 fl_l_whole (m_l_whole K A)
abbrev fl_law : List Bool := [false]
def m_law (K : PySem.W.Frag) (A : Ad) : MS := (noX (sRet (mCall fl_l_whole (fn_l_whole K A) (mCons (mVar 0) mNil))))
def fn_law (K : PySem.W.Frag) (A : Ad) : Fn := runF 1 fl_law (m_law K A)
end L

namespace L
open PySem PySem.Spec PyProof.Rows L2 BV
structure Txt (K : PySem.W.Frag) (mg : Str → Option Value) (A : Ad) : Prop where
  z_abs : mg "abs" = none
  z_bool : mg "bool" = none
  z_int : mg "int" = none
  z_isinstance : mg "isinstance" = none
  z_len : mg "len" = none
  z_max : mg "max" = none
  z_range : mg "range" = none
  z_sorted : mg "sorted" = none
  z_sum : mg "sum" = none
  z_zip : mg "zip" = none
  c_Share : mg "Share" = some (.ref A.Share)
  cls_Share : Cls K A.Share
  isc_Share : IsC K A.Share
  na_Share_over : NoAttr K A.Share "over"
  na_Share_under : NoAttr K A.Share "under"
  t_l_stream : DefAt K mg "_law_stream" "_law_stream" s_l_stream ["_law_script", "_law_at"]
  t_l_tails : DefAt K mg "_law_tails" "_law_tails" s_l_tails ["_law_kinds", "_law_length"]
  t_greatest_divisor : DefAt K mg "greatest_divisor" "greatest_divisor" s_greatest_divisor ["a", "b"]
  t_Share_init : MakeAt K A.Share "Share.__init__" s_Share_init ["self", "over", "under"]
  t_power : DefAt K mg "power" "power" s_power ["a", "n"]
  t_ways : DefAt K mg "ways" "ways" s_ways ["n", "k"]
  t_hit_tail : DefAt K mg "hit_tail" "hit_tail" s_hit_tail ["q", "length", "least"]
  t_l_lowest : DefAt K mg "_law_lowest" "_law_lowest" s_l_lowest ["_law_over", "_law_under"]
  t_l_is_whole : DefAt K mg "_law_is_whole" "_law_is_whole" s_l_is_whole ["_law_told"]
  t_l_is_share : DefAt K mg "_law_is_share" "_law_is_share" s_l_is_share ["_law_told", "_law_over", "_law_under"]
  t_l_least : DefAt K mg "_law_least" "_law_least" s_l_least ["_law_tails_here", "_law_full", "_law_level_here"]
  t_l_least_fits : DefAt K mg "_law_least_fits" "_law_least_fits" s_l_least_fits ["_law_kinds", "_law_length", "_law_told", "_law_due"]
  t_Share_is_below : MethAt K A.Share "is_below" "Share.is_below" s_Share_is_below ["self", "other"]
  t_hit_least : DefAt K mg "hit_least" "hit_least" s_hit_least ["q", "length", "level"]
  t_l_tails_fit : DefAt K mg "_law_tails_fit" "_law_tails_fit" s_l_tails_fit ["_law_kinds", "_law_length"]
  t_l_draw : DefAt K mg "_law_draw" "_law_draw" s_l_draw ["_law_stream_here", "_law_many"]
  t_l_alphabet : DefAt K mg "_law_alphabet" "_law_alphabet" s_l_alphabet ["_law_stream_here", "_law_many"]
  t_l_keys : DefAt K mg "_law_keys" "_law_keys" s_l_keys ["_law_kinds", "_law_unit", "_law_length"]
  t_hits : DefAt K mg "hits" "hits" s_hits ["alphabet", "unit", "key", "text"]
  t_l_power : DefAt K mg "_law_power" "_law_power" s_l_power ["_law_base", "_law_count"]
  t_l_counts_fit : DefAt K mg "_law_counts_fit" "_law_counts_fit" s_l_counts_fit ["_law_stream_here"]
  t_l_large : DefAt K mg "_law_large" "_law_large" s_l_large ["_law_stream_here", "_law_top"]
  t_l_level : DefAt K mg "_law_level" "_law_level" s_l_level ["_law_stream_here", "_law_tails_here", "_law_full"]
  t_l_levels_fit : DefAt K mg "_law_levels_fit" "_law_levels_fit" s_l_levels_fit ["_law_stream_here", "_law_kinds", "_law_length"]
  t_l_whole : DefAt K mg "_law_whole" "_law_whole" s_l_whole ["_law_script"]
  t_law : LawAt K mg "law" "law" s_law "_law_script"
section
variable {P : Program} {w : World} {K : PySem.W.Frag} {mg : Str → Option Value} {base : Heap} {A : Ad}
theorem sc_l_stream : FnScope ["_law_script", "_law_at", "_law_cell"] ["_law_script", "_law_at"] (defScope s_l_stream) := ⟨rfl, rfl, rfl, by decide +kernel, rfl, by decide +kernel, by decide +kernel⟩
theorem d_l_stream (T : Txt K mg A) : DefOk P w K mg base 1 "_law_stream" fl_l_stream (fn_l_stream K A) := T.t_l_stream.ok fun f fd F => fn_bv F sc_l_stream rfl fun cdv A0 outer s0 H0 E0 c =>
  (bss_cons (bs_set (i := 2) c.nd rfl (.inl rfl) (be_op op_addU ok_addU (be_op op_mulW ok_mul be_int (be_var 1)) be_int))
  (bss_cons (bs_if (bt_cmp op_gtU ok_gtU (be_callB call_len ok_len (by rfl) T.z_len PyProof.Rows.Boot.«len» (ba_cons (be_var 0) ba_nil)) be_int (by rfl))
  (bss_one (bs_set (i := 2) c.nd rfl (.inl rfl) (be_op op_addU ok_addU (be_callTy call_int1 ok_int (by rfl) T.z_int PyProof.Rows.Boot.«int» (ba_cons (be_ix (be_var 0) (be_op op_modN ok_mod (be_var 1) (be_callB call_len ok_len (by rfl) T.z_len PyProof.Rows.Boot.«len» (ba_cons (be_var 0) ba_nil))) (fun _ _ => rfl)) ba_nil)) (be_op op_mulW ok_mul (be_op op_fdivX ok_div (be_var 1) (be_callB call_len ok_len (by rfl) T.z_len PyProof.Rows.Boot.«len» (ba_cons (be_var 0) ba_nil))) be_int))))
  bss_nil)
  (bss_cons (bs_if (bt_cmp op_ltU ok_ltU (be_var 2) be_int (by rfl))
  (bss_one (bs_set (i := 2) c.nd rfl (.inl rfl) (be_op op_sub ok_sub be_int (be_var 2))))
  bss_nil)
  (bss_cons (bs_if (bt_cmp op_geU ok_geU (be_var 2) (be_op op_pow ok_pow be_int be_int) (by rfl))
  (bss_one (bs_ret (be_lst (ba_cons (be_var 2) (ba_cons (be_op op_modN ok_mod (be_callTy call_int1 ok_int (by rfl) T.z_int PyProof.Rows.Boot.«int» (ba_cons (be_var 2) ba_nil)) be_int) (ba_cons be_int ba_nil))))))
  bss_nil)
  (bss_one (bs_ret (be_lst (ba_cons be_int (ba_cons (be_op op_modN ok_mod (be_callTy call_int1 ok_int (by rfl) T.z_int PyProof.Rows.Boot.«int» (ba_cons (be_var 2) ba_nil)) be_int) (ba_cons be_int ba_nil))))))))))
theorem sc_l_tails : FnScope ["_law_kinds", "_law_length", "_law_misses", "_law_step", "_law_full", "_law_tails_here", "_law_ways", "_law_missed"] ["_law_kinds", "_law_length"] (defScope s_l_tails) := ⟨rfl, rfl, rfl, by decide +kernel, rfl, by decide +kernel, by decide +kernel⟩
theorem d_l_tails (T : Txt K mg A) : DefOk P w K mg base 1 "_law_tails" fl_l_tails (fn_l_tails K A) := T.t_l_tails.ok fun f fd F => fn_bv F sc_l_tails rfl fun cdv A0 outer s0 H0 E0 c =>
  (bss_cons (bs_set (i := 2) c.nd rfl (.inl rfl) (be_lst (ba_cons be_int ba_nil)))
  (bss_cons (bs_forr c (bi_range1 (by rfl) T.z_range (ba_cons (be_var 1) ba_nil)) (bg_name (i := 3) c.nd rfl (.inl rfl))
  (bss_one (bs_expr (be_bm (by decide) PySem.F.plainAttrs_list PySem.F.slot_list_append PySem.F.type_list_append mt_append ok_append (be_var 2) (ba_cons (be_op op_mulW ok_mul (be_ix (be_var 2) (be_neg be_int) (fun _ _ => rfl)) (be_op op_sub ok_sub (be_var 0) be_int)) ba_nil)))))
  (bss_cons (bs_set (i := 4) c.nd rfl (.inl rfl) be_int)
  (bss_cons (bs_forr c (bi_range1 (by rfl) T.z_range (ba_cons (be_var 1) ba_nil)) (bg_name (i := 3) c.nd rfl (.inl rfl))
  (bss_one (bs_set (i := 4) c.nd rfl (.inl rfl) (be_op op_mulW ok_mul (be_var 4) (be_var 0)))))
  (bss_cons (bs_set (i := 5) c.nd rfl (.inl rfl) (be_lst (ba_cons be_int ba_nil)))
  (bss_cons (bs_set (i := 6) c.nd rfl (.inl rfl) be_int)
  (bss_cons (bs_forr c (bi_range1 (by rfl) T.z_range (ba_cons (be_op op_addU ok_addU (be_var 1) be_int) ba_nil)) (bg_name (i := 7) c.nd rfl (.inl rfl))
  (bss_cons (bs_set (i := 5) c.nd rfl (.inl rfl) (be_op op_addU ok_addU (be_lst (ba_cons (be_op op_addU ok_addU (be_ix (be_var 5) be_int (fun _ _ => rfl)) (be_op op_mulW ok_mul (be_var 6) (be_ix (be_var 2) (be_var 7) (fun _ _ => rfl)))) ba_nil)) (be_var 5)))
  (bss_one (bs_set (i := 6) c.nd rfl (.inl rfl) (be_op op_fdivX ok_div (be_op op_mulW ok_mul (be_var 6) (be_op op_sub ok_sub (be_var 1) (be_var 7))) (be_op op_addU ok_addU (be_var 7) be_int))))))
  (bss_one (bs_ret (be_tup (ba_cons (be_var 5) (ba_cons (be_var 4) ba_nil))))))))))))
theorem sc_greatest_divisor : FnScope ["a", "b"] ["a", "b"] (defScope s_greatest_divisor) := ⟨rfl, rfl, rfl, by decide +kernel, rfl, by decide +kernel, by decide +kernel⟩
theorem d_greatest_divisor (T : Txt K mg A) : DefOk P w K mg base 1 "greatest_divisor" fl_greatest_divisor (fn_greatest_divisor K A) := T.t_greatest_divisor.ok fun f fd F => fn_bv F sc_greatest_divisor rfl fun cdv A0 outer s0 H0 E0 c =>
  (bss_cons (bs_while (fuelI 1) c (bt_cmp op_gtU ok_gtU (be_var 1) be_int (by rfl))
  (bss_one (bs_par (i := 0) (j := 1) c rfl rfl (by decide) rfl rfl (ba_cons (be_var 1) (ba_cons (be_op op_modN ok_mod (be_var 0) (be_var 1)) ba_nil)) (by rfl))))
  (bss_one (bs_ret (be_var 0))))
theorem sc_Share_init : FnScope ["self", "over", "under", "divisor"] ["self", "over", "under"] (defScope s_Share_init) := ⟨rfl, rfl, rfl, by decide +kernel, rfl, by decide +kernel, by decide +kernel⟩
theorem d_Share_init (T : Txt K mg A) : MakeOk P w K mg base 2 A.Share [false, false] (fn_Share_init K A) := T.t_Share_init.ok fun f fd F => fn_bv F sc_Share_init rfl fun cdv A0 outer s0 H0 E0 c =>
  (bss_cons (bs_if (bt_cmp op_eq ok_eqS (be_var 2) be_int (by rfl))
  (bss_one bs_bad)
  bss_nil)
  (bss_cons (bs_set (i := 3) c.nd rfl (.inl rfl) (be_callD c (d_greatest_divisor T) (ba_cons (be_callB call_abs ok_abs (by rfl) T.z_abs PyProof.Rows.Boot.«abs» (ba_cons (be_var 1) ba_nil)) (ba_cons (be_callB call_abs ok_abs (by rfl) T.z_abs PyProof.Rows.Boot.«abs» (ba_cons (be_var 2) ba_nil)) ba_nil))))
  (bss_cons (bs_if (bt_cmp op_ltU ok_ltU (be_var 2) be_int (by rfl))
  (bss_one (bs_set (i := 3) c.nd rfl (.inl rfl) (be_neg (be_var 3))))
  bss_nil)
  (bss_cons (bs_fld [A.Share] (one_cls ⟨T.cls_Share, T.na_Share_over⟩) (i := 0) rfl (Or.inl rfl) (by decide) (by decide) (be_op op_fdivX ok_div (be_var 1) (be_var 3)))
  (bss_one (bs_fld [A.Share] (one_cls ⟨T.cls_Share, T.na_Share_under⟩) (i := 0) rfl (Or.inl rfl) (by decide) (by decide) (be_op op_fdivX ok_div (be_var 2) (be_var 3))))))))
theorem sc_power : FnScope ["a", "n", "found", "_"] ["a", "n"] (defScope s_power) := ⟨rfl, rfl, rfl, by decide +kernel, rfl, by decide +kernel, by decide +kernel⟩
theorem d_power (T : Txt K mg A) : DefOk P w K mg base 1 "power" fl_power (fn_power K A) := T.t_power.ok fun f fd F => fn_bv F sc_power rfl fun cdv A0 outer s0 H0 E0 c =>
  (bss_cons (bs_set (i := 2) c.nd rfl (.inl rfl) be_int)
  (bss_cons (bs_forr c (bi_range1 (by rfl) T.z_range (ba_cons (be_var 1) ba_nil)) (bg_name (i := 3) c.nd rfl (.inl rfl))
  (bss_one (bs_set (i := 2) c.nd rfl (.inl rfl) (be_op op_mulW ok_mul (be_var 2) (be_var 0)))))
  (bss_one (bs_ret (be_var 2)))))
theorem sc_ways : FnScope ["n", "k", "found", "taken"] ["n", "k"] (defScope s_ways) := ⟨rfl, rfl, rfl, by decide +kernel, rfl, by decide +kernel, by decide +kernel⟩
theorem d_ways (T : Txt K mg A) : DefOk P w K mg base 1 "ways" fl_ways (fn_ways K A) := T.t_ways.ok fun f fd F => fn_bv F sc_ways rfl fun cdv A0 outer s0 H0 E0 c =>
  (bss_cons (bs_if (bw_or (bt_cmp op_ltU ok_ltU (be_var 1) be_int (by rfl)) (bw_or1 (bt_cmp op_gtU ok_gtU (be_var 1) (be_var 0) (by rfl)))).pt
  (bss_one (bs_ret be_int))
  bss_nil)
  (bss_cons (bs_set (i := 2) c.nd rfl (.inl rfl) be_int)
  (bss_cons (bs_forr c (bi_range2 (by rfl) T.z_range (ba_cons be_int (ba_cons (be_op op_addU ok_addU (be_var 1) be_int) ba_nil))) (bg_name (i := 3) c.nd rfl (.inl rfl))
  (bss_one (bs_set (i := 2) c.nd rfl (.inl rfl) (be_op op_fdivX ok_div (be_op op_mulW ok_mul (be_var 2) (be_op op_addU ok_addU (be_op op_sub ok_sub (be_var 0) (be_var 1)) (be_var 3))) (be_var 3)))))
  (bss_one (bs_ret (be_var 2))))))
theorem sc_hit_tail : FnScope ["q", "length", "least", "total", "k"] ["q", "length", "least"] (defScope s_hit_tail) := ⟨rfl, rfl, rfl, by decide +kernel, rfl, by decide +kernel, by decide +kernel⟩
theorem d_hit_tail (T : Txt K mg A) : DefOk P w K mg base 4 "hit_tail" fl_hit_tail (fn_hit_tail K A) := T.t_hit_tail.ok fun f fd F => fn_bv F sc_hit_tail rfl fun cdv A0 outer s0 H0 E0 c =>
  (bss_cons (bs_set (i := 3) c.nd rfl (.inl rfl) (be_callB (cr_sum c.calm) ok_sum (by rfl) T.z_sum PyProof.Rows.Boot.«sum» (ba_cons (be_lc c true (bi_range2 (by rfl) T.z_range (ba_cons (be_var 2) (ba_cons (be_op op_addU ok_addU (be_var 1) be_int) ba_nil))) (own := [("k", 4)]) (blkAt ["q", "length", "least", "total", "k"] (defScope s_hit_tail) ⟨rfl, by decide +kernel, by decide +kernel, by decide +kernel, by decide +kernel⟩) (fun s H C cl fp => (bg_name (i := 4) (c.blk _ _ _ _ _).nd rfl (.inl rfl))) (fun _ _ _ _ _ => bts_nil) (fun s H C cl fp => (be_op op_mulW ok_mul (be_callD (c.blk _ _ _ _ _) (d_ways T) (ba_cons (be_var 1) (ba_cons (be_var 4) ba_nil))) (be_callD (c.blk _ _ _ _ _) (d_power T) (ba_cons (be_op op_sub ok_sub (be_var 0) be_int) (ba_cons (be_op op_sub ok_sub (be_var 1) (be_var 4)) ba_nil)))))) ba_nil)))
  (bss_one (bs_ret (be_makeD c (d_Share_init T) T.c_Share (ba_cons (be_var 3) (ba_cons (be_callD c (d_power T) (ba_cons (be_var 0) (ba_cons (be_var 1) ba_nil))) ba_nil))))))
theorem sc_l_lowest : FnScope ["_law_over", "_law_under", "_law_left", "_law_right", "_law_step"] ["_law_over", "_law_under"] (defScope s_l_lowest) := ⟨rfl, rfl, rfl, by decide +kernel, rfl, by decide +kernel, by decide +kernel⟩
theorem d_l_lowest (T : Txt K mg A) : DefOk P w K mg base 1 "_law_lowest" fl_l_lowest (fn_l_lowest K A) := T.t_l_lowest.ok fun f fd F => fn_bv F sc_l_lowest rfl fun cdv A0 outer s0 H0 E0 c =>
  (bss_cons (bs_set (i := 2) c.nd rfl (.inl rfl) (be_callB call_abs ok_abs (by rfl) T.z_abs PyProof.Rows.Boot.«abs» (ba_cons (be_var 0) ba_nil)))
  (bss_cons (bs_set (i := 3) c.nd rfl (.inl rfl) (be_var 1))
  (bss_cons (bs_forr c (bi_range1 (by rfl) T.z_range (ba_cons (be_op op_addU ok_addU (be_op op_mulW ok_mul be_int (be_bitsD (be_var 1))) be_int) ba_nil)) (bg_name (i := 4) c.nd rfl (.inl rfl))
  (bss_cons (bs_if (bt_cmp op_eq ok_eqS (be_var 3) be_int (by rfl))
  (bss_one bs_break)
  bss_nil)
  (bss_one (bs_par (i := 2) (j := 3) c rfl rfl (by decide) rfl rfl (ba_cons (be_var 3) (ba_cons (be_op op_modN ok_mod (be_callTy call_int1 ok_int (by rfl) T.z_int PyProof.Rows.Boot.«int» (ba_cons (be_var 2) ba_nil)) (be_var 3)) ba_nil)) (by rfl)))))
  (bss_one (bs_ret (be_tup (ba_cons (be_op op_fdivX ok_div (be_var 0) (be_var 2)) (ba_cons (be_op op_fdivX ok_div (be_var 1) (be_var 2)) ba_nil))))))))
theorem sc_l_is_whole : FnScope ["_law_told"] ["_law_told"] (defScope s_l_is_whole) := ⟨rfl, rfl, rfl, by decide +kernel, rfl, by decide +kernel, by decide +kernel⟩
theorem d_l_is_whole (T : Txt K mg A) : DefOk P w K mg base 1 "_law_is_whole" fl_l_is_whole (fn_l_is_whole K A) := T.t_l_is_whole.ok fun f fd F => fn_bv F sc_l_is_whole rfl fun cdv A0 outer s0 H0 E0 c =>
  (bss_one (bs_ret (be_and (be_callB call_isi (ok_isi [A.Share] (one_cls T.isc_Share)) (by rfl) T.z_isinstance PyProof.Rows.Boot.«isinstance» (ba_cons (be_var 0) (ba_cons (be_ty (by rfl) T.z_int PyProof.Rows.Boot.«int») ba_nil))) (be_one (be_not (be_callB call_isi (ok_isi [A.Share] (one_cls T.isc_Share)) (by rfl) T.z_isinstance PyProof.Rows.Boot.«isinstance» (ba_cons (be_var 0) (ba_cons (be_ty (by rfl) T.z_bool PyProof.Rows.Boot.«bool») ba_nil))))))))
theorem sc_l_is_share : FnScope ["_law_told", "_law_over", "_law_under", "_law_due"] ["_law_told", "_law_over", "_law_under"] (defScope s_l_is_share) := ⟨rfl, rfl, rfl, by decide +kernel, rfl, by decide +kernel, by decide +kernel⟩
theorem d_l_is_share (T : Txt K mg A) : DefOk P w K mg base 2 "_law_is_share" fl_l_is_share (fn_l_is_share K A) := T.t_l_is_share.ok fun f fd F => fn_bv F sc_l_is_share rfl fun cdv A0 outer s0 H0 E0 c =>
  (bss_cons (bs_if (bw_or (bt_not (bt_tru (be_callB call_isi (ok_isi [A.Share] (one_cls T.isc_Share)) (by rfl) T.z_isinstance PyProof.Rows.Boot.«isinstance» (ba_cons (be_var 0) (ba_cons (be_cls (by rfl) T.c_Share) ba_nil))))) (bw_or (bt_not (bt_tru (be_callD c (d_l_is_whole T) (ba_cons (be_fld [A.Share] (one_cls ⟨T.cls_Share, T.na_Share_over⟩) (be_var 0) (by rfl)) ba_nil)))) (bw_or1 (bt_not (bt_tru (be_callD c (d_l_is_whole T) (ba_cons (be_fld [A.Share] (one_cls ⟨T.cls_Share, T.na_Share_under⟩) (be_var 0) (by rfl)) ba_nil))))))).pt
  (bss_one (bs_ret be_bl))
  bss_nil)
  (bss_cons (bs_set (i := 3) c.nd rfl (.inl rfl) (be_callD c (d_l_lowest T) (ba_cons (be_var 1) (ba_cons (be_var 2) ba_nil))))
  (bss_one (bs_ret (be_and (be_cmp op_eq ok_eqS (be_fld [A.Share] (one_cls ⟨T.cls_Share, T.na_Share_over⟩) (be_var 0) (by rfl)) (be_ix (be_var 3) be_int (fun _ _ => rfl)) (by rfl)) (be_one (be_cmp op_eq ok_eqS (be_fld [A.Share] (one_cls ⟨T.cls_Share, T.na_Share_under⟩) (be_var 0) (by rfl)) (be_ix (be_var 3) be_int (fun _ _ => rfl)) (by rfl))))))))
theorem sc_l_least : FnScope ["_law_tails_here", "_law_full", "_law_level_here", "_law_least_here"] ["_law_tails_here", "_law_full", "_law_level_here"] (defScope s_l_least) := ⟨rfl, rfl, rfl, by decide +kernel, rfl, by decide +kernel, by decide +kernel⟩
theorem d_l_least (T : Txt K mg A) : DefOk P w K mg base 1 "_law_least" fl_l_least (fn_l_least K A) := T.t_l_least.ok fun f fd F => fn_bv F sc_l_least rfl fun cdv A0 outer s0 H0 E0 c =>
  (bss_cons (bs_forr c (bi_range1 (by rfl) T.z_range (ba_cons (be_callB call_len ok_len (by rfl) T.z_len PyProof.Rows.Boot.«len» (ba_cons (be_var 0) ba_nil)) ba_nil)) (bg_name (i := 3) c.nd rfl (.inl rfl))
  (bss_one (bs_if (bt_cmp op_leU ok_leU (be_op op_mulW ok_mul (be_ix (be_var 0) (be_var 3) (fun _ _ => rfl)) (be_ix (be_var 2) be_int (fun _ _ => rfl))) (be_op op_mulW ok_mul (be_ix (be_var 2) be_int (fun _ _ => rfl)) (be_var 1)) (by rfl))
  (bss_one (bs_ret (be_var 3)))
  bss_nil)))
  (bss_one (bs_ret (be_op op_sub ok_sub (be_callB call_len ok_len (by rfl) T.z_len PyProof.Rows.Boot.«len» (ba_cons (be_var 0) ba_nil)) be_int))))
theorem sc_l_least_fits : FnScope ["_law_kinds", "_law_length", "_law_told", "_law_due"] ["_law_kinds", "_law_length", "_law_told", "_law_due"] (defScope s_l_least_fits) := ⟨rfl, rfl, rfl, by decide +kernel, rfl, by decide +kernel, by decide +kernel⟩
theorem d_l_least_fits (T : Txt K mg A) : DefOk P w K mg base 2 "_law_least_fits" fl_l_least_fits (fn_l_least_fits K A) := T.t_l_least_fits.ok fun f fd F => fn_bv F sc_l_least_fits rfl fun cdv A0 outer s0 H0 E0 c =>
  (bss_one (bs_ret (be_and (be_callD c (d_l_is_whole T) (ba_cons (be_var 2) ba_nil)) (be_and (be_cmp op_eq ok_eqS (be_var 2) (be_var 3) (by rfl)) (be_and (be_chainD op_leU ok_leU op_leU ok_leU be_int (be_var 2) (be_op op_addU ok_addU (be_var 1) be_int)) (be_one (be_cmp op_gtU ok_gtU (be_var 0) be_int (by rfl))))))))
theorem sc_Share_is_below : FnScope ["self", "other"] ["self", "other"] (defScope s_Share_is_below) := ⟨rfl, rfl, rfl, by decide +kernel, rfl, by decide +kernel, by decide +kernel⟩
theorem d_Share_is_below (T : Txt K mg A) : MetOk P w K mg base 1 A.Share "is_below" fl_Share_is_below (fn_Share_is_below K A) := T.t_Share_is_below.ok T.cls_Share fun f fd F => fn_bv F sc_Share_is_below rfl fun cdv A0 outer s0 H0 E0 c =>
  (bss_one (bs_ret (be_cmp op_ltU ok_ltU (be_op op_mulW ok_mul (be_fld [A.Share] (one_cls ⟨T.cls_Share, T.na_Share_over⟩) (be_var 0) (by rfl)) (be_fld [A.Share] (one_cls ⟨T.cls_Share, T.na_Share_under⟩) (be_var 1) (by rfl))) (be_op op_mulW ok_mul (be_fld [A.Share] (one_cls ⟨T.cls_Share, T.na_Share_over⟩) (be_var 1) (by rfl)) (be_fld [A.Share] (one_cls ⟨T.cls_Share, T.na_Share_under⟩) (be_var 0) (by rfl))) (by rfl))))
theorem sc_hit_least : FnScope ["q", "length", "level", "least"] ["q", "length", "level"] (defScope s_hit_least) := ⟨rfl, rfl, rfl, by decide +kernel, rfl, by decide +kernel, by decide +kernel⟩
theorem d_hit_least (T : Txt K mg A) : DefOk P w K mg base 5 "hit_least" fl_hit_least (fn_hit_least K A) := T.t_hit_least.ok fun f fd F => fn_bv F sc_hit_least rfl fun cdv A0 outer s0 H0 E0 c =>
  (bss_cons (bs_forr c (bi_range1 (by rfl) T.z_range (ba_cons (be_op op_addU ok_addU (be_var 1) be_int) ba_nil)) (bg_name (i := 3) c.nd rfl (.inl rfl))
  (bss_one (bs_if (bt_not (bt_tru (be_methD c (d_Share_is_below T) (be_var 2) (ba_cons (be_callD c (d_hit_tail T) (ba_cons (be_var 0) (ba_cons (be_var 1) (ba_cons (be_var 3) ba_nil)))) ba_nil))))
  (bss_one (bs_ret (be_var 3)))
  bss_nil)))
  (bss_one (bs_ret (be_op op_addU ok_addU (be_var 1) be_int))))
theorem sc_l_tails_fit : FnScope ["_law_kinds", "_law_length", "_law_least_here", "_law_tails_here", "_law_full", "_law_told", "_law_due"] ["_law_kinds", "_law_length"] (defScope s_l_tails_fit) := ⟨rfl, rfl, rfl, by decide +kernel, rfl, by decide +kernel, by decide +kernel⟩
theorem d_l_tails_fit (T : Txt K mg A) : DefOk P w K mg base 6 "_law_tails_fit" fl_l_tails_fit (fn_l_tails_fit K A) := T.t_l_tails_fit.ok fun f fd F => fn_bv F sc_l_tails_fit rfl fun cdv A0 outer s0 H0 E0 c =>
  (bss_cons (bs_asg (be_callD c (d_l_tails T) (ba_cons (be_var 0) (ba_cons (be_var 1) ba_nil))) (bg_tup c.calm (bgs_cons (bg_name (i := 3) c.nd rfl (.inl rfl)) (bgs_cons (bg_name (i := 4) c.nd rfl (.inl rfl)) bgs_nil))) (calm_tp (calms_cons calm_nm (calms_cons calm_nm calms_nil))))
  (bss_cons (bs_forr c (bi_range1 (by rfl) T.z_range (ba_cons (be_op op_addU ok_addU (be_var 1) be_int) ba_nil)) (bg_name (i := 2) c.nd rfl (.inl rfl))
  (bss_cons (bs_set (i := 5) c.nd rfl (.inl rfl) (be_callD c (d_hit_tail T) (ba_cons (be_var 0) (ba_cons (be_var 1) (ba_cons (be_var 2) ba_nil)))))
  (bss_cons (bs_if (bt_not (bt_tru (be_callD c (d_l_is_share T) (ba_cons (be_var 5) (ba_cons (be_ix (be_var 3) (be_var 2) (fun _ _ => rfl)) (ba_cons (be_var 4) ba_nil))))))
  (bss_one (bs_ret be_bl))
  bss_nil)
  (bss_one (bs_if (bt_cmp op_gtU ok_gtU (be_fld [A.Share] (one_cls ⟨T.cls_Share, T.na_Share_over⟩) (be_var 5) (by rfl)) be_int (by rfl))
  (bss_cons (bs_set (i := 6) c.nd rfl (.inl rfl) (be_callD c (d_l_least T) (ba_cons (be_var 3) (ba_cons (be_var 4) (ba_cons (be_tup (ba_cons (be_ix (be_var 3) (be_var 2) (fun _ _ => rfl)) (ba_cons (be_var 4) ba_nil))) ba_nil)))))
  (bss_one (bs_if (bt_not (bt_tru (be_callD c (d_l_least_fits T) (ba_cons (be_var 0) (ba_cons (be_var 1) (ba_cons (be_callD c (d_hit_least T) (ba_cons (be_var 0) (ba_cons (be_var 1) (ba_cons (be_var 5) ba_nil)))) (ba_cons (be_var 6) ba_nil)))))))
  (bss_one (bs_ret be_bl))
  bss_nil)))
  bss_nil)))))
  (bss_one (bs_ret be_bl))))
theorem sc_l_draw : FnScope ["_law_stream_here", "_law_many", "_law_second", "_law_digit"] ["_law_stream_here", "_law_many"] (defScope s_l_draw) := ⟨rfl, rfl, rfl, by decide +kernel, rfl, by decide +kernel, by decide +kernel⟩
theorem d_l_draw (T : Txt K mg A) : DefOk P w K mg base 1 "_law_draw" fl_l_draw (fn_l_draw K A) := T.t_l_draw.ok fun f fd F => fn_bv F sc_l_draw rfl fun cdv A0 outer s0 H0 E0 c =>
  (bss_cons (bs_if (bt_cmp op_gtU ok_gtU (be_ix (be_var 0) be_int (fun _ _ => rfl)) be_int (by rfl))
  (bss_cons (bs_set (i := 3) c.nd rfl (.inl rfl) (be_op op_modN ok_mod (be_callTy call_int1 ok_int (by rfl) T.z_int PyProof.Rows.Boot.«int» (ba_cons (be_ix (be_var 0) be_int (fun _ _ => rfl)) ba_nil)) (be_var 1)))
  (bss_cons (bs_setIx (i := 0) rfl (Or.inl rfl) (by decide) (by decide) be_int (be_op op_fdivX ok_div (be_ix (be_var 0) be_int (fun _ _ => rfl)) (be_var 1)))
  (bss_one (bs_ret (be_var 3)))))
  bss_nil)
  (bss_cons (bs_setIx (i := 0) rfl (Or.inl rfl) (by decide) (by decide) be_int (be_op op_addU ok_addU (be_ix (be_var 0) be_int (fun _ _ => rfl)) be_int))
  (bss_cons (bs_setIx (i := 0) rfl (Or.inl rfl) (by decide) (by decide) be_int (be_op op_modN ok_mod (be_callTy call_int1 ok_int (by rfl) T.z_int PyProof.Rows.Boot.«int» (ba_cons (be_op op_addU ok_addU (be_op op_addU ok_addU (be_op op_mulW ok_mul (be_ix (be_var 0) be_int (fun _ _ => rfl)) be_int) (be_op op_mulW ok_mul (be_ix (be_var 0) be_int (fun _ _ => rfl)) be_int)) be_int) ba_nil)) be_int))
  (bss_cons (bs_set (i := 2) c.nd rfl (.inl rfl) (be_op op_modN ok_mod (be_callTy call_int1 ok_int (by rfl) T.z_int PyProof.Rows.Boot.«int» (ba_cons (be_op op_addU ok_addU (be_op op_mulW ok_mul (be_ix (be_var 0) be_int (fun _ _ => rfl)) be_int) (be_ix (be_var 0) be_int (fun _ _ => rfl))) ba_nil)) be_int))
  (bss_one (bs_ret (be_op op_modN ok_mod (be_callTy call_int1 ok_int (by rfl) T.z_int PyProof.Rows.Boot.«int» (ba_cons (be_var 2) ba_nil)) (be_var 1))))))))
theorem sc_l_alphabet : FnScope ["_law_stream_here", "_law_many", "_law_signs", "_law_letters", "_law_step", "_law_sign"] ["_law_stream_here", "_law_many"] (defScope s_l_alphabet) := ⟨rfl, rfl, rfl, by decide +kernel, rfl, by decide +kernel, by decide +kernel⟩
theorem d_l_alphabet (T : Txt K mg A) : DefOk P w K mg base 2 "_law_alphabet" fl_l_alphabet (fn_l_alphabet K A) := T.t_l_alphabet.ok fun f fd F => fn_bv F sc_l_alphabet rfl fun cdv A0 outer s0 H0 E0 c =>
  (bss_cons (bs_set (i := 2) c.nd rfl (.inl rfl) be_str)
  (bss_cons (bs_set (i := 3) c.nd rfl (.inl rfl) (be_lst (ba_cons (be_ix (be_var 2) (be_callD c (d_l_draw T) (ba_cons (be_var 0) (ba_cons be_int ba_nil))) (fun _ _ => rfl)) ba_nil)))
  (bss_cons (bs_forr c (bi_range2 (by rfl) T.z_range (ba_cons be_int (ba_cons (be_var 1) ba_nil))) (bg_name (i := 4) c.nd rfl (.inl rfl))
  (bss_cons (bs_set (i := 5) c.nd rfl (.inl rfl) (be_ix (be_var 2) (be_callD c (d_l_draw T) (ba_cons (be_var 0) (ba_cons be_int ba_nil))) (fun _ _ => rfl)))
  (bss_one (bs_if (bt_cmp op_ninU ok_ninU (be_var 5) (be_var 3) (by rfl))
  (bss_one (bs_expr (be_bm (by decide) PySem.F.plainAttrs_list PySem.F.slot_list_append PySem.F.type_list_append mt_append ok_append (be_var 3) (ba_cons (be_var 5) ba_nil))))
  bss_nil))))
  (bss_one (bs_ret (be_bm (by decide) PySem.F.plainAttrs_str PySem.F.slot_str_join PySem.F.type_str_join mt_join ok_join be_str (ba_cons (be_callB cr_sortedS ok_sorted (by rfl) T.z_sorted PyProof.Rows.Boot.«sorted» (ba_cons (be_var 3) ba_nil)) ba_nil)))))))
theorem sc_l_keys : FnScope ["_law_kinds", "_law_unit", "_law_length", "_law_keys_here", "_law_step", "_law_longer", "_law_key", "_law_number"] ["_law_kinds", "_law_unit", "_law_length"] (defScope s_l_keys) := ⟨rfl, rfl, rfl, by decide +kernel, rfl, by decide +kernel, by decide +kernel⟩
theorem d_l_keys (T : Txt K mg A) : DefOk P w K mg base 1 "_law_keys" fl_l_keys (fn_l_keys K A) := T.t_l_keys.ok fun f fd F => fn_bv F sc_l_keys rfl fun cdv A0 outer s0 H0 E0 c =>
  (bss_cons (bs_set (i := 3) c.nd rfl (.inl rfl) (be_lst (ba_cons (be_lst ba_nil) ba_nil)))
  (bss_cons (bs_forr c (bi_range1 (by rfl) T.z_range (ba_cons (be_var 2) ba_nil)) (bg_name (i := 4) c.nd rfl (.inl rfl))
  (bss_cons (bs_set (i := 5) c.nd rfl (.inl rfl) (be_lst ba_nil))
  (bss_cons (bs_forr c (bi_seq (be_var 3)) (bg_name (i := 6) c.nd rfl (.inl rfl))
  (bss_one (bs_forr c (bi_range1 (by rfl) T.z_range (ba_cons (be_op op_mulW ok_mul (be_var 0) (be_var 1)) ba_nil)) (bg_name (i := 7) c.nd rfl (.inl rfl))
  (bss_one (bs_expr (be_bm (by decide) PySem.F.plainAttrs_list PySem.F.slot_list_append PySem.F.type_list_append mt_append ok_append (be_var 5) (ba_cons (be_op op_addU ok_addU (be_var 6) (be_lst (ba_cons (be_tup (ba_cons (be_op op_fdivX ok_div (be_var 7) (be_var 1)) (ba_cons (be_op op_modN ok_mod (be_callTy call_int1 ok_int (by rfl) T.z_int PyProof.Rows.Boot.«int» (ba_cons (be_var 7) ba_nil)) (be_var 1)) ba_nil))) ba_nil))) ba_nil)))))))
  (bss_one (bs_set (i := 3) c.nd rfl (.inl rfl) (be_var 5))))))
  (bss_one (bs_ret (be_var 3)))))
theorem sc_hits : FnScope ["alphabet", "unit", "key", "text", "q", "total", "sign", "turn", "number"] ["alphabet", "unit", "key", "text"] (defScope s_hits) := ⟨rfl, rfl, rfl, by decide +kernel, rfl, by decide +kernel, by decide +kernel⟩
theorem d_hits (T : Txt K mg A) : DefOk P w K mg base 1 "hits" fl_hits (fn_hits K A) := T.t_hits.ok fun f fd F => fn_bv F sc_hits rfl fun cdv A0 outer s0 H0 E0 c =>
  (bss_cons (bs_set (i := 4) c.nd rfl (.inl rfl) (be_callB call_len ok_len (by rfl) T.z_len PyProof.Rows.Boot.«len» (ba_cons (be_var 0) ba_nil)))
  (bss_cons (bs_set (i := 5) c.nd rfl (.inl rfl) be_int)
  (bss_cons (bs_forr c (bi_zip (by rfl) T.z_zip (ba_cons (be_var 2) (ba_cons (be_var 3) ba_nil))) (bg_tup c.calm (bgs_cons (bg_tup c.calm (bgs_cons (bg_name (i := 7) c.nd rfl (.inl rfl)) (bgs_cons (bg_name (i := 8) c.nd rfl (.inl rfl)) bgs_nil))) (bgs_cons (bg_name (i := 6) c.nd rfl (.inl rfl)) bgs_nil)))
  (bss_one (bs_if (bt_cmp op_eq ok_eqS (be_op op_fdivX ok_div (be_op op_mulW ok_mul (be_var 8) (be_var 4)) (be_var 1)) (be_op op_modN ok_mod (be_op op_sub ok_sub (be_bm (by decide) PySem.F.plainAttrs_str PySem.F.slot_str_index PySem.F.type_str_index mt_sindex ok_sindex (be_var 0) (ba_cons (be_var 6) ba_nil)) (be_var 7)) (be_var 4)) (by rfl))
  (bss_one (bs_aug (i := 5) c.nd rfl (.inl rfl) iop_addU ok_iaddU be_int))
  bss_nil)))
  (bss_one (bs_ret (be_var 5))))))
theorem sc_l_power : FnScope ["_law_base", "_law_count", "_law_power_here", "_law_step"] ["_law_base", "_law_count"] (defScope s_l_power) := ⟨rfl, rfl, rfl, by decide +kernel, rfl, by decide +kernel, by decide +kernel⟩
theorem d_l_power (T : Txt K mg A) : DefOk P w K mg base 1 "_law_power" fl_l_power (fn_l_power K A) := T.t_l_power.ok fun f fd F => fn_bv F sc_l_power rfl fun cdv A0 outer s0 H0 E0 c =>
  (bss_cons (bs_set (i := 2) c.nd rfl (.inl rfl) be_int)
  (bss_cons (bs_forr c (bi_range1 (by rfl) T.z_range (ba_cons (be_var 1) ba_nil)) (bg_name (i := 3) c.nd rfl (.inl rfl))
  (bss_one (bs_set (i := 2) c.nd rfl (.inl rfl) (be_op op_mulW ok_mul (be_var 2) (be_var 0)))))
  (bss_one (bs_ret (be_var 2)))))
theorem sc_l_counts_fit : FnScope ["_law_stream_here", "_law_letters", "_law_kinds", "_law_unit", "_law_length", "_law_step", "_law_text", "_law_counts", "_law_total", "_law_key", "_law_least_here", "_law_told", "_law_tails_here", "_law_full", "_law_met"] ["_law_stream_here"] (defScope s_l_counts_fit) := ⟨rfl, rfl, rfl, by decide +kernel, rfl, by decide +kernel, by decide +kernel⟩
theorem d_l_counts_fit (T : Txt K mg A) : DefOk P w K mg base 5 "_law_counts_fit" fl_l_counts_fit (fn_l_counts_fit K A) := T.t_l_counts_fit.ok fun f fd F => fn_bv F sc_l_counts_fit rfl fun cdv A0 outer s0 H0 E0 c =>
  (bss_cons (bs_set (i := 1) c.nd rfl (.inl rfl) (be_callD c (d_l_alphabet T) (ba_cons (be_var 0) (ba_cons (be_op op_addU ok_addU be_int (be_callD c (d_l_draw T) (ba_cons (be_var 0) (ba_cons be_int ba_nil)))) ba_nil))))
  (bss_cons (bs_set (i := 2) c.nd rfl (.inl rfl) (be_callB call_len ok_len (by rfl) T.z_len PyProof.Rows.Boot.«len» (ba_cons (be_var 1) ba_nil)))
  (bss_cons (bs_set (i := 3) c.nd rfl (.inl rfl) (be_op op_addU ok_addU be_int (be_callD c (d_l_draw T) (ba_cons (be_var 0) (ba_cons be_int ba_nil)))))
  (bss_cons (bs_set (i := 4) c.nd rfl (.inl rfl) (be_callD c (d_l_draw T) (ba_cons (be_var 0) (ba_cons be_int ba_nil))))
  (bss_cons (bs_forr c (bi_range1 (by rfl) T.z_range (ba_cons be_int ba_nil)) (bg_name (i := 5) c.nd rfl (.inl rfl))
  (bss_one (bs_if (bt_cmp op_gtU ok_gtU (be_callD c (d_l_power T) (ba_cons (be_op op_mulW ok_mul (be_var 2) (be_var 3)) (ba_cons (be_var 4) ba_nil))) be_int (by rfl))
  (bss_one (bs_set (i := 4) c.nd rfl (.inl rfl) (be_op op_sub ok_sub (be_var 4) be_int)))
  bss_nil)))
  (bss_cons (bs_set (i := 6) c.nd rfl (.inl rfl) be_str)
  (bss_cons (bs_forr c (bi_range1 (by rfl) T.z_range (ba_cons (be_var 4) ba_nil)) (bg_name (i := 5) c.nd rfl (.inl rfl))
  (bss_one (bs_set (i := 6) c.nd rfl (.inl rfl) (be_op op_addU ok_addU (be_var 6) (be_ix (be_var 1) (be_callD c (d_l_draw T) (ba_cons (be_var 0) (ba_cons (be_var 2) ba_nil))) (fun _ _ => rfl))))))
  (bss_cons (bs_setLc (i := 7) c true rfl rfl (by rfl) (bi_range1 (by rfl) T.z_range (ba_cons (be_op op_addU ok_addU (be_var 4) be_int) ba_nil)) (own := [("_law_step", 5)]) (blkAt ["_law_stream_here", "_law_letters", "_law_kinds", "_law_unit", "_law_length", "_law_step", "_law_text", "_law_counts", "_law_total", "_law_key", "_law_least_here", "_law_told", "_law_tails_here", "_law_full", "_law_met"] (defScope s_l_counts_fit) ⟨rfl, by decide +kernel, by decide +kernel, by decide +kernel, by decide +kernel⟩) (fun s H C cl fp => (bg_name (i := 5) (c.blk _ _ _ _ _).nd rfl (.inl rfl))) (fun _ _ _ _ _ => bts_nil) (fun s H C cl fp => be_int))
  (bss_cons (bs_set (i := 8) c.nd rfl (.inl rfl) be_int)
  (bss_cons (bs_forr c (bi_seq (be_callD c (d_l_keys T) (ba_cons (be_var 2) (ba_cons (be_var 3) (ba_cons (be_var 4) ba_nil))))) (bg_name (i := 9) c.nd rfl (.inl rfl))
  (bss_cons (bs_set (i := 11) c.nd rfl (.inl rfl) (be_callD c (d_hits T) (ba_cons (be_var 1) (ba_cons (be_var 3) (ba_cons (be_var 9) (ba_cons (be_var 6) ba_nil))))))
  (bss_cons (bs_if (bw_or (bt_not (bt_tru (be_callD c (d_l_is_whole T) (ba_cons (be_var 11) ba_nil)))) (bw_or1 (bt_not (bt_chainD op_leU ok_leU op_leU ok_leU be_int (be_var 11) (be_var 4))))).pt
  (bss_one (bs_ret be_bl))
  bss_nil)
  (bss_cons (bs_setIx (i := 7) rfl (Or.inl rfl) (by decide) (by decide) (be_var 11) (be_op op_addU ok_addU (be_ix (be_var 7) (be_var 11) (fun _ _ => rfl)) be_int))
  (bss_one (bs_set (i := 8) c.nd rfl (.inl rfl) (be_op op_addU ok_addU (be_var 8) be_int)))))))
  (bss_cons (bs_asg (be_callD c (d_l_tails T) (ba_cons (be_var 2) (ba_cons (be_var 4) ba_nil))) (bg_tup c.calm (bgs_cons (bg_name (i := 12) c.nd rfl (.inl rfl)) (bgs_cons (bg_name (i := 13) c.nd rfl (.inl rfl)) bgs_nil))) (calm_tp (calms_cons calm_nm (calms_cons calm_nm calms_nil))))
  (bss_cons (bs_forr c (bi_range1 (by rfl) T.z_range (ba_cons (be_op op_addU ok_addU (be_var 4) be_int) ba_nil)) (bg_name (i := 10) c.nd rfl (.inl rfl))
  (bss_cons (bs_set (i := 14) c.nd rfl (.inl rfl) (be_callB (cr_sum c.calm) ok_sum (by rfl) T.z_sum PyProof.Rows.Boot.«sum» (ba_cons (be_slice (be_var 7) (bo_some (be_var 10)) bo_none) ba_nil)))
  (bss_one (bs_if (bw_or (bt_cmp op_ne ok_neS (be_op op_mulW ok_mul (be_var 14) (be_var 13)) (be_op op_mulW ok_mul (be_ix (be_var 12) (be_var 10) (fun _ _ => rfl)) (be_var 8)) (by rfl)) (bw_or1 (bt_not (bt_tru (be_callD c (d_l_is_share T) (ba_cons (be_callD c (d_hit_tail T) (ba_cons (be_var 2) (ba_cons (be_var 4) (ba_cons (be_var 10) ba_nil)))) (ba_cons (be_var 14) (ba_cons (be_var 8) ba_nil)))))))).pt
  (bss_one (bs_ret be_bl))
  bss_nil))))
  (bss_one (bs_ret be_bl))))))))))))))
theorem sc_l_large : FnScope ["_law_stream_here", "_law_top", "_law_number", "_law_step"] ["_law_stream_here", "_law_top"] (defScope s_l_large) := ⟨rfl, rfl, rfl, by decide +kernel, rfl, by decide +kernel, by decide +kernel⟩
theorem d_l_large (T : Txt K mg A) : DefOk P w K mg base 2 "_law_large" fl_l_large (fn_l_large K A) := T.t_l_large.ok fun f fd F => fn_bv F sc_l_large rfl fun cdv A0 outer s0 H0 E0 c =>
  (bss_cons (bs_set (i := 2) c.nd rfl (.inl rfl) be_int)
  (bss_cons (bs_forr c (bi_range1 (by rfl) T.z_range (ba_cons be_int ba_nil)) (bg_name (i := 3) c.nd rfl (.inl rfl))
  (bss_one (bs_set (i := 2) c.nd rfl (.inl rfl) (be_op op_addU ok_addU (be_op op_mulW ok_mul (be_var 2) be_int) (be_callD c (d_l_draw T) (ba_cons (be_var 0) (ba_cons be_int ba_nil)))))))
  (bss_one (bs_ret (be_op op_modN ok_mod (be_callTy call_int1 ok_int (by rfl) T.z_int PyProof.Rows.Boot.«int» (ba_cons (be_var 2) ba_nil)) (be_var 1))))))
theorem sc_l_level : FnScope ["_law_stream_here", "_law_tails_here", "_law_full", "_law_shape", "_law_over"] ["_law_stream_here", "_law_tails_here", "_law_full"] (defScope s_l_level) := ⟨rfl, rfl, rfl, by decide +kernel, rfl, by decide +kernel, by decide +kernel⟩
theorem d_l_level (T : Txt K mg A) : DefOk P w K mg base 3 "_law_level" fl_l_level (fn_l_level K A) := T.t_l_level.ok fun f fd F => fn_bv F sc_l_level rfl fun cdv A0 outer s0 H0 E0 c =>
  (bss_cons (bs_set (i := 3) c.nd rfl (.inl rfl) (be_callD c (d_l_draw T) (ba_cons (be_var 0) (ba_cons be_int ba_nil))))
  (bss_cons (bs_set (i := 4) c.nd rfl (.inl rfl) (be_ix (be_var 1) (be_callD c (d_l_draw T) (ba_cons (be_var 0) (ba_cons (be_callB call_len ok_len (by rfl) T.z_len PyProof.Rows.Boot.«len» (ba_cons (be_var 1) ba_nil)) ba_nil))) (fun _ _ => rfl)))
  (bss_cons (bs_if (bt_cmp op_ltU ok_ltU (be_var 3) be_int (by rfl))
  (bss_one (bs_ret (be_tup (ba_cons (be_callB (call_max2 c.calm) ok_max2 (by rfl) T.z_max PyProof.Rows.Boot.«max» (ba_cons be_int (ba_cons (be_op op_sub ok_sub (be_op op_addU ok_addU (be_var 4) (be_var 3)) be_int) ba_nil))) (ba_cons (be_var 2) ba_nil)))))
  bss_nil)
  (bss_cons (bs_if (bt_cmp op_eq ok_eqS (be_var 3) be_int (by rfl))
  (bss_one (bs_ret (be_tup (ba_cons be_int (ba_cons be_int ba_nil)))))
  bss_nil)
  (bss_cons (bs_if (bt_cmp op_eq ok_eqS (be_var 3) be_int (by rfl))
  (bss_one (bs_ret (be_tup (ba_cons (be_op op_addU ok_addU be_int (be_callD c (d_l_draw T) (ba_cons (be_var 0) (ba_cons be_int ba_nil)))) (ba_cons (be_op op_addU ok_addU be_int (be_callD c (d_l_draw T) (ba_cons (be_var 0) (ba_cons be_int ba_nil)))) ba_nil)))))
  bss_nil)
  (bss_cons (bs_if (bt_cmp op_eq ok_eqS (be_var 3) be_int (by rfl))
  (bss_one (bs_ret (be_tup (ba_cons be_int (ba_cons (be_op op_sub ok_sub (be_op op_sub ok_sub (be_op op_pow ok_pow be_int be_int) be_int) (be_callD c (d_l_large T) (ba_cons (be_var 0) (ba_cons (be_op op_pow ok_pow be_int be_int) ba_nil)))) ba_nil)))))
  bss_nil)
  (bss_cons (bs_if (bt_cmp op_eq ok_eqS (be_var 3) be_int (by rfl))
  (bss_one (bs_ret (be_tup (ba_cons (be_op op_addU ok_addU be_int (be_callD c (d_l_large T) (ba_cons (be_var 0) (ba_cons (be_op op_pow ok_pow be_int be_int) ba_nil)))) (ba_cons (be_op op_addU ok_addU be_int (be_callD c (d_l_large T) (ba_cons (be_var 0) (ba_cons (be_op op_pow ok_pow be_int be_int) ba_nil)))) ba_nil)))))
  bss_nil)
  (bss_one (bs_ret (be_tup (ba_cons (be_op op_addU ok_addU be_int (be_callD c (d_l_draw T) (ba_cons (be_var 0) (ba_cons be_int ba_nil)))) (ba_cons (be_op op_addU ok_addU be_int (be_callD c (d_l_draw T) (ba_cons (be_var 0) (ba_cons be_int ba_nil)))) ba_nil))))))))))))
theorem sc_l_levels_fit : FnScope ["_law_stream_here", "_law_kinds", "_law_length", "_law_step", "_law_tails_here", "_law_full", "_law_level_here", "_law_due"] ["_law_stream_here", "_law_kinds", "_law_length"] (defScope s_l_levels_fit) := ⟨rfl, rfl, rfl, by decide +kernel, rfl, by decide +kernel, by decide +kernel⟩
theorem d_l_levels_fit (T : Txt K mg A) : DefOk P w K mg base 6 "_law_levels_fit" fl_l_levels_fit (fn_l_levels_fit K A) := T.t_l_levels_fit.ok fun f fd F => fn_bv F sc_l_levels_fit rfl fun cdv A0 outer s0 H0 E0 c =>
  (bss_cons (bs_asg (be_callD c (d_l_tails T) (ba_cons (be_var 1) (ba_cons (be_var 2) ba_nil))) (bg_tup c.calm (bgs_cons (bg_name (i := 4) c.nd rfl (.inl rfl)) (bgs_cons (bg_name (i := 5) c.nd rfl (.inl rfl)) bgs_nil))) (calm_tp (calms_cons calm_nm (calms_cons calm_nm calms_nil))))
  (bss_cons (bs_forr c (bi_range1 (by rfl) T.z_range (ba_cons be_int ba_nil)) (bg_name (i := 3) c.nd rfl (.inl rfl))
  (bss_cons (bs_set (i := 6) c.nd rfl (.inl rfl) (be_callD c (d_l_level T) (ba_cons (be_var 0) (ba_cons (be_var 4) (ba_cons (be_var 5) ba_nil)))))
  (bss_cons (bs_set (i := 7) c.nd rfl (.inl rfl) (be_callD c (d_l_least T) (ba_cons (be_var 4) (ba_cons (be_var 5) (ba_cons (be_var 6) ba_nil)))))
  (bss_one (bs_if (bt_not (bt_tru (be_callD c (d_l_least_fits T) (ba_cons (be_var 1) (ba_cons (be_var 2) (ba_cons (be_callD c (d_hit_least T) (ba_cons (be_var 1) (ba_cons (be_var 2) (ba_cons (be_makeD c (d_Share_init T) T.c_Share (ba_cons (be_ix (be_var 6) be_int (fun _ _ => rfl)) (ba_cons (be_ix (be_var 6) be_int (fun _ _ => rfl)) ba_nil))) ba_nil)))) (ba_cons (be_var 7) ba_nil)))))))
  (bss_one (bs_ret be_bl))
  bss_nil)))))
  (bss_one (bs_ret be_bl))))
theorem sc_l_whole : FnScope ["_law_script", "_law_asked", "_law_one", "_law_stream_here", "_law_kinds", "_law_length"] ["_law_script"] (defScope s_l_whole) := ⟨rfl, rfl, rfl, by decide +kernel, rfl, by decide +kernel, by decide +kernel⟩
theorem d_l_whole (T : Txt K mg A) : DefOk P w K mg base 7 "_law_whole" fl_l_whole (fn_l_whole K A) := T.t_l_whole.ok fun f fd F => fn_bv F sc_l_whole rfl fun cdv A0 outer s0 H0 E0 c =>
  (bss_cons (bs_set (i := 1) c.nd rfl (.inl rfl) (be_lst ba_nil))
  (bss_cons (bs_forr c (bi_range1 (by rfl) T.z_range (ba_cons be_int ba_nil)) (bg_name (i := 2) c.nd rfl (.inl rfl))
  (bss_cons (bs_set (i := 3) c.nd rfl (.inl rfl) (be_callD c (d_l_stream T) (ba_cons (be_var 0) (ba_cons (be_var 2) ba_nil))))
  (bss_cons (bs_set (i := 4) c.nd rfl (.inl rfl) (be_op op_addU ok_addU be_int (be_callD c (d_l_draw T) (ba_cons (be_var 3) (ba_cons be_int ba_nil)))))
  (bss_cons (bs_set (i := 5) c.nd rfl (.inl rfl) (be_ix (be_lst (ba_cons (be_callD c (d_l_draw T) (ba_cons (be_var 3) (ba_cons be_int ba_nil))) (ba_cons be_int (ba_cons be_int ba_nil)))) (be_op op_mulW ok_mul (be_callD c (d_l_draw T) (ba_cons (be_var 3) (ba_cons be_int ba_nil))) (be_callD c (d_l_draw T) (ba_cons (be_var 3) (ba_cons be_int ba_nil)))) (fun _ _ => rfl)))
  (bss_cons (bs_expr (be_bm (by decide) PySem.F.plainAttrs_list PySem.F.slot_list_append PySem.F.type_list_append mt_append ok_append (be_var 1) (ba_cons (be_tup (ba_cons (be_var 4) (ba_cons (be_var 5) ba_nil))) ba_nil)))
  (bss_one (bs_if (bw_or (bt_not (bt_tru (be_callD c (d_l_tails_fit T) (ba_cons (be_var 4) (ba_cons (be_var 5) ba_nil))))) (bw_or1 (bt_not (bt_tru (be_callD c (d_l_levels_fit T) (ba_cons (be_var 3) (ba_cons (be_var 4) (ba_cons (be_var 5) ba_nil)))))))).pt
  (bss_one (bs_ret be_bl))
  bss_nil)))))))
  (bss_cons (bs_if (bt_not (bt_tru (be_callD c (d_l_counts_fit T) (ba_cons (be_callD c (d_l_stream T) (ba_cons (be_var 0) (ba_cons be_int ba_nil))) ba_nil))))
  (bss_one (bs_ret be_bl))
  bss_nil)
  (bss_cons (bs_set (i := 3) c.nd rfl (.inl rfl) (be_callD c (d_l_stream T) (ba_cons (be_var 0) (ba_cons be_int ba_nil))))
  (bss_cons (bs_forr c (bi_seq (be_var 1)) (bg_tup c.calm (bgs_cons (bg_name (i := 4) c.nd rfl (.inl rfl)) (bgs_cons (bg_name (i := 5) c.nd rfl (.inl rfl)) bgs_nil)))
  (bss_one (bs_if (bt_not (bt_tru (be_callD c (d_l_levels_fit T) (ba_cons (be_var 3) (ba_cons (be_var 4) (ba_cons (be_var 5) ba_nil))))))
  (bss_one (bs_ret be_bl))
  bss_nil)))
  (bss_one (bs_ret (be_callD c (d_l_tails_fit T) (ba_cons (be_ix (be_ix (be_var 1) be_int (fun _ _ => rfl)) be_int (fun _ _ => rfl)) (ba_cons (be_ix (be_ix (be_var 1) be_int (fun _ _ => rfl)) be_int (fun _ _ => rfl)) ba_nil))))))))))
theorem sc_law : FnScope ["_law_script"] ["_law_script"] (defScope s_law) := ⟨rfl, rfl, rfl, by decide +kernel, rfl, by decide +kernel, by decide +kernel⟩
theorem d_law (T : Txt K mg A) {f : Addr} {fd : FuncData} (F : Fun K "law" "law" s_law f fd) : FnOk P w K mg base (L2.CX P w) 8 f fd ["_law_script"] (spBV K fl_law (fn_law K A)) := fn_bv F sc_law rfl fun cdv A0 outer s0 H0 E0 c =>
  (bss_one (bs_try_thru (bss_one (bs_ret (be_callD c.nox (d_l_whole T) (ba_cons (be_var 0) ba_nil))))))
end
end L

namespace L
open PySem PySem.Spec PyProof.Rows L2 BV
section
variable {K : PySem.W.Frag} {A : Ad}
theorem fmodN (a b : Nat) : Int.fmod (a : Int) (b : Int) = ((a % b : Nat) : Int) := by
  rw [Int.fmod_eq_emod_of_nonneg _ (Int.natCast_nonneg b), Int.natCast_emod]
theorem fdivN (a b : Nat) : Int.fdiv (a : Int) (b : Int) = ((a / b : Nat) : Int) := by
  rw [Int.fdiv_eq_ediv_of_nonneg _ (Int.natCast_nonneg b), Int.natCast_ediv]
theorem gd_while : ∀ (n a b : Nat), b < n → whileL (mBl (mOp cGt (mVar 1) (mC (.int 0)))) (m_greatest_divisor_b1 K A) n [some (iW a), some (iW b)] = .next [some (iW (Nat.gcd a b : Nat)), some (iW 0)]
  | 0, _, _, h => absurd h (Nat.not_lt_zero _)
  | n + 1, a, b, h => by
    unfold whileL
    by_cases hb : b = 0
    · subst hb
      simp
    · have h2 : 0 < b := Nat.pos_of_ne_zero hb
      simp [hb, h2, m_greatest_divisor_b1]
      rw [fmodN]
      have ih := gd_while n b (a % b) (by have := Nat.mod_lt a h2; omega)
      simp only [m_greatest_divisor_b1] at ih
      rw [ih, Nat.gcd_comm a b, Nat.gcd_rec b a, Nat.gcd_comm]
theorem gd_is (a b : Nat) : fn_greatest_divisor K A [iW a, iW b] = .ok (iW (Nat.gcd a b : Nat)) [] := by
  have h := gd_while (K := K) (A := A) (b + 1) a b (Nat.lt_succ_self _)
  exact run_ret (m := m_greatest_divisor K A) (L0 := [some (iW a), some (iW b)]) (L := [some (iW (Nat.gcd a b : Nat)), some (iW 0)]) (by simp [m_greatest_divisor, fuelI, h])
theorem power_step (lo : Int) (n : Nat) (N f : Int) (a : Nat) (y) (hs : SzM f a) : forL (gNm fl_power 3) (m_power_b1 K A) (intsW lo (n+1)) [some (iW a), some (iW N), some (iW f), y] = forL (gNm fl_power 3) (m_power_b1 K A) (intsW (lo + 1) n) [some (iW a), some (iW N), some (iW (f * a)), some (iW lo)] := by
  simp [intsW_succ, forL, m_power_b1, hs]
theorem power_loop (a : Nat) (h1 : Bit 64 (a : Int)) (n : Nat) : ∀ (lo : Int) (N f : Int) (y : Option W) (m : Nat), Bit (64 * m) f → 64 * (m + n) < 100000 →
    ∃ y', forL (gNm fl_power 3) (m_power_b1 K A) (intsW lo n) [some (iW a), some (iW N), some (iW f), y] = .next [some (iW a), some (iW N), some (iW (f * a ^ n)), y'] := by
  induction n with
  | zero => exact fun lo N f y m h2 h3 => ⟨y, by simp [intsW_zero, forL]⟩
  | succ n ih =>
    intro lo N f y m h2 h3
    have hm := h2.mul h1
    obtain ⟨y', ih⟩ := ih (lo + 1) N (f * a) (some (iW lo)) (m + 1) (hm.mono (by omega)) (by omega)
    refine ⟨y', ?_⟩
    have hs : SzM f a := h2.szM h1 (by omega)
    rw [power_step _ _ _ _ _ _ hs, ih, Int.pow_succ', Int.mul_assoc]
theorem bitN {n a : Nat} (h : a < 2 ^ n) : Bit n (a : Int) := h
theorem power_is (a n : Nat) (h1 : a < 2 ^ 64) (h : n < 1000) : fn_power K A [iW a, iW n] = .ok (iW ((a : Int) ^ n)) [] := by
  obtain ⟨y, e⟩ := power_loop (K := K) (A := A) a (bitN h1) n 0 n 1 none 1 (bitN (n := 64) (a := 1) (by decide)) (by omega)
  have hz : SzR (n : Int) := ⟨by omega, by omega⟩
  refine run_ret (m := m_power K A) (L0 := [some (iW a), some (iW n), none, none]) (L := [some (iW a), some (iW n), some (iW (1 * a ^ n)), y]) (by simp [m_power, hz, e])
end
end L

namespace L
open PySem PySem.Spec PyProof.Rows L2 BV
/-! ### binomials: cc m j is (m + j choose j) -/
def cc : Nat → Nat → Nat
  | 0, _ => 1
  | _ + 1, 0 => 1
  | m + 1, j + 1 => cc (m + 1) j + cc m (j + 1)
theorem cc_zero (m : Nat) : cc m 0 = 1 := by cases m <;> rw [cc]
theorem cc_one (j : Nat) : cc 0 j = 1 := by rw [cc]
theorem cc_succ (m j : Nat) : cc (m + 1) (j + 1) = cc (m + 1) j + cc m (j + 1) := by rw [cc]
theorem cc_symm : ∀ m j : Nat, cc m j = cc j m
  | 0, j => by rw [cc_one, cc_zero]
  | m + 1, 0 => by rw [cc_one, cc_zero]
  | m + 1, j + 1 => by rw [cc_succ, cc_succ, cc_symm (m + 1) j, cc_symm m (j + 1), Nat.add_comm]
/-- (m+1+j choose j) (m+1) = (m + j + 1 choose j+1) (j+1), and (m+j+1 choose j+1)(j+1) = (m+j choose j)(m+j+1) -/
theorem cc_up : ∀ m j : Nat, cc m (j + 1) * (j + 1) = cc m j * (m + j + 1)
  | 0, j => by rw [cc_one, cc_one, Nat.zero_add]
  | m + 1, 0 => by
    have h := cc_up m 0
    rw [cc_zero] at h
    rw [cc_succ, cc_zero, Nat.add_mul, h]
    omega
  | m + 1, j + 1 => by
    have h1 := cc_up (m + 1) j
    have h2 := cc_up m (j + 1)
    have e3 : cc (m + 1) (j + 1) = cc (m + 1) j + cc m (j + 1) := cc_succ m j
    have e4 : cc (m + 1) (j + 1 + 1) = cc (m + 1) (j + 1) + cc m (j + 1 + 1) := cc_succ m (j + 1)
    rw [e4, Nat.add_mul, h2]
    -- goal: cc (m+1) (j+1) * (j+2) + cc m (j+1) * (m + j + 2) = cc (m+1)(j+1) * (m + j + 3)
    -- cc (m+1) (j+1) (j+1) = cc (m+1) j (m + j + 2)
    have e5 : cc (m + 1) (j + 1) * (m + 1 + (j + 1) + 1) = cc (m + 1) (j + 1) * (j + 1 + 1) + cc (m + 1) (j + 1) * (m + 1) := by
      rw [← Nat.mul_add]; congr 1; omega
    rw [e5]
    congr 1
    have e6 : cc (m + 1) (j + 1) * (m + j + 2) = cc (m + 1) (j + 1) * (j + 1) + cc (m + 1) (j + 1) * (m + 1) := by
      rw [← Nat.mul_add]; congr 1; omega
    have e7 : cc (m + 1) (j + 1) * (m + j + 2) = cc (m + 1) j * (m + j + 2) + cc m (j + 1) * (m + j + 2) := by
      rw [e3, Nat.add_mul]
    have e8 : m + 1 + j + 1 = m + j + 2 := by omega
    rw [e8] at h1
    have e9 : m + (j + 1) + 1 = m + j + 2 := by omega
    rw [e9]
    omega
theorem cc_side (m j : Nat) : cc m (j + 1) * (j + 1) = cc (m + 1) j * (m + 1) := by
  have h := cc_up j m
  rw [cc_up m j, cc_symm m j, cc_symm (m + 1) j, h]
  congr 1
  omega
theorem cc_pos (m j : Nat) : 0 < cc m j := by
  induction m generalizing j with
  | zero => rw [cc_one]; decide
  | succ m ih => 
    cases j with
    | zero => rw [cc_zero]; decide
    | succ j => rw [cc_succ]; have := ih (j + 1); omega
theorem cc_le : ∀ m j : Nat, cc m j ≤ 2 ^ (m + j)
  | 0, j => by rw [cc_one]; exact Nat.one_le_two_pow
  | m + 1, 0 => by rw [cc_zero]; exact Nat.one_le_two_pow
  | m + 1, j + 1 => by
    have h1 := cc_le (m + 1) j
    have h2 := cc_le m (j + 1)
    have e1 : m + 1 + j = m + (j + 1) := by omega
    have e2 : m + 1 + (j + 1) = m + (j + 1) + 1 := by omega
    rw [e1] at h1
    rw [cc_succ, e2, Nat.pow_succ]
    omega
section
variable {K : PySem.W.Frag} {A : Ad}
theorem ways_step (t : Nat) (n : Nat) (m k c j : Nat) (y) (hj : j = t + 1) (h1 : m + k < 400) (h2 : t < k) (hc : c = cc m t) :
    forL (gNm fl_ways 3) (m_ways_b1 K A) (intsW ((j : Nat) : Int) (n + 1)) [some (iW ((m + k : Nat) : Int)), some (iW ((k : Nat) : Int)), some (iW ((c : Nat) : Int)), y] =
      forL (gNm fl_ways 3) (m_ways_b1 K A) (intsW ((j + 1 : Nat) : Int) n) [some (iW ((m + k : Nat) : Int)), some (iW ((k : Nat) : Int)), some (iW ((cc m (t + 1) : Nat) : Int)), some (iW ((j : Nat) : Int))] := by
  subst hj hc
  have e1 : ((m + k : Nat) : Int) - ((k : Nat) : Int) + ((t + 1 : Nat) : Int) = ((m + t + 1 : Nat) : Int) := by omega
  have b1 : Bit 400 ((cc m t : Nat) : Int) := bitN (Nat.lt_of_le_of_lt (cc_le m t) (Nat.pow_lt_pow_right (by decide) (by omega)))
  have b2 : Bit 400 ((m + t + 1 : Nat) : Int) := bitN (Nat.lt_of_lt_of_le (show m + t + 1 < 2 ^ (m + t + 1) from Nat.lt_two_pow_self) (Nat.pow_le_pow_right (by decide) (by omega)))
  have hm : SzM ((cc m t : Nat) : Int) ((m + t + 1 : Nat) : Int) := b1.szM b2 (by decide)
  have b3 : Bit 400 ((t + 1 : Nat) : Int) := bitN (Nat.lt_of_lt_of_le (show t + 1 < 2 ^ (t + 1) from Nat.lt_two_pow_self) (Nat.pow_le_pow_right (by decide) (by omega)))
  have hd : SzD ((t + 1 : Nat) : Int) := b3.szD (by omega) (by decide)
  have e2 : Int.fdiv (((cc m t : Nat) : Int) * ((m + t + 1 : Nat) : Int)) ((t + 1 : Nat) : Int) = ((cc m (t + 1) : Nat) : Int) := by
    rw [← Int.natCast_mul, fdivN, ← cc_up m t, Nat.mul_div_cancel _ (Nat.succ_pos t)]
  rw [intsW_succ]
  have e3 : (((t + 1 : Nat) : Int)) + 1 = ((t + 1 + 1 : Nat) : Int) := by omega
  generalize ((t + 1 : Nat) : Int) = jj at *
  generalize ((m + t + 1 : Nat) : Int) = mm at *
  generalize ((m + k : Nat) : Int) = nn at *
  generalize ((k : Nat) : Int) = kk at *
  generalize ((cc m t : Nat) : Int) = c0 at *
  generalize ((cc m (t + 1) : Nat) : Int) = c1 at *
  rw [e3]
  generalize ((t + 1 + 1 : Nat) : Int) = j2 at *
  simp [forL, m_ways_b1, e1, hm, hd, e2]
theorem ways_loop (m k : Nat) (h1 : m + k < 400) : ∀ (n t : Nat) (y : Option W), t + n = k → 
    ∃ y', forL (gNm fl_ways 3) (m_ways_b1 K A) (intsW ((t + 1 : Nat) : Int) n) [some (iW ((m + k : Nat) : Int)), some (iW ((k : Nat) : Int)), some (iW ((cc m t : Nat) : Int)), y] =
      .next [some (iW ((m + k : Nat) : Int)), some (iW ((k : Nat) : Int)), some (iW ((cc m k : Nat) : Int)), y'] := by
  intro n
  induction n with
  | zero => exact fun t y h => ⟨y, by rw [show t = k from h, intsW_zero]; rfl⟩
  | succ n ih =>
    intro t y h
    obtain ⟨y', e⟩ := ih (t + 1) (some (iW ((t + 1 : Nat) : Int))) (by omega)
    exact ⟨y', by rw [ways_step t n m k (cc m t) (t + 1) y rfl h1 (by omega) rfl]; exact e⟩
theorem ways_is (n k : Nat) (hk : k ≤ n) (hn : n < 400) : fn_ways K A [iW n, iW k] = .ok (iW ((cc (n - k) k : Nat) : Int)) [] := by
  obtain ⟨m, rfl⟩ : ∃ m, n = m + k := ⟨n - k, by omega⟩
  obtain ⟨y, e⟩ := ways_loop (K := K) (A := A) m k hn k 0 none (Nat.zero_add _)
  have h1 : ¬ ((k : Nat) : Int) < 0 := by omega
  have h2 : ¬ ((m + k : Nat) : Int) < ((k : Nat) : Int) := by omega
  have r1 : SzR 1 := ⟨by decide, by decide⟩
  have r2 : SzR (((k : Nat) : Int) + 1) := ⟨by omega, by omega⟩
  have e5 : ((k : Nat) : Int).toNat = k := by omega
  rw [Nat.add_sub_cancel]
  have e0 : ((0 + 1 : Nat) : Int) = 1 := rfl
  have e1 : ((cc m 0 : Nat) : Int) = 1 := by rw [cc_zero]; rfl
  rw [e0, e1] at e
  generalize ((cc m k : Nat) : Int) = c at *
  generalize ((m + k : Nat) : Int) = nn at *
  generalize ((k : Nat) : Int) = kk at *
  exact run_ret (m := m_ways K A) (L0 := [some (iW nn), some (iW kk), none, none]) (L := [some (iW nn), some (iW kk), some (iW c), y]) (by simp [m_ways, h1, h2, r1, r2, e5, e])
end
end L

set_option exponentiation.threshold 20000
namespace L
open PySem PySem.Spec PyProof.Rows L2 BV
theorem n_uo : ¬ (("under" : Str) = "over") := by decide +kernel
theorem n_ou : ¬ (("over" : Str) = "under") := by decide +kernel
/-- a Share's data, frozen and own -/
def sh (C : Addr) (o u : Int) : D := .obj C [("over", .int o), ("under", .int u)]
def shO (C : Addr) (o u : Int) : W := .oobj C [("over", iW o), ("under", iW u)]
section
variable {C : Addr} {o u : Int}
theorem sh_over : (W.frz (sh C o u)).fld "over" = some (iW o) := by
  show Option.map W.frz (List.lookup ("over" : Str) [(("over" : Str), D.int o), ("under", .int u)]) = _
  rw [look_cons, if_pos rfl]
  rfl
theorem sh_under : (W.frz (sh C o u)).fld "under" = some (iW u) := by
  show Option.map W.frz (List.lookup ("under" : Str) [(("over" : Str), D.int o), ("under", .int u)]) = _
  rw [look_cons, if_neg n_uo, look_cons, if_pos rfl]
  rfl
theorem shO_over : (shO C o u).fld "over" = some (iW o) := by
  show (match List.lookup ("over" : Str) [(("over" : Str), iW o), ("under", iW u)] with
    | some u => if u.no = true then some u else none
    | none => none) = _
  rw [look_cons, if_pos rfl]
  rfl
theorem shO_under : (shO C o u).fld "under" = some (iW u) := by
  show (match List.lookup ("under" : Str) [(("over" : Str), iW o), ("under", iW u)] with
    | some u => if u.no = true then some u else none
    | none => none) = _
  rw [look_cons, if_neg n_uo, look_cons, if_pos rfl]
  rfl
theorem shO_fr : (shO C o u).fr = some (sh C o u) := by
  unfold shO sh
  simp
theorem sh_no {m : Str} (h1 : ¬ m = "over") (h2 : ¬ m = "under") : (W.frz (sh C o u)).nofld m = true := by
  show (List.lookup m [(("over" : Str), D.int o), ("under", .int u)]).isNone = true
  rw [look_cons, if_neg h1, look_cons, if_neg h2]
  rfl
theorem sh_cls : (W.frz (sh C o u)).cls = some C := rfl
theorem shO_cls : (shO C o u).cls = some C := rfl
end
section
variable {K : PySem.W.Frag} {A : Ad}
theorem absN (n : Nat) : (if (n : Int) < 0 then -(n : Int) else (n : Int)) = (n : Int) := if_neg (by omega)
theorem init_is (o u : Nat) (h : 0 < u) (hu : u < 2 ^ 8000) : fn_Share_init K A [.oobj A.Share [], iW o, iW u] = .ok (.frz .non) [shO A.Share ((o / Nat.gcd o u : Nat) : Int) ((u / Nat.gcd o u : Nat) : Int)] := by
  have hg : 0 < Nat.gcd o u := Nat.gcd_pos_of_pos_right _ h
  have hl : Nat.gcd o u < 2 ^ 8000 := Nat.lt_of_le_of_lt (Nat.gcd_le_right _ h) hu
  have hd : SzD ((Nat.gcd o u : Nat) : Int) := (bitN hl).szD (by omega) (by decide)
  have e0 : ¬ ((u : Nat) : Int) = 0 := by omega
  have e1 : ¬ ((u : Nat) : Int) < 0 := by omega
  have eg := gd_is (K := K) (A := A) o u
  have f1 := fdivN o (Nat.gcd o u)
  have f2 := fdivN u (Nat.gcd o u)
  have a1 := absN o
  have a2 := absN u
  generalize ((Nat.gcd o u : Nat) : Int) = g at *
  generalize ((o / Nat.gcd o u : Nat) : Int) = o2 at *
  generalize ((u / Nat.gcd o u : Nat) : Int) = u2 at *
  generalize ((o : Nat) : Int) = oo at *
  generalize ((u : Nat) : Int) = uu at *
  refine run_next (m := m_Share_init K A) (L0 := [some (.oobj A.Share []), some (iW oo), some (iW uu), none]) (L := [some (shO A.Share o2 u2), some (iW oo), some (iW uu), some (iW g)]) ?_ 
  simp [m_Share_init, e0, e1, a1, a2, eg, hd, f1, f2, putW, n_ou, shO]
theorem below_is (o u o2 u2 : Int) (h1 : SzM o u2) (h2 : SzM o2 u) : fn_Share_is_below K A [.frz (sh A.Share o u), .frz (sh A.Share o2 u2)] = .ok (.frz (.bl (decide (o * u2 < o2 * u)))) [] := by
  refine run_ret (m := m_Share_is_below K A) (L0 := [some (.frz (sh A.Share o u)), some (.frz (sh A.Share o2 u2))]) (L := [some (.frz (sh A.Share o u)), some (.frz (sh A.Share o2 u2))]) ?_ 
  have hm : A.Share ∈ [A.Share] := List.mem_singleton.mpr rfl
  have r1 := fun (o u : Int) (L : Lc) => fldR_of (L := L) (cs := [A.Share]) (sh_cls (C := A.Share) (o := o) (u := u)) hm sh_over
  have r2 := fun (o u : Int) (L : Lc) => fldR_of (L := L) (cs := [A.Share]) (sh_cls (C := A.Share) (o := o) (u := u)) hm sh_under
  simp [m_Share_is_below, r1, r2, h1, h2]
end
end L

set_option exponentiation.threshold 20000
namespace L
open PySem PySem.Spec PyProof.Rows L2 BV
/-- the terms of the tail from lo, n of them -/
def term (q len k : Nat) : Int := ((cc (len - k) k : Nat) : Int) * ((q - 1 : Nat) : Int) ^ (len - k)
def terms (q len : Nat) : Nat → Nat → List Int
  | 0, _ => []
  | n + 1, lo => term q len lo :: terms q len n (lo + 1)
theorem terms_len (q len : Nat) : ∀ n lo, (terms q len n lo).length = n
  | 0, _ => rfl
  | n + 1, lo => by rw [terms, List.length_cons, terms_len q len n]
section
variable {K : PySem.W.Frag} {A : Ad}
theorem pow_lt {a n m k : Nat} (h : a < 2 ^ m) (hk : m * n ≤ k) : a ^ n < 2 ^ (k + 1) := by
  have h1 : a ^ n ≤ (2 ^ m) ^ n := Nat.pow_le_pow_left (Nat.le_of_lt h) n
  rw [← Nat.pow_mul] at h1
  have h2 : 2 ^ (m * n) ≤ 2 ^ k := Nat.pow_le_pow_right (by decide) hk
  have h3 : 2 ^ (k + 1) = 2 ^ k * 2 := Nat.pow_succ 2 k
  have h4 : 0 < 2 ^ k := Nat.two_pow_pos k
  omega
theorem tail_turn (q len : Nat) (hq : 0 < q) (hq2 : q < 2 ^ 16) (hl : len < 100) (lo : Nat) (hlo : lo ≤ len) (z0 : Int) :
    m_hit_tail_e2 K A [some (iW q), some (iW len), some (iW z0), none, some (iW lo)] = .ok (iR (term q len lo)) [some (iW q), some (iW len), some (iW z0), none, some (iW lo)] := by
  have w1 := ways_is (K := K) (A := A) len lo hlo (by omega)
  have w2 := power_is (K := K) (A := A) (q - 1) (len - lo) (by omega) (by omega)
  have e1 : ((q : Nat) : Int) - 1 = ((q - 1 : Nat) : Int) := by omega
  have e2 : ((len : Nat) : Int) - ((lo : Nat) : Int) = ((len - lo : Nat) : Int) := by omega
  have b1 : Bit 400 ((cc (len - lo) lo : Nat) : Int) := bitN (Nat.lt_of_le_of_lt (cc_le _ _) (Nat.pow_lt_pow_right (by decide) (by omega)))
  have b2 : Bit (16 * (len - lo) + 1) (((q - 1 : Nat) : Int) ^ (len - lo)) := Bit.pow (bitN (show q - 1 < 2 ^ 16 by omega)) _
  have hm := b1.szM b2 (by omega)
  unfold term
  generalize ((cc (len - lo) lo : Nat) : Int) = c at *
  generalize (((q - 1 : Nat) : Int) ^ (len - lo)) = p at *
  generalize ((q - 1 : Nat) : Int) = q1 at *
  generalize ((len - lo : Nat) : Int) = d1 at *
  generalize ((len : Nat) : Int) = l at *
  generalize ((lo : Nat) : Int) = lo1 at *
  generalize ((q : Nat) : Int) = qq at *
  simp [m_hit_tail_e2, w1, w2, e1, e2, hm]
theorem tail_loop (q len : Nat) (hq : 0 < q) (hq2 : q < 2 ^ 16) (hl : len < 100) (z0 : Int) (n : Nat) : ∀ (lo : Nat) (acc : List Int), lo + n = len + 1 → acc.length + n < 1000 →
    lcL true [4] (gNm (fo_hit_tail_1 K A) 4) mYes (m_hit_tail_e2 K A) (intsW (lo : Int) n) [some (iW q), some (iW len), some (iW z0), none, none] (acc.map iW) =
      some ((acc ++ terms q len n lo).map iW, [some (iW q), some (iW len), some (iW z0), none, none]) := by
  induction n with
  | zero => intro lo acc _ _; rw [intsW_zero, lcL, terms, List.append_nil]
  | succ n ih =>
    intro lo acc h1 h2
    have et := tail_turn (K := K) (A := A) q len hq hq2 hl lo (by omega) z0
    have ih2 := ih (lo + 1) (acc ++ [term q len lo]) (by omega) (by rw [List.length_append, List.length_singleton]; omega)
    rw [List.map_append] at ih2
    rw [intsW_succ, lcL_cons (L1 := [some (iW q), some (iW len), some (iW z0), none, some (iW lo)]) (by rw [e_gNm]; rfl) e_yes et (e_toW _) (by rw [List.length_map]; exact small1000 (by omega))]
    have e : acc ++ terms q len (n + 1) lo = acc ++ [term q len lo] ++ terms q len n (lo + 1) := by rw [terms, List.append_assoc]; rfl
    rw [e]
    exact ih2
/-- the tail's sum -/
def tailI (q len least : Nat) : Int := (terms q len (len + 1 - least) least).sum
theorem terms_nonneg (q len : Nat) : ∀ n lo, 0 ≤ (terms q len n lo).sum
  | 0, _ => Int.le_refl _
  | n + 1, lo => by
    rw [terms, List.sum_cons]
    have h1 := terms_nonneg q len n (lo + 1)
    have h2 : 0 ≤ term q len lo := by
      unfold term
      exact Int.mul_nonneg (Int.natCast_nonneg _) (Int.pow_nonneg (Int.natCast_nonneg _))
    omega
def tailN (q len least : Nat) : Nat := (tailI q len least).toNat
theorem tailN_eq (q len least : Nat) : ((tailN q len least : Nat) : Int) = tailI q len least := Int.toNat_of_nonneg (terms_nonneg q len _ _)
theorem hit_tail_is (q len least : Nat) (hq : 0 < q) (hq2 : q < 2 ^ 16) (hl : len < 100) (hle : least ≤ len + 1) :
    fn_hit_tail K A [iW q, iW len, iW least] = .ok (shO A.Share ((tailN q len least / Nat.gcd (tailN q len least) (q ^ len) : Nat) : Int) ((q ^ len / Nat.gcd (tailN q len least) (q ^ len) : Nat) : Int)) [] := by
  have hp : q ^ len < 2 ^ 8000 := Nat.lt_of_lt_of_le (pow_lt (k := 1600) hq2 (by omega)) (Nat.pow_le_pow_right (by decide) (by decide))
  have hi := init_is (K := K) (A := A) (tailN q len least) (q ^ len) (Nat.pow_pos hq) hp
  have hpw := power_is (K := K) (A := A) q len (Nat.lt_of_lt_of_le hq2 (Nat.pow_le_pow_right (by decide) (by decide))) (by omega)
  have hlc := tail_loop (K := K) (A := A) q len hq hq2 hl (least : Int) (len + 1 - least) least [] (by omega) (by simp; omega)
  have ec : ((q : Nat) : Int) ^ len = ((q ^ len : Nat) : Int) := (Int.natCast_pow q len).symm
  rw [ec] at hpw
  have r1 : SzR ((least : Nat) : Int) := ⟨by omega, by omega⟩
  have r2 : SzR (((len : Nat) : Int) + 1) := ⟨by omega, by omega⟩
  have en : (((len : Nat) : Int) + 1 - ((least : Nat) : Int)).toNat = len + 1 - least := by omega
  have e3 : mLc true (fo_hit_tail_1 K A) [4] (mRange2 (mCons (mVar 2) (mCons (mOp aAddU (mVar 1) (mC (.int 1))) mNil))) (gNm (fo_hit_tail_1 K A) 4) mYes (m_hit_tail_e2 K A) [some (iW q), some (iW len), some (iW least), none, none] =
      .ok (.val (.olst (((terms q len (len + 1 - least) least).map D.int).map .frz))) [some (iW q), some (iW len), some (iW least), none, none] := by
    refine mLc_ok (ws := intsW (least : Int) (len + 1 - least)) (L1 := [some (iW q), some (iW len), some (iW least), none, none]) (by simp [r1, r2, en]) ?_ rfl
    rw [List.map_map]
    exact hlc
  have es : f1 sumD [.val (W.olst (((terms q len (len + 1 - least) least).map D.int).map .frz))] [some (iW q), some (iW len), some (iW least), none, none] = .ok (iR ((tailN q len least : Nat) : Int)) [some (iW q), some (iW len), some (iW least), none, none] := by
    rw [e_f1l]
    refine f1R_of ?_
    rw [rd_lst, sumD_map, tailN_eq]
    rfl
  generalize ((tailN q len least / Nat.gcd (tailN q len least) (q ^ len) : Nat) : Int) = o1 at *
  generalize ((q ^ len / Nat.gcd (tailN q len least) (q ^ len) : Nat) : Int) = u1 at *
  generalize ((tailN q len least : Nat) : Int) = tt at *
  generalize ((q ^ len : Nat) : Int) = pp at *
  generalize W.olst (((terms q len (len + 1 - least) least).map D.int).map .frz) = ww at *
  generalize ((q : Nat) : Int) = qq at *
  generalize ((len : Nat) : Int) = ll at *
  generalize ((least : Nat) : Int) = le at *
  refine run_ret (m := m_hit_tail K A) (L0 := [some (iW qq), some (iW ll), some (iW le), none, none]) (L := [some (iW qq), some (iW ll), some (iW le), some (iW tt), none]) ?_
  simp [m_hit_tail, e3, es, hpw, hi]
end
end L

set_option exponentiation.threshold 20000
namespace L
open PySem PySem.Spec PyProof.Rows L2 BV
theorem bits_lt (u : Nat) : u < 2 ^ Builtin.Int.intBits (u : Int) := by
  unfold Builtin.Int.intBits
  by_cases h : u = 0
  · subst h; decide
  · have h2 : ((u : Int) == 0) = false := by
      rw [beq_eq_false_iff_ne]
      omega
    rw [h2, if_neg Bool.false_ne_true, Int.natAbs_natCast]
    exact Nat.lt_log2_self
theorem bits_le {u k : Nat} (h : u < 2 ^ k) : Builtin.Int.intBits (u : Int) ≤ k + 1 := by
  unfold Builtin.Int.intBits
  split
  · exact Nat.zero_le _
  · rename_i h2
    have h3 : u ≠ 0 := fun e => h2 (by rw [e]; rfl)
    rw [Int.natAbs_natCast]
    have := (Nat.log2_lt h3).mpr h
    omega
/-- two fractions that are equal have the same lowest terms -/
theorem red_eq {N M n m : Nat} (hM : 0 < M) (hm : 0 < m) (h : N * m = n * M) : N / Nat.gcd N M = n / Nat.gcd n m ∧ M / Nat.gcd N M = m / Nat.gcd n m := by
  have hg : 0 < Nat.gcd N M := Nat.gcd_pos_of_pos_right _ hM
  have hh : 0 < Nat.gcd n m := Nat.gcd_pos_of_pos_right _ hm
  have c1 := Nat.coprime_div_gcd_div_gcd hg
  have c2 := Nat.coprime_div_gcd_div_gcd hh
  have e1 : N = Nat.gcd N M * (N / Nat.gcd N M) := (Nat.mul_div_cancel' (Nat.gcd_dvd_left N M)).symm
  have e2 : M = Nat.gcd N M * (M / Nat.gcd N M) := (Nat.mul_div_cancel' (Nat.gcd_dvd_right N M)).symm
  have e3 : n = Nat.gcd n m * (n / Nat.gcd n m) := (Nat.mul_div_cancel' (Nat.gcd_dvd_left n m)).symm
  have e4 : m = Nat.gcd n m * (m / Nat.gcd n m) := (Nat.mul_div_cancel' (Nat.gcd_dvd_right n m)).symm
  generalize Nat.gcd N M = g at *
  generalize Nat.gcd n m = h0 at *
  generalize N / g = a at *
  generalize M / g = b at *
  generalize n / h0 = c at *
  generalize m / h0 = e at *
  subst e1 e2 e3 e4
  have key : a * e = c * b := by
    have : (g * h0) * (a * e) = (g * h0) * (c * b) := by
      calc (g * h0) * (a * e) = g * a * (h0 * e) := by rw [Nat.mul_mul_mul_comm]
        _ = h0 * c * (g * b) := h
        _ = (h0 * g) * (c * b) := by rw [Nat.mul_mul_mul_comm]
        _ = (g * h0) * (c * b) := by rw [Nat.mul_comm h0 g]
    exact Nat.eq_of_mul_eq_mul_left (Nat.mul_pos hg hh) this
  have d1 : a ∣ c := c1.dvd_of_dvd_mul_right (key ▸ Nat.dvd_mul_right a e)
  have d2 : c ∣ a := c2.dvd_of_dvd_mul_right (key ▸ Nat.dvd_mul_right c b)
  have ac : a = c := Nat.dvd_antisymm d1 d2
  subst ac
  refine ⟨rfl, ?_⟩
  have d3 : b ∣ e := c1.symm.dvd_of_dvd_mul_left (show b ∣ a * e from key ▸ Nat.dvd_mul_left b a)
  have d4 : e ∣ b := c2.symm.dvd_of_dvd_mul_left (show e ∣ a * b from key ▸ Nat.dvd_mul_left e a)
  exact Nat.dvd_antisymm d3 d4
section
variable {K : PySem.W.Frag} {A : Ad}
theorem low_stop (o u l : Int) : ∀ (n : Nat) (lo : Int) (y : Option W), ∃ y', forL (gNm fl_l_lowest 4) (m_l_lowest_b1 K A) (intsW lo n) [some (iW o), some (iW u), some (iW l), some (iW 0), y] = .next [some (iW o), some (iW u), some (iW l), some (iW 0), y']
  | 0, lo, y => ⟨y, by rw [intsW_zero]; rfl⟩
  | n + 1, lo, y => ⟨some (iW lo), by rw [intsW_succ]; simp [forL, m_l_lowest_b1]⟩
theorem low_step (o u : Int) (l r : Nat) (h : 0 < r) (n : Nat) (lo : Int) (y : Option W) : forL (gNm fl_l_lowest 4) (m_l_lowest_b1 K A) (intsW lo (n + 1)) [some (iW o), some (iW u), some (iW l), some (iW r), y] =
    forL (gNm fl_l_lowest 4) (m_l_lowest_b1 K A) (intsW (lo + 1) n) [some (iW o), some (iW u), some (iW r), some (iW (l % r : Nat)), some (iW lo)] := by
  have h0 : ¬ ((r : Nat) : Int) = 0 := by omega
  have e := fmodN l r
  rw [intsW_succ]
  generalize ((l % r : Nat) : Int) = m at *
  generalize ((r : Nat) : Int) = rr at *
  generalize ((l : Nat) : Int) = ll at *
  simp [forL, m_l_lowest_b1, h0, e]
theorem low_loop (o u : Int) (k : Nat) : ∀ (n : Nat) (lo : Int) (l r : Nat) (y : Option W), r < 2 ^ k → 2 * k ≤ n →
    ∃ y', forL (gNm fl_l_lowest 4) (m_l_lowest_b1 K A) (intsW lo n) [some (iW o), some (iW u), some (iW l), some (iW r), y] = .next [some (iW o), some (iW u), some (iW (Nat.gcd l r : Nat)), some (iW 0), y'] := by
  have zero : ∀ (n : Nat) (lo : Int) (l : Nat) (y : Option W), ∃ y', forL (gNm fl_l_lowest 4) (m_l_lowest_b1 K A) (intsW lo n) [some (iW o), some (iW u), some (iW l), some (iW ((0 : Nat) : Int)), y] = .next [some (iW o), some (iW u), some (iW (Nat.gcd l 0 : Nat)), some (iW 0), y'] := fun n lo l y => by
    rw [Nat.gcd_zero_right]
    exact low_stop o u l n lo y
  induction k with
  | zero =>
    intro n lo l r y h1 h2
    obtain rfl : r = 0 := by
      have : r < 1 := h1
      omega
    exact zero n lo l y
  | succ k ih =>
    intro n lo l r y h1 h2
    by_cases hr : r = 0
    · subst hr; exact zero n lo l y
    · have hp : 0 < r := Nat.pos_of_ne_zero hr
      obtain ⟨n, rfl⟩ : ∃ n', n = n' + 1 + 1 := ⟨n - 2, by omega⟩
      have eg : Nat.gcd l r = Nat.gcd r (l % r) := by rw [Nat.gcd_comm l r, Nat.gcd_rec r l, Nat.gcd_comm]
      rw [low_step o u l r hp, eg]
      by_cases hs : l % r = 0
      · rw [hs]
        exact zero _ _ r _
      · have hs2 : 0 < l % r := Nat.pos_of_ne_zero hs
        have eg2 : Nat.gcd r (l % r) = Nat.gcd (l % r) (r % (l % r)) := by rw [Nat.gcd_comm r (l % r), Nat.gcd_rec (l % r) r, Nat.gcd_comm]
        rw [low_step o u r (l % r) hs2, eg2]
        refine ih n _ _ _ _ ?_ (by omega)
        have hlt : l % r < r := Nat.mod_lt l hp
        have hm : r % (l % r) < l % r := Nat.mod_lt r hs2
        have hq : r = (l % r) * (r / (l % r)) + r % (l % r) := (Nat.div_add_mod r (l % r)).symm
        have hq1 : 1 ≤ r / (l % r) := Nat.div_pos (Nat.le_of_lt hlt) hs2
        have hq2 : (l % r) * 1 ≤ (l % r) * (r / (l % r)) := Nat.mul_le_mul_left _ hq1
        have : 2 ^ (k + 1) = 2 ^ k * 2 := Nat.pow_succ 2 k
        omega
theorem lowest_is (o u : Nat) (h : 0 < u) (hu : u < 2 ^ 8000) : fn_l_lowest K A [iW o, iW u] = .ok (.frz (.tup [.int ((o / Nat.gcd o u : Nat) : Int), .int ((u / Nat.gcd o u : Nat) : Int)])) [] := by
  have hb := bits_le hu
  have hg : 0 < Nat.gcd o u := Nat.gcd_pos_of_pos_right _ h
  have hl : Nat.gcd o u < 2 ^ 8000 := Nat.lt_of_le_of_lt (Nat.gcd_le_right _ h) hu
  have hd : SzD ((Nat.gcd o u : Nat) : Int) := (bitN hl).szD (by omega) (by decide)
  obtain ⟨y, e⟩ := low_loop (K := K) (A := A) (o : Int) (u : Int) (Builtin.Int.intBits (u : Int)) (2 * Builtin.Int.intBits (u : Int) + 2) 0 o u none (bits_lt u) (by omega)
  have hm : SzM 2 ((Builtin.Int.intBits (u : Int) : Nat) : Int) := by
    have hbb : Builtin.Int.intBits (u : Int) < 2 ^ 20 := by omega
    exact (bitN (n := 2) (a := 2) (by decide)).szM (bitN hbb) (by decide)
  have hr : SzR (2 * ((Builtin.Int.intBits (u : Int) : Nat) : Int) + 2) := ⟨by omega, by omega⟩
  have en : (2 * ((Builtin.Int.intBits (u : Int) : Nat) : Int) + 2).toNat = 2 * Builtin.Int.intBits (u : Int) + 2 := by omega
  have a1 := absN o
  have f1 := fdivN o (Nat.gcd o u)
  have f2 := fdivN u (Nat.gcd o u)
  generalize hB : ((Builtin.Int.intBits (u : Int) : Nat) : Int) = bb at *
  generalize ((Nat.gcd o u : Nat) : Int) = g at *
  generalize ((o / Nat.gcd o u : Nat) : Int) = o2 at *
  generalize ((u / Nat.gcd o u : Nat) : Int) = u2 at *
  generalize ((o : Nat) : Int) = oo at *
  generalize ((u : Nat) : Int) = uu at *
  refine run_ret (m := m_l_lowest K A) (L0 := [some (iW oo), some (iW uu), none, none, none]) (L := [some (iW oo), some (iW uu), some (iW g), some (iW 0), y]) ?_
  simp [m_l_lowest, a1, hB, hm, hr, en, e, hd, f1, f2]
theorem whole_is (i : Int) : fn_l_is_whole K A [iW i] = .ok (.frz (.bl true)) [] := by
  have h1 : isi K [A.Share] (.int i) (.ty "int") = some (.bl true) := isi_same rfl rfl
  have h2 : isi K [A.Share] (.int i) (.ty "bool") = some (.bl false) := isi_ty rfl (by rfl)
  refine run_ret (m := m_l_is_whole K A) (L0 := [some (iW i)]) (L := [some (iW i)]) ?_
  simp [m_l_is_whole, h1, h2]
theorem share_is (N M n m : Nat) (hM : 0 < M) (hm : 0 < m) (hm2 : m < 2 ^ 8000) (h : N * m = n * M) :
    fn_l_is_share K A [.frz (sh A.Share ((N / Nat.gcd N M : Nat) : Int) ((M / Nat.gcd N M : Nat) : Int)), iW n, iW m] = .ok (.frz (.bl true)) [] := by
  have hlo := lowest_is (K := K) (A := A) n m hm hm2
  obtain ⟨e1, e2⟩ := red_eq hM hm h
  rw [e1, e2]
  have h1 : isi K [A.Share] (sh A.Share ((n / Nat.gcd n m : Nat) : Int) ((m / Nat.gcd n m : Nat) : Int)) (.adr A.Share) = some (.bl true) := isi_same (t := .ref A.Share) (if_pos (List.mem_singleton.mpr rfl)) rfl
  have hmm : A.Share ∈ [A.Share] := List.mem_singleton.mpr rfl
  have r1 := fun (o u : Int) (L : Lc) => fldR_of (L := L) (cs := [A.Share]) (sh_cls (C := A.Share) (o := o) (u := u)) hmm sh_over
  have r2 := fun (o u : Int) (L : Lc) => fldR_of (L := L) (cs := [A.Share]) (sh_cls (C := A.Share) (o := o) (u := u)) hmm sh_under
  have w := fun i => whole_is (K := K) (A := A) i
  generalize ((n / Nat.gcd n m : Nat) : Int) = a at *
  generalize ((m / Nat.gcd n m : Nat) : Int) = b at *
  generalize ((n : Nat) : Int) = nn at *
  generalize ((m : Nat) : Int) = mm at *
  refine run_ret (m := m_l_is_share K A) (L0 := [some (.frz (sh A.Share a b)), some (iW nn), some (iW mm), none]) (L := [some (.frz (sh A.Share a b)), some (iW nn), some (iW mm), some (.frz (.tup [.int a, .int b]))]) ?_
  simp [m_l_is_share, h1, r1, r2, w, hlo]
end
end L

set_option exponentiation.threshold 20000
namespace L
open PySem PySem.Spec PyProof.Rows L2 BV
/-- own list of ints -/
abbrev oI (ns : List Int) : W := .olst ((ns.map D.int).map .frz)
def pws (q : Nat) : Nat → List Int
  | 0 => [1]
  | n + 1 => pws q n ++ [((q - 1 : Nat) : Int) ^ (n + 1)]
theorem pws_len (q : Nat) : ∀ n, (pws q n).length = n + 1
  | 0 => rfl
  | n + 1 => by rw [pws, List.length_append, pws_len q n]; rfl
theorem pws_last (q : Nat) : ∀ n, (pws q n).getLast? = some (((q - 1 : Nat) : Int) ^ n)
  | 0 => rfl
  | n + 1 => by rw [pws, List.getLast?_append]; rfl
theorem pws_get (q : Nat) : ∀ (n i : Nat), i ≤ n → (pws q n)[i]? = some (((q - 1 : Nat) : Int) ^ i)
  | 0, 0, _ => rfl
  | n + 1, i, h => by
    rw [pws]
    by_cases hi : i ≤ n
    · rw [List.getElem?_append_left (by rw [pws_len]; omega)]
      exact pws_get q n i hi
    · obtain rfl : i = n + 1 := by omega
      rw [List.getElem?_append_right (by rw [pws_len]; omega), pws_len, Nat.sub_self]
      rfl
def tls (q len : Nat) : Nat → List Int
  | 0 => [0]
  | j + 1 => tailI q len (len - j) :: tls q len j
theorem tls_len (q len : Nat) : ∀ j, (tls q len j).length = j + 1
  | 0 => rfl
  | j + 1 => by rw [tls, List.length_cons, tls_len q len j]
theorem tail_end (q len : Nat) : tailI q len (len + 1) = 0 := by
  unfold tailI
  rw [Nat.sub_self]
  rfl
theorem tail_step (q len k : Nat) (h : k ≤ len) : tailI q len k = term q len k + tailI q len (k + 1) := by
  unfold tailI
  rw [show len + 1 - k = (len + 1 - (k + 1)) + 1 by omega, terms, List.sum_cons]
theorem tls_get (q len : Nat) : ∀ (j i : Nat), j ≤ len + 1 → i ≤ j → (tls q len j)[i]? = some (tailI q len (len + 1 - j + i))
  | 0, 0, _, _ => by rw [Nat.sub_zero, Nat.add_zero, tail_end]; rfl
  | j + 1, 0, h, _ => by
    show some (tailI q len (len - j)) = _
    rw [show len + 1 - (j + 1) + 0 = len - j by omega]
  | j + 1, i + 1, h, hi => by
    show (tls q len j)[i]? = _
    rw [tls_get q len j i (by omega) (by omega), show len + 1 - (j + 1) + (i + 1) = len + 1 - j + i by omega]
theorem tls_head (q len j : Nat) (h : j ≤ len + 1) : (tls q len j)[0]? = some (tailI q len (len + 1 - j)) := tls_get q len j 0 h (Nat.zero_le _)
section
variable {K : PySem.W.Frag} {A : Ad}
theorem miss_step (q n : Nat) (hq : 0 < q) (hq2 : q < 2 ^ 16) (hn : n < 100) (len : Int) (lo : Int) (y : Option W) (m : Nat) :
    forL (gNm fl_l_tails 3) (m_l_tails_b1 K A) (intsW lo (m + 1)) [some (iW q), some (iW len), some (oI (pws q n)), y, none, none, none, none] =
      forL (gNm fl_l_tails 3) (m_l_tails_b1 K A) (intsW (lo + 1) m) [some (iW q), some (iW len), some (oI (pws q (n + 1))), some (iW lo), none, none, none, none] := by
  have b1 : Bit (16 * n + 1) (((q - 1 : Nat) : Int) ^ n) := Bit.pow (bitN (show q - 1 < 2 ^ 16 by omega)) _
  have b2 : Bit 16 ((q - 1 : Nat) : Int) := bitN (show q - 1 < 2 ^ 16 by omega)
  have hm := b1.szM b2 (by omega)
  have e1 : ((q : Nat) : Int) - 1 = ((q - 1 : Nat) : Int) := by omega
  have ep : (((q - 1 : Nat) : Int) ^ n) * ((q - 1 : Nat) : Int) = ((q - 1 : Nat) : Int) ^ (n + 1) := (Int.pow_succ _ _).symm
  have ix : ∀ L : Lc, kR ixW (some (oI (pws q n))) (some (.frz (.int (-1)))) L = .ok (.val (.frz (.int (((q - 1 : Nat) : Int) ^ n)))) L := fun L => kR_of (ixl_last (by rw [List.getLast?_map, pws_last]; rfl))
  have hlen : (((pws q n).map D.int).map W.frz).length < sizeLine := by
    rw [List.length_map, List.length_map, pws_len]
    exact small1000 (by omega)
  have ea : ((pws q n).map D.int).map W.frz ++ [.frz (.int (((q - 1 : Nat) : Int) ^ (n + 1)))] = ((pws q (n + 1)).map D.int).map W.frz := by
    rw [pws, List.map_append, List.map_append]
    rfl
  unfold oI at *
  rw [← ea, intsW_succ]
  generalize ((pws q n).map D.int).map W.frz = ws at *
  generalize (((q - 1 : Nat) : Int) ^ (n + 1)) = p1 at *
  generalize (((q - 1 : Nat) : Int) ^ n) = p at *
  generalize ((q - 1 : Nat) : Int) = q1 at *
  generalize ((q : Nat) : Int) = qq at *
  simp [forL, m_l_tails_b1, ix, e1, hm, ep, hlen]
theorem miss_loop (q : Nat) (hq : 0 < q) (hq2 : q < 2 ^ 16) (len : Int) (m : Nat) : ∀ (n : Nat) (lo : Int) (y : Option W), n + m < 100 →
    ∃ y', forL (gNm fl_l_tails 3) (m_l_tails_b1 K A) (intsW lo m) [some (iW q), some (iW len), some (oI (pws q n)), y, none, none, none, none] =
      .next [some (iW q), some (iW len), some (oI (pws q (n + m))), y', none, none, none, none] := by
  induction m with
  | zero => exact fun n lo y h => ⟨y, by rw [intsW_zero]; rfl⟩
  | succ m ih =>
    intro n lo y h
    obtain ⟨y', e⟩ := ih (n + 1) (lo + 1) (some (iW lo)) (by omega)
    exact ⟨y', by rw [miss_step q n hq hq2 (by omega), e, show n + 1 + m = n + (m + 1) by omega]⟩
theorem full_step (q : Nat) (len : Int) (ms : W) (f : Int) (hm : SzM f q) (lo : Int) (y : Option W) (m : Nat) :
    forL (gNm fl_l_tails 3) (m_l_tails_b2 K A) (intsW lo (m + 1)) [some (iW q), some (iW len), some ms, y, some (iW f), none, none, none] =
      forL (gNm fl_l_tails 3) (m_l_tails_b2 K A) (intsW (lo + 1) m) [some (iW q), some (iW len), some ms, some (iW lo), some (iW (f * q)), none, none, none] := by
  rw [intsW_succ]
  simp [forL, m_l_tails_b2, hm]
theorem full_loop (q : Nat) (hq2 : q < 2 ^ 16) (len : Int) (ms : W) (m : Nat) : ∀ (n : Nat) (f : Int) (lo : Int) (y : Option W), Bit (16 * n + 1) f → n + m < 100 →
    ∃ y', forL (gNm fl_l_tails 3) (m_l_tails_b2 K A) (intsW lo m) [some (iW q), some (iW len), some ms, y, some (iW f), none, none, none] =
      .next [some (iW q), some (iW len), some ms, y', some (iW (f * (q : Int) ^ m)), none, none, none] := by
  induction m with
  | zero => exact fun n f lo y hb h => ⟨y, by rw [intsW_zero, Int.pow_zero, Int.mul_one]; rfl⟩
  | succ m ih =>
    intro n f lo y hb h
    have b2 : Bit 16 ((q : Nat) : Int) := bitN hq2
    have b3 := hb.mul b2
    obtain ⟨y', e⟩ := ih (n + 1) (f * q) (lo + 1) (some (iW lo)) (b3.mono (by omega)) (by omega)
    exact ⟨y', by rw [full_step q len ms f (hb.szM b2 (by omega)), e, Int.mul_assoc, ← Int.pow_succ']⟩
theorem tl_step (q len : Nat) (hq : 0 < q) (hq2 : q < 2 ^ 16) (hl : len < 100) (fu : Int) (sy : Option W) (j m : Nat) (hj : j ≤ len) (y : Option W) (c : Nat) (hc : c = if j < len + 1 then cc (len - j) j else 0) :
    forL (gNm fl_l_tails 7) (m_l_tails_b3 K A) (intsW (j : Nat) (m + 1)) [some (iW q), some (iW len), some (oI (pws q len)), sy, some (iW fu), some (oI (tls q len j)), some (iW c), y] =
      forL (gNm fl_l_tails 7) (m_l_tails_b3 K A) (intsW ((j + 1 : Nat) : Int) m) [some (iW q), some (iW len), some (oI (pws q len)), sy, some (iW fu), some (oI (tls q len (j + 1))), some (iW ((if j + 1 < len + 1 then cc (len - (j + 1)) (j + 1) else 0 : Nat) : Int)), some (iW (j : Nat))] := by
  rw [if_pos (by omega)] at hc
  have h0 : ∀ L : Lc, kR ixW (some (oI (tls q len j))) (some (.frz (.int 0))) L = .ok (.val (.frz (.int (tailI q len (len + 1 - j))))) L := fun L => kR_of (ixl_nat (i := 0) (by rw [List.getElem?_map, tls_head q len j (by omega)]; rfl))
  have h1 : ∀ L : Lc, kR ixW (some (oI (pws q len))) (some (.frz (.int (j : Nat)))) L = .ok (.val (.frz (.int (((q - 1 : Nat) : Int) ^ j)))) L := fun L => kR_of (ixl_nat (i := j) (by rw [List.getElem?_map, pws_get q len j hj]; rfl))
  have bc : Bit 400 ((c : Nat) : Int) := by
    subst hc
    exact bitN (Nat.lt_of_le_of_lt (cc_le _ _) (Nat.pow_lt_pow_right (by decide) (by omega)))
  have bp : Bit (16 * j + 1) (((q - 1 : Nat) : Int) ^ j) := Bit.pow (bitN (show q - 1 < 2 ^ 16 by omega)) _
  have hm1 := bc.szM bp (by omega)
  have e1 : ((len : Nat) : Int) - ((j : Nat) : Int) = ((len - j : Nat) : Int) := by omega
  have hm2 : SzM ((c : Nat) : Int) ((len - j : Nat) : Int) := bc.szM (bitN (n := 16) (show len - j < 2 ^ 16 by omega)) (by decide)
  have e2 : ((j : Nat) : Int) + 1 = ((j + 1 : Nat) : Int) := by omega
  have hd : SzD ((j + 1 : Nat) : Int) := (bitN (n := 16) (show j + 1 < 2 ^ 16 by omega)).szD (by omega) (by decide)
  have e3 : Int.fdiv (((c : Nat) : Int) * ((len - j : Nat) : Int)) ((j + 1 : Nat) : Int) = ((if j + 1 < len + 1 then cc (len - (j + 1)) (j + 1) else 0 : Nat) : Int) := by
    rw [← Int.natCast_mul, fdivN]
    congr 1
    by_cases hjl : j + 1 < len + 1
    · rw [if_pos hjl, hc]
      have := cc_side (len - (j + 1)) j
      rw [show len - (j + 1) + 1 = len - j by omega] at this
      rw [← this, Nat.mul_div_cancel _ (Nat.succ_pos j)]
    · rw [if_neg hjl, show len - j = 0 by omega, Nat.mul_zero, Nat.zero_div]
  have e4 : tailI q len (len + 1 - j) + ((c : Nat) : Int) * ((q - 1 : Nat) : Int) ^ j = tailI q len (len - j) := by
    have ts := tail_step q len (len - j) (by omega)
    rw [show len - j + 1 = len + 1 - j by omega] at ts
    rw [ts]
    unfold term
    rw [show len - (len - j) = j by omega, hc, cc_symm (len - j) j]
    omega
  have hlen : ([W.frz (.int (tailI q len (len - j)))] : List W).length + (((tls q len j).map D.int).map W.frz).length ≤ sizeLine := by
    rw [List.length_map, List.length_map, tls_len]
    exact small_le (by simp; omega)
  have ec : ∀ (L : Lc), L[5]? = some (some (oI (tls q len j))) → aAddU (.val (.olst [.frz (.int (tailI q len (len - j)))])) (.al 5) L = .ok (.val (oI (tls q len (j + 1)))) L := fun L hL => by
    refine addU_l (us := ((tls q len j).map D.int).map W.frz) (ws := [.frz (.int (tailI q len (len - j)))]) rfl (by rw [e_get_a, hL]; rfl) (lseq_l [.int _]) (lseq_l _) hlen
  have ec2 : ∀ a b c d e f g, aAddU (.val (.olst [.frz (.int (tailI q len (len - j)))])) (.al 5) [a, b, c, d, e, some (oI (tls q len j)), f, g] = .ok (.val (oI (tls q len (j + 1)))) [a, b, c, d, e, some (oI (tls q len j)), f, g] := fun a b c d e f g => ec _ rfl
  rw [intsW_succ, e2]
  unfold oI at *
  generalize ((if j + 1 < len + 1 then cc (len - (j + 1)) (j + 1) else 0 : Nat) : Int) = c2 at *
  generalize ((tls q len (j + 1)).map D.int).map W.frz = t2 at *
  generalize ((tls q len j).map D.int).map W.frz = t1 at *
  generalize ((pws q len).map D.int).map W.frz = ps at *
  generalize tailI q len (len + 1 - j) = a1 at *
  generalize tailI q len (len - j) = a2 at *
  generalize (((q - 1 : Nat) : Int) ^ j) = pp at *
  generalize ((c : Nat) : Int) = c1 at *
  generalize ((j + 1 : Nat) : Int) = j1 at *
  generalize ((len - j : Nat) : Int) = d1 at *
  generalize ((j : Nat) : Int) = jj at *
  generalize ((len : Nat) : Int) = ll at *
  generalize ((q : Nat) : Int) = qq at *
  simp [forL, m_l_tails_b3, h0, h1, hm1, hm2, e1, e2, e3, e4, hd, ec2]
end
end L

set_option exponentiation.threshold 20000
namespace L
open PySem PySem.Spec PyProof.Rows L2 BV
/-- the row's tails by the law: a list in data -/
def tailD (q len : Nat) : D := .lst ((tls q len (len + 1)).map D.int)
theorem tails_get (q len i : Nat) (h : i ≤ len + 1) : (tls q len (len + 1))[i]? = some (tailI q len i) := by
  rw [tls_get q len (len + 1) i (Nat.le_refl _) h, show len + 1 - (len + 1) + i = i by omega]
section
variable {K : PySem.W.Frag} {A : Ad}
theorem tl_loop (q len : Nat) (hq : 0 < q) (hq2 : q < 2 ^ 16) (hl : len < 100) (fu : Int) (sy : Option W) (m : Nat) : ∀ (j : Nat) (y : Option W), j + m = len + 1 →
    ∃ y' c', forL (gNm fl_l_tails 7) (m_l_tails_b3 K A) (intsW (j : Nat) m) [some (iW q), some (iW len), some (oI (pws q len)), sy, some (iW fu), some (oI (tls q len j)), some (iW ((if j < len + 1 then cc (len - j) j else 0 : Nat) : Int)), y] =
      .next [some (iW q), some (iW len), some (oI (pws q len)), sy, some (iW fu), some (oI (tls q len (len + 1))), c', y'] := by
  induction m with
  | zero =>
    intro j y h
    obtain rfl : j = len + 1 := by omega
    exact ⟨y, _, by rw [intsW_zero]; rfl⟩
  | succ m ih =>
    intro j y h
    obtain ⟨y', c', e⟩ := ih (j + 1) (some (iW (j : Nat))) (by omega)
    exact ⟨y', c', by rw [tl_step q len hq hq2 hl fu sy j m (by omega) y _ rfl]; exact e⟩
theorem tails_is (q len : Nat) (hq : 0 < q) (hq2 : q < 2 ^ 16) (hl : len < 100) : fn_l_tails K A [iW q, iW len] = .ok (.frz (.tup [tailD q len, .int ((q ^ len : Nat) : Int)])) [] := by
  obtain ⟨y1, e1⟩ := miss_loop (K := K) (A := A) q hq hq2 (len : Int) len 0 0 none (by omega)
  obtain ⟨y2, e2⟩ := full_loop (K := K) (A := A) q hq2 (len : Int) (oI (pws q len)) len 0 1 0 y1 (bitN (n := 1) (a := 1) (by decide)) (by omega)
  obtain ⟨y3, c3, e3⟩ := tl_loop (K := K) (A := A) q len hq hq2 hl ((q ^ len : Nat) : Int) y2 (len + 1) 0 none (by omega)
  rw [Nat.zero_add] at e1
  rw [Int.one_mul, ← Int.natCast_pow] at e2
  rw [if_pos (Nat.succ_pos len), cc_zero] at e3
  have r1 : SzR ((len : Nat) : Int) := ⟨by omega, by omega⟩
  have r2 : SzR (((len : Nat) : Int) + 1) := ⟨by omega, by omega⟩
  have n1 : (((len : Nat) : Int)).toNat = len := by omega
  have n2 : (((len : Nat) : Int) + 1).toNat = len + 1 := by omega
  have z1 : ((0 : Nat) : Int) = 0 := rfl
  have z2 : ((1 : Nat) : Int) = 1 := rfl
  rw [z1, z2] at e3
  have f1 : frs (((tls q len (len + 1)).map D.int).map W.frz) = some ((tls q len (len + 1)).map D.int) := e_frs_frz _
  have u0 : oI (pws q 0) = .olst [.frz (.int 1)] := rfl
  have u1 : oI (tls q len 0) = .olst [.frz (.int 0)] := rfl
  rw [u0] at e1
  rw [u1] at e3
  unfold tailD
  unfold oI at *
  generalize (tls q len (len + 1)).map D.int = dt at *
  generalize ((pws q len).map D.int).map W.frz = ps at *
  generalize ((q ^ len : Nat) : Int) = fu at *
  generalize hll : ((len : Nat) : Int) = ll at *
  generalize ((q : Nat) : Int) = qq at *
  refine run_ret (m := m_l_tails K A) (L0 := [some (iW qq), some (iW ll), none, none, none, none, none, none]) (L := [some (iW qq), some (iW ll), some (.olst ps), y2, some (iW fu), some (.frz (.lst dt)), c3, y3]) ?_
  simp [m_l_tails, r1, r2, n1, n2, e1, e2, e3, f1]
end
/-! ### the least number of hits -/
/-- the first at which the tail is not above the level -/
def leastN (q len : Nat) (a b : Int) : Nat → Nat → Nat
  | 0, lo => lo
  | n + 1, lo => if tailI q len lo * b ≤ a * ((q ^ len : Nat) : Int) then lo else leastN q len a b n (lo + 1)
theorem leastN_le (q len : Nat) (a b : Int) : ∀ n lo, leastN q len a b n lo ≤ lo + n
  | 0, lo => Nat.le_refl _
  | n + 1, lo => by
    rw [leastN]
    split
    · omega
    · have := leastN_le q len a b n (lo + 1)
      omega
section
variable {K : PySem.W.Frag} {A : Ad}
theorem tailI_bit (q len : Nat) (hq2 : q < 2 ^ 16) (hl : len < 100) : ∀ n lo, lo + n ≤ len + 1 → Bit (3000 + n) (terms q len n lo).sum
  | 0, lo, _ => by
    show (0 : Int).natAbs < 2 ^ (3000 + 0)
    exact Nat.two_pow_pos _
  | n + 1, lo, h => by
    have ih := tailI_bit q len hq2 hl n (lo + 1) (by omega)
    have b1 : Bit 400 ((cc (len - lo) lo : Nat) : Int) := bitN (Nat.lt_of_le_of_lt (cc_le _ _) (Nat.pow_lt_pow_right (by decide) (by omega)))
    have b2 : Bit (16 * (len - lo) + 1) (((q - 1 : Nat) : Int) ^ (len - lo)) := Bit.pow (bitN (show q - 1 < 2 ^ 16 by omega)) _
    have b3 : Bit (3000 + n) (term q len lo) := (b1.mul b2).mono (by omega)
    rw [terms, List.sum_cons]
    unfold Bit at *
    have := Int.natAbs_add_le (term q len lo) (terms q len n (lo + 1)).sum
    have e : 2 ^ (3000 + (n + 1)) = 2 ^ (3000 + n) * 2 := Nat.pow_succ 2 (3000 + n)
    rw [e]
    omega
theorem tail_bit (q len k : Nat) (hq2 : q < 2 ^ 16) (hl : len < 100) (hk : k ≤ len + 1) : Bit 4000 (tailI q len k) := (tailI_bit q len hq2 hl _ _ (by omega)).mono (by omega)
theorem tailN_lt (q len k : Nat) (hq2 : q < 2 ^ 16) (hl : len < 100) (hk : k ≤ len + 1) : tailN q len k < 2 ^ 4000 := by
  have h := tail_bit q len k hq2 hl hk
  rw [← tailN_eq] at h
  exact h
theorem full_lt (q len : Nat) (hq2 : q < 2 ^ 16) (hl : len < 100) : q ^ len < 2 ^ 4000 := Nat.lt_of_lt_of_le (pow_lt (k := 1600) hq2 (by omega)) (Nat.pow_le_pow_right (by decide) (by decide))
theorem least_loop (q len : Nat) (hq2 : q < 2 ^ 16) (hl : len < 100) (a b : Int) (ha : Bit 4000 a) (hb : Bit 4000 b) (n : Nat) : ∀ (lo : Nat) (y : Option W), lo + n = len + 2 →
    (∃ y', forL (gNm fl_l_least 3) (m_l_least_b1 K A) (intsW (lo : Nat) n) [some (.frz (tailD q len)), some (iW ((q ^ len : Nat) : Int)), some (.frz (.tup [.int a, .int b])), y] = .next [some (.frz (tailD q len)), some (iW ((q ^ len : Nat) : Int)), some (.frz (.tup [.int a, .int b])), y'] ∧ leastN q len a b n lo = len + 2) ∨
    (∃ L, forL (gNm fl_l_least 3) (m_l_least_b1 K A) (intsW (lo : Nat) n) [some (.frz (tailD q len)), some (iW ((q ^ len : Nat) : Int)), some (.frz (.tup [.int a, .int b])), y] = .ret (iW (leastN q len a b n lo : Nat)) L ∧ outs fl_l_least L = some []) := by
  induction n with
  | zero => exact fun lo y h => .inl ⟨y, by rw [intsW_zero]; rfl, by rw [leastN]; exact h⟩
  | succ n ih =>
    intro lo y h
    have ix : ∀ L : Lc, kR ixW (some (.frz (tailD q len))) (some (.frz (.int (lo : Nat)))) L = .ok (.val (.frz (.int (tailI q len lo)))) L := fun L => kR_of (ixf_nat (by rw [List.getElem?_map, tails_get q len lo (by omega)]; rfl))
    have m1 := (tail_bit q len lo hq2 hl (by omega)).szM hb (by decide)
    have m2 := ha.szM (bitN (full_lt q len hq2 hl)) (by decide)
    have e1 : ((lo : Nat) : Int) + 1 = ((lo + 1 : Nat) : Int) := by omega
    by_cases c : tailI q len lo * b ≤ a * ((q ^ len : Nat) : Int)
    · refine .inr ⟨[some (.frz (tailD q len)), some (iW ((q ^ len : Nat) : Int)), some (.frz (.tup [.int a, .int b])), some (iW (lo : Nat))], ?_, rfl⟩
      rw [leastN, if_pos c, intsW_succ]
      generalize ((q ^ len : Nat) : Int) = fu at *
      generalize tailI q len lo = t at *
      generalize ((lo : Nat) : Int) = ll at *
      simp [forL, m_l_least_b1, ix, m1, m2, c]
    · have st : forL (gNm fl_l_least 3) (m_l_least_b1 K A) (intsW (lo : Nat) (n + 1)) [some (.frz (tailD q len)), some (iW ((q ^ len : Nat) : Int)), some (.frz (.tup [.int a, .int b])), y] =
          forL (gNm fl_l_least 3) (m_l_least_b1 K A) (intsW ((lo + 1 : Nat) : Int) n) [some (.frz (tailD q len)), some (iW ((q ^ len : Nat) : Int)), some (.frz (.tup [.int a, .int b])), some (iW (lo : Nat))] := by
        rw [intsW_succ, e1]
        generalize ((q ^ len : Nat) : Int) = fu at *
        generalize tailI q len lo = t at *
        generalize ((lo + 1 : Nat) : Int) = l1 at *
        generalize ((lo : Nat) : Int) = ll at *
        simp [forL, m_l_least_b1, ix, m1, m2, c]
      rw [st, leastN, if_neg c]
      exact ih (lo + 1) _ (by omega)
theorem leastN_end (q len : Nat) (a b : Int) (ha : 0 ≤ a) : ∀ n lo, lo + n = len + 2 → 0 < n → leastN q len a b n lo ≤ len + 1
  | n + 1, lo, h, _ => by
    rw [leastN]
    split
    · omega
    · rename_i c
      by_cases hn : n = 0
      · exfalso
        subst hn
        apply c
        rw [show lo = len + 1 by omega, tail_end, Int.zero_mul]
        exact Int.mul_nonneg ha (Int.natCast_nonneg _)
      · exact leastN_end q len a b ha n (lo + 1) (by omega) (by omega)
theorem least_is (q len : Nat) (hq2 : q < 2 ^ 16) (hl : len < 100) (a b : Int) (ha0 : 0 ≤ a) (ha : Bit 4000 a) (hb : Bit 4000 b) :
    fn_l_least K A [.frz (tailD q len), iW ((q ^ len : Nat) : Int), .frz (.tup [.int a, .int b])] = .ok (iW (leastN q len a b (len + 2) 0 : Nat)) [] := by
  have hlen : lenD (tailD q len) = some (.int ((len + 2 : Nat) : Int)) := by
    show some (D.int (((tls q len (len + 1)).map D.int).length : Nat)) = _
    rw [List.length_map, tls_len]
  have r1 : SzR ((len + 2 : Nat) : Int) := ⟨by omega, by omega⟩
  have n1 : ((len + 2 : Nat) : Int).toNat = len + 2 := by omega
  rcases least_loop (K := K) (A := A) q len hq2 hl a b ha hb (len + 2) 0 none (by omega) with ⟨y', _, e⟩ | ⟨L, e, ho⟩
  · have := leastN_end q len a b ha0 (len + 2) 0 (by omega) (by omega)
    omega
  · have z1 : ((0 : Nat) : Int) = 0 := rfl
    rw [z1] at e
    generalize ((leastN q len a b (len + 2) 0 : Nat) : Int) = r at *
    generalize ((q ^ len : Nat) : Int) = fu at *
    generalize tailD q len = td at *
    generalize ((len + 2 : Nat) : Int) = l2 at *
    refine run_ret (m := m_l_least K A) (L0 := [some (.frz td), some (iW fu), some (.frz (.tup [.int a, .int b])), none]) (L := L) ?_ rfl ho
    simp [m_l_least, hlen, r1, n1, e]
end
end L

set_option exponentiation.threshold 20000
namespace L
open PySem PySem.Spec PyProof.Rows L2 BV
theorem leastN_last (q len : Nat) (a b : Int) (ha : 0 ≤ a) : ∀ n lo, lo + n = len + 1 → leastN q len a b (n + 1) lo = leastN q len a b n lo
  | 0, lo, h => by
    rw [leastN, leastN, if_pos]
    rw [show lo = len + 1 by omega, tail_end, Int.zero_mul]
    exact Int.mul_nonneg ha (Int.natCast_nonneg _)
  | n + 1, lo, h => by
    have e1 : leastN q len a b (n + 1 + 1) lo = if tailI q len lo * b ≤ a * ((q ^ len : Nat) : Int) then lo else leastN q len a b (n + 1) (lo + 1) := by rw [leastN]
    have e2 : leastN q len a b (n + 1) lo = if tailI q len lo * b ≤ a * ((q ^ len : Nat) : Int) then lo else leastN q len a b n (lo + 1) := by rw [leastN]
    rw [e1, e2]
    split
    · rfl
    · exact leastN_last q len a b ha n (lo + 1) (by omega)
/-- the comparison of reduced fractions is that of the raw ones -/
theorem below_iff {T F a b a' b' : Nat} (hF : 0 < F) (hb : 0 < b) (hb' : 0 < b') (h : a' * b = a * b') :
    (((a' : Nat) : Int) * ((F / Nat.gcd T F : Nat) : Int) < ((T / Nat.gcd T F : Nat) : Int) * ((b' : Nat) : Int)) ↔ ¬ ((T : Nat) : Int) * ((b : Nat) : Int) ≤ ((a : Nat) : Int) * ((F : Nat) : Int) := by
  have hg : 0 < Nat.gcd T F := Nat.gcd_pos_of_pos_right _ hF
  have e1 : T = Nat.gcd T F * (T / Nat.gcd T F) := (Nat.mul_div_cancel' (Nat.gcd_dvd_left T F)).symm
  have e2 : F = Nat.gcd T F * (F / Nat.gcd T F) := (Nat.mul_div_cancel' (Nat.gcd_dvd_right T F)).symm
  generalize Nat.gcd T F = g at *
  generalize T / g = t at *
  generalize F / g = f at *
  subst e1 e2
  rw [← Int.natCast_mul, ← Int.natCast_mul, ← Int.natCast_mul, ← Int.natCast_mul, Int.ofNat_lt, Int.ofNat_le, Nat.not_le]
  -- a' f < t b'  <->  a (g f) < (g t) b
  have k1 : (g * b) * (a' * f) = (a * (g * f)) * b' := by
    calc (g * b) * (a' * f) = (a' * b) * (g * f) := by rw [Nat.mul_comm g b, Nat.mul_mul_mul_comm, Nat.mul_comm b a']
      _ = (a * b') * (g * f) := by rw [h]
      _ = (a * (g * f)) * b' := by rw [Nat.mul_assoc, Nat.mul_comm b', ← Nat.mul_assoc]
  have k2 : (g * b) * (t * b') = (g * t * b) * b' := by
    calc (g * b) * (t * b') = g * (b * (t * b')) := Nat.mul_assoc _ _ _
      _ = g * (t * (b * b')) := by rw [Nat.mul_left_comm b t b']
      _ = (g * t * b) * b' := by rw [Nat.mul_assoc, Nat.mul_assoc]
  have hgb : 0 < g * b := Nat.mul_pos hg hb
  constructor
  · intro lt
    have := Nat.mul_lt_mul_of_pos_left lt hgb
    rw [k1, k2] at this
    exact Nat.lt_of_mul_lt_mul_right this
  · intro lt
    have := Nat.mul_lt_mul_of_pos_right lt hb'
    rw [← k1, ← k2] at this
    exact Nat.lt_of_mul_lt_mul_left this
section
variable {K : PySem.W.Frag} {A : Ad}
theorem hleast_loop (q len : Nat) (hq : 0 < q) (hq2 : q < 2 ^ 16) (hl : len < 100) (a b a' b' : Nat) (hb : 0 < b) (hb' : 0 < b') (hr : a' * b = a * b') (ba : a' < 2 ^ 4000) (bb : b' < 2 ^ 4000) (n : Nat) : ∀ (lo : Nat) (y : Option W), lo + n = len + 1 →
    (∃ y', forL (gNm fl_hit_least 3) (m_hit_least_b1 K A) (intsW (lo : Nat) n) [some (iW q), some (iW len), some (.frz (sh A.Share a' b')), y] = .next [some (iW q), some (iW len), some (.frz (sh A.Share a' b')), y'] ∧ leastN q len a b n lo = len + 1) ∨
    (∃ L, forL (gNm fl_hit_least 3) (m_hit_least_b1 K A) (intsW (lo : Nat) n) [some (iW q), some (iW len), some (.frz (sh A.Share a' b')), y] = .ret (iW (leastN q len a b n lo : Nat)) L ∧ outs fl_hit_least L = some []) := by
  induction n with
  | zero => exact fun lo y h => .inl ⟨y, by rw [intsW_zero]; rfl, by rw [leastN]; exact h⟩
  | succ n ih =>
    intro lo y h
    have ht := hit_tail_is (K := K) (A := A) q len lo hq hq2 hl (by omega)
    have iff := below_iff (T := tailN q len lo) (F := q ^ len) (a := a) (b := b) (a' := a') (b' := b') (Nat.pow_pos hq) hb hb' hr
    have tl : tailN q len lo / Nat.gcd (tailN q len lo) (q ^ len) < 2 ^ 4000 := Nat.lt_of_le_of_lt (Nat.div_le_self _ _) (tailN_lt q len lo hq2 hl (by omega))
    have fl : q ^ len / Nat.gcd (tailN q len lo) (q ^ len) < 2 ^ 4000 := Nat.lt_of_le_of_lt (Nat.div_le_self _ _) (full_lt q len hq2 hl)
    have m1 : SzM ((a' : Nat) : Int) ((q ^ len / Nat.gcd (tailN q len lo) (q ^ len) : Nat) : Int) := (bitN ba).szM (bitN fl) (by decide)
    have m2 : SzM ((tailN q len lo / Nat.gcd (tailN q len lo) (q ^ len) : Nat) : Int) ((b' : Nat) : Int) := (bitN tl).szM (bitN bb) (by decide)
    have hbl := below_is (K := K) (A := A) _ _ _ _ m1 m2
    rw [tailN_eq] at iff
    have hfr := shO_fr (C := A.Share) (o := ((tailN q len lo / Nat.gcd (tailN q len lo) (q ^ len) : Nat) : Int)) (u := ((q ^ len / Nat.gcd (tailN q len lo) (q ^ len) : Nat) : Int))
    have e1 : ((lo : Nat) : Int) + 1 = ((lo + 1 : Nat) : Int) := by omega
    have hme := fun (fn : Fn) (r : R) (mr : M (List R)) (L : Lc) => methR_of (L := L) (fl := fl_Share_is_below) (fn := fn) (r := r) (mr := mr) (sh_cls (C := A.Share) (o := ((a' : Nat) : Int)) (u := ((b' : Nat) : Int))) (sh_no (m := "is_below") (by decide +kernel) (by decide +kernel))
    generalize ((q ^ len / Nat.gcd (tailN q len lo) (q ^ len) : Nat) : Int) = f1 at *
    generalize ((tailN q len lo / Nat.gcd (tailN q len lo) (q ^ len) : Nat) : Int) = t1 at *
    generalize ((a' : Nat) : Int) = a1 at *
    generalize ((b' : Nat) : Int) = b1 at *
    generalize hq1 : ((q : Nat) : Int) = q1 at *
    generalize hl1 : ((len : Nat) : Int) = l1 at *
    by_cases c : tailI q len lo * b ≤ a * ((q ^ len : Nat) : Int)
    · refine .inr ⟨[some (iW q1), some (iW l1), some (.frz (sh A.Share a1 b1)), some (iW (lo : Nat))], ?_, rfl⟩
      rw [leastN, if_pos c, intsW_succ]
      have c2 : ¬ a1 * f1 < t1 * b1 := fun z => (iff.mp z) c
      rw [decide_eq_false c2] at hbl
      generalize shO A.Share t1 f1 = so at *
      generalize sh A.Share t1 f1 = sd at *
      generalize sh A.Share a1 b1 = sl at *
      generalize ((lo : Nat) : Int) = ll at *
      simp [forL, m_hit_least_b1, hme, ht, hfr, hbl]
    · have c2 : a1 * f1 < t1 * b1 := iff.mpr c
      have st : forL (gNm fl_hit_least 3) (m_hit_least_b1 K A) (intsW (lo : Nat) (n + 1)) [some (iW q1), some (iW l1), some (.frz (sh A.Share a1 b1)), y] =
          forL (gNm fl_hit_least 3) (m_hit_least_b1 K A) (intsW ((lo + 1 : Nat) : Int) n) [some (iW q1), some (iW l1), some (.frz (sh A.Share a1 b1)), some (iW (lo : Nat))] := by
        rw [intsW_succ, e1]
        rw [decide_eq_true c2] at hbl
        generalize shO A.Share t1 f1 = so at *
        generalize sh A.Share t1 f1 = sd at *
        generalize sh A.Share a1 b1 = sl at *
        generalize ((lo + 1 : Nat) : Int) = lp at *
        generalize ((lo : Nat) : Int) = ll at *
        simp [forL, m_hit_least_b1, hme, ht, hfr, hbl]
      rw [st, leastN, if_neg c]
      exact ih (lo + 1) _ (by omega)
theorem hit_least_is (q len : Nat) (hq : 0 < q) (hq2 : q < 2 ^ 16) (hl : len < 100) (a b a' b' : Nat) (hb : 0 < b) (hb' : 0 < b') (hr : a' * b = a * b') (ba : a' < 2 ^ 4000) (bb : b' < 2 ^ 4000) :
    fn_hit_least K A [iW q, iW len, .frz (sh A.Share a' b')] = .ok (iW (leastN q len a b (len + 2) 0 : Nat)) [] := by
  rw [leastN_last q len a b (Int.natCast_nonneg a) (len + 1) 0 (by omega)]
  have r1 : SzR (((len : Nat) : Int) + 1) := ⟨by omega, by omega⟩
  have n1 : (((len : Nat) : Int) + 1).toNat = len + 1 := by omega
  have z1 : ((0 : Nat) : Int) = 0 := rfl
  rcases hleast_loop (K := K) (A := A) q len hq hq2 hl a b a' b' hb hb' hr ba bb (len + 1) 0 none (by omega) with ⟨y', e, e2⟩ | ⟨L, e, ho⟩
  · rw [e2]
    rw [z1] at e
    have e1 : ((len + 1 : Nat) : Int) = ((len : Nat) : Int) + 1 := by omega
    rw [e1]
    generalize sh A.Share a' b' = sl at *
    generalize ((q : Nat) : Int) = q1 at *
    generalize ((len : Nat) : Int) = l1 at *
    refine run_ret (m := m_hit_least K A) (L0 := [some (iW q1), some (iW l1), some (.frz sl), none]) (L := [some (iW q1), some (iW l1), some (.frz sl), y']) ?_
    simp [m_hit_least, r1, n1, e]
  · rw [z1] at e
    generalize ((leastN q len a b (len + 1) 0 : Nat) : Int) = r at *
    generalize sh A.Share a' b' = sl at *
    generalize ((q : Nat) : Int) = q1 at *
    generalize ((len : Nat) : Int) = l1 at *
    refine run_ret (m := m_hit_least K A) (L0 := [some (iW q1), some (iW l1), some (.frz sl), none]) (L := L) ?_ rfl ho
    simp [m_hit_least, r1, n1, e]
theorem fits_is (q len r : Nat) (hq : 0 < q) (hr : r ≤ len + 1) : fn_l_least_fits K A [iW q, iW len, iW r, iW r] = .ok (.frz (.bl true)) [] := by
  have w := fun i => whole_is (K := K) (A := A) i
  have h1 : (0 : Int) ≤ ((r : Nat) : Int) := by omega
  have h2 : ((r : Nat) : Int) ≤ ((len : Nat) : Int) + 1 := by omega
  have h3 : (0 : Int) < ((q : Nat) : Int) := by omega
  generalize ((q : Nat) : Int) = q1 at *
  generalize ((len : Nat) : Int) = l1 at *
  generalize ((r : Nat) : Int) = r1 at *
  refine run_ret (m := m_l_least_fits K A) (L0 := [some (iW q1), some (iW l1), some (iW r1), some (iW r1)]) (L := [some (iW q1), some (iW l1), some (iW r1), some (iW r1)]) ?_
  have hc : mChain cLe cLe (mC (.int 0)) (mVar 2) (mOp aAddU (mVar 1) (mC (.int 1))) [some (iW q1), some (iW l1), some (iW r1), some (iW r1)] = .ok (bR true) [some (iW q1), some (iW l1), some (iW r1), some (iW r1)] := by
    unfold mChain
    simp [h1, h2]
  simp [m_l_least_fits, w, hc, h3]
end
end L

set_option exponentiation.threshold 20000
namespace L
open PySem PySem.Spec PyProof.Rows L2 BV
section
variable {K : PySem.W.Frag} {A : Ad}
theorem red_ratio (T F : Nat) (hF : 0 < F) : (T / Nat.gcd T F) * F = T * (F / Nat.gcd T F) := by
  have e1 : T = Nat.gcd T F * (T / Nat.gcd T F) := (Nat.mul_div_cancel' (Nat.gcd_dvd_left T F)).symm
  have e2 : F = Nat.gcd T F * (F / Nat.gcd T F) := (Nat.mul_div_cancel' (Nat.gcd_dvd_right T F)).symm
  generalize Nat.gcd T F = g at *
  generalize T / g = t at *
  generalize F / g = f at *
  subst e1 e2
  rw [Nat.mul_left_comm, Nat.mul_assoc]
theorem red_pos (T F : Nat) (hF : 0 < F) : 0 < F / Nat.gcd T F := Nat.div_pos (Nat.gcd_le_right _ hF) (Nat.gcd_pos_of_pos_right _ hF)
theorem tails_turn (q len lo : Nat) (hq : 0 < q) (hq2 : q < 2 ^ 16) (hl : len < 100) (hlo : lo ≤ len + 1) (s2 s5 s6 : Option W) :
    ∃ s5' s6', turnF (gNm fl_l_tails_fit 2) (m_l_tails_fit_b1 K A) (iW (lo : Nat)) [some (iW q), some (iW len), s2, some (.frz (tailD q len)), some (iW ((q ^ len : Nat) : Int)), s5, s6] =
      .next [some (iW q), some (iW len), some (iW (lo : Nat)), some (.frz (tailD q len)), some (iW ((q ^ len : Nat) : Int)), s5', s6'] := by
  have hF : 0 < q ^ len := Nat.pow_pos hq
  have ht := hit_tail_is (K := K) (A := A) q len lo hq hq2 hl hlo
  have bT := tailN_lt q len lo hq2 hl hlo
  have bF := full_lt q len hq2 hl
  have hsh := share_is (K := K) (A := A) (tailN q len lo) (q ^ len) (tailN q len lo) (q ^ len) hF hF (Nat.lt_of_lt_of_le bF (Nat.pow_le_pow_right (by decide) (by decide))) rfl
  have hls := least_is (K := K) (A := A) q len hq2 hl ((tailN q len lo : Nat) : Int) ((q ^ len : Nat) : Int) (Int.natCast_nonneg _) (bitN bT) (bitN bF)
  have hhl := hit_least_is (K := K) (A := A) q len hq hq2 hl (tailN q len lo) (q ^ len) _ _ hF (red_pos (tailN q len lo) (q ^ len) hF) (red_ratio (tailN q len lo) (q ^ len) hF) (Nat.lt_of_le_of_lt (Nat.div_le_self _ _) bT) (Nat.lt_of_le_of_lt (Nat.div_le_self _ _) bF)
  have hft := fits_is (K := K) (A := A) q len (leastN q len ((tailN q len lo : Nat) : Int) ((q ^ len : Nat) : Int) (len + 2) 0) hq (leastN_end q len _ _ (Int.natCast_nonneg _) (len + 2) 0 (by omega) (by omega))
  have ix : ∀ L : Lc, kR ixW (some (.frz (tailD q len))) (some (.frz (.int (lo : Nat)))) L = .ok (.val (.frz (.int ((tailN q len lo : Nat) : Int)))) L := fun L => kR_of (ixf_nat (by rw [List.getElem?_map, tails_get q len lo hlo, tailN_eq]; rfl))
  have hfr := shO_fr (C := A.Share) (o := ((tailN q len lo / Nat.gcd (tailN q len lo) (q ^ len) : Nat) : Int)) (u := ((q ^ len / Nat.gcd (tailN q len lo) (q ^ len) : Nat) : Int))
  have hmm : A.Share ∈ [A.Share] := List.mem_singleton.mpr rfl
  have r1 := fun (o u : Int) (L : Lc) => fldR_of (L := L) (cs := [A.Share]) (sh_cls (C := A.Share) (o := o) (u := u)) hmm sh_over
  have lk : ∀ L : Lc, look 5 (some (some (shO A.Share ((tailN q len lo / Nat.gcd (tailN q len lo) (q ^ len) : Nat) : Int) ((q ^ len / Nat.gcd (tailN q len lo) (q ^ len) : Nat) : Int)))) L = .ok (.al 5) L := fun L => rfl
  generalize ((leastN q len ((tailN q len lo : Nat) : Int) ((q ^ len : Nat) : Int) (len + 2) 0 : Nat) : Int) = ls at *
  generalize ((tailN q len lo / Nat.gcd (tailN q len lo) (q ^ len) : Nat) : Int) = t1 at *
  generalize ((q ^ len / Nat.gcd (tailN q len lo) (q ^ len) : Nat) : Int) = f1 at *
  generalize ((tailN q len lo : Nat) : Int) = tn at *
  generalize ((q ^ len : Nat) : Int) = fu at *
  generalize tailD q len = td at *
  generalize ((q : Nat) : Int) = q1 at *
  generalize ((len : Nat) : Int) = l1 at *
  generalize ((lo : Nat) : Int) = lo1 at *
  have ro := fun L => r1 t1 f1 L
  generalize shO A.Share t1 f1 = so at *
  generalize sh A.Share t1 f1 = sd at *
  rw [turn_is]
  by_cases c : 0 < t1
  · exact ⟨some (.frz sd), some (iW ls), by simp [m_l_tails_fit_b1, ht, lk, hfr, hsh, ix, hls, hhl, hft, ro, c]⟩
  · exact ⟨some (.frz sd), s6, by simp [m_l_tails_fit_b1, ht, lk, hfr, hsh, ix, ro, c]⟩
theorem tails_fit_is (q len : Nat) (hq : 0 < q) (hq2 : q < 2 ^ 16) (hl : len < 100) : fn_l_tails_fit K A [iW q, iW len] = .ok (.frz (.bl true)) [] := by
  have ht := tails_is (K := K) (A := A) q len hq hq2 hl
  obtain ⟨L', e, s2, s5, s6, rfl⟩ := for_all (g := gNm fl_l_tails_fit 2) (body := m_l_tails_fit_b1 K A) (ws := intsW 0 (len + 2)) (L := [some (iW q), some (iW len), none, some (.frz (tailD q len)), some (iW ((q ^ len : Nat) : Int)), none, none])
    (fun i L => ∃ s2 s5 s6, L = [some (iW q), some (iW len), s2, some (.frz (tailD q len)), some (iW ((q ^ len : Nat) : Int)), s5, s6])
    (fun i w L hw ⟨s2, s5, s6, e⟩ => by
      obtain ⟨hi, rfl⟩ := intsW_get hw
      rw [Int.zero_add, e]
      obtain ⟨s5', s6', e2⟩ := tails_turn (K := K) (A := A) q len i hq hq2 hl (by omega) s2 s5 s6
      exact ⟨_, e2, _, _, _, rfl⟩) ⟨none, none, none, rfl⟩
  have r1 : SzR (((len : Nat) : Int) + 2) := ⟨by omega, by omega⟩
  have n1 : (((len : Nat) : Int) + 2).toNat = len + 2 := by omega
  generalize ((q ^ len : Nat) : Int) = fu at *
  generalize tailD q len = td at *
  generalize ((q : Nat) : Int) = q1 at *
  generalize ((len : Nat) : Int) = l1 at *
  refine run_ret (m := m_l_tails_fit K A) (L0 := [some (iW q1), some (iW l1), none, none, none, none, none]) (L := [some (iW q1), some (iW l1), s2, some (.frz td), some (iW fu), s5, s6]) ?_
  simp [m_l_tails_fit, ht, r1, n1, e]
end
end L

set_option exponentiation.threshold 20000
namespace L
open PySem PySem.Spec PyProof.Rows L2 BV
/-- the stream's state -/
abbrev st (a b c : Int) : W := .olst [.frz (.int a), .frz (.int b), .frz (.int c)]
/-- a good state, with n draws left -/
def Ok (n : Nat) (a b c : Int) : Prop := 0 ≤ a ∧ 0 ≤ b ∧ b < 2147483648 ∧ 0 ≤ c ∧ c + n ≤ 1000000000
theorem Ok.mono {n m : Nat} {a b c : Int} (h : Ok n a b c) (k : m ≤ n) : Ok m a b c := ⟨h.1, h.2.1, h.2.2.1, h.2.2.2.1, by have := h.2.2.2.2; omega⟩
theorem ix30 : ixN 3 0 = some 0 := ixN_nat (i := 0) (by decide)
theorem ix31 : ixN 3 1 = some 1 := ixN_nat (i := 1) (by decide)
theorem ix32 : ixN 3 2 = some 2 := ixN_nat (i := 2) (by decide)
theorem st0 (a b c : Int) (L : Lc) : kR ixW (some (st a b c)) (some (.frz (.int 0))) L = .ok (.val (.frz (.int a))) L := kR_of (ixl_nat (ds := [.int a, .int b, .int c]) (i := 0) rfl)
theorem st1 (a b c : Int) (L : Lc) : kR ixW (some (st a b c)) (some (.frz (.int 1))) L = .ok (.val (.frz (.int b))) L := kR_of (ixl_nat (ds := [.int a, .int b, .int c]) (i := 1) rfl)
theorem st2 (a b c : Int) (L : Lc) : kR ixW (some (st a b c)) (some (.frz (.int 2))) L = .ok (.val (.frz (.int c))) L := kR_of (ixl_nat (ds := [.int a, .int b, .int c]) (i := 2) rfl)
theorem fmod_rg (a : Int) {m : Int} (h : 0 < m) : 0 ≤ a.fmod m ∧ a.fmod m < m := ⟨Int.fmod_nonneg_of_pos a h, Int.fmod_lt_of_pos a h⟩
theorem fdiv_nn {a m : Int} (ha : 0 ≤ a) (h : 0 < m) : 0 ≤ a.fdiv m := by
  rw [Int.fdiv_eq_ediv_of_nonneg _ (Int.le_of_lt h)]
  exact Int.ediv_nonneg ha (Int.le_of_lt h)
section
variable {K : PySem.W.Frag} {A : Ad}
theorem draw_is {n : Nat} {a b c many : Int} (h : Ok (n + 1) a b c) (hm : 0 < many) (hb : Bit 8000 many) :
    ∃ a' b' c' r, fn_l_draw K A [st a b c, iW many] = .ok (iW r) [st a' b' c'] ∧ 0 ≤ r ∧ r < many ∧ Ok n a' b' c' := by
  obtain ⟨h1, h2, h3, h4, h5⟩ := h
  have hz : many ≠ 0 := by omega
  have hd : SzD many := hb.szD hz (by decide)
  by_cases ca : 0 < a
  · refine ⟨a.fdiv many, b, c, a.fmod many, ?_, (fmod_rg a hm).1, (fmod_rg a hm).2, fdiv_nn h1 hm, h2, h3, h4, by omega⟩
    refine run_ret (m := m_l_draw K A) (L0 := [some (st a b c), some (iW many), none, none]) (L := [some (st (a.fdiv many) b c), some (iW many), none, some (iW (a.fmod many))]) ?_
    simp [m_l_draw, st0, ca, hz, hd, ix30]
  · have m1 : SzM b 48271 := (Bit.of (n := 31) h2 (by omega)).szM (Bit.of (n := 31) (by decide) (by decide)) (by decide)
    have m2 : SzM (c + 1) 69621 := (Bit.of (n := 31) (by omega) (by omega)).szM (Bit.of (n := 31) (by decide) (by decide)) (by decide)
    have rb := fmod_rg (b * 48271 + (c + 1) * 69621 + 7) (m := 2147483647) (by decide)
    have m3 : SzM ((b * 48271 + (c + 1) * 69621 + 7).fmod 2147483647) 40692 := (Bit.of (n := 31) rb.1 (by omega)).szM (Bit.of (n := 31) (by decide) (by decide)) (by decide)
    refine ⟨a, (b * 48271 + (c + 1) * 69621 + 7).fmod 2147483647, c + 1, (((b * 48271 + (c + 1) * 69621 + 7).fmod 2147483647 * 40692 + (c + 1)).fmod 2147483399).fmod many, ?_, (fmod_rg _ hm).1, (fmod_rg _ hm).2, h1, rb.1, by omega, by omega, by omega⟩
    generalize hbb : (b * 48271 + (c + 1) * 69621 + 7).fmod 2147483647 = bb at *
    generalize hss : (bb * 40692 + (c + 1)).fmod 2147483399 = ss at *
    refine run_ret (m := m_l_draw K A) (L0 := [some (st a b c), some (iW many), none, none]) (L := [some (st a bb (c + 1)), some (iW many), some (iW ss), none]) ?_
    simp [m_l_draw, st0, st1, st2, ca, hz, ix31, ix32, m1, m2, m3, hbb, hss]
theorem stream_is (ns : List Int) (at_ : Nat) (h : at_ < 100) (hl : ns.length ≤ 63) : ∃ a b c, fn_l_stream K A [.frz (.lok (ns.map D.int)), iW at_] = .ok (st a b c) [] ∧ Ok 900000000 a b c := by
  have len : lenD (.lok (ns.map D.int)) = some (.int ((ns.length : Nat) : Int)) := by
    show some (D.int (((ns.map D.int).length : Nat) : Int)) = _
    rw [List.length_map]
  have m0 : SzM 3 ((at_ : Nat) : Int) := (Bit.of (n := 31) (by decide) (by decide)).szM (bitN (n := 31) (by omega)) (by decide)
  have hp : SzP 10 18 := ⟨by decide, by decide, by decide⟩
  -- the cell
  have key : ∀ (cell : Int), ∃ a b c, ((sSeq (sIf (mBl (mOp cLt (mVar 2) (mC (.int 0)))) (sSet fl_l_stream 2 (mOp aSub (mC (.int 1)) (mVar 2))) sNil)
      (sSeq (sIf (mBl (mOp cGe (mVar 2) (mOp aPow (mC (.int 10)) (mC (.int 18)))))
      (sRet (mLst (mCons (mVar 2) (mCons (mOp aMod (mCallB (f1 intD) (mCons (mVar 2) mNil)) (mC (.int 2147483647))) (mCons (mC (.int 0)) mNil)))))
      sNil)
      (sRet (mLst (mCons (mC (.int 0)) (mCons (mOp aMod (mCallB (f1 intD) (mCons (mVar 2) mNil)) (mC (.int 2147483647))) (mCons (mC (.int 0)) mNil))))))) 
        [some (.frz (.lok (ns.map D.int))), some (iW at_), some (iW cell)]) = .ret (st a b c) [some (.frz (.lok (ns.map D.int))), some (iW at_), some (iW (if cell < 0 then 1 - cell else cell))] ∧ Ok 900000000 a b c := fun cell => by
    generalize D.lok (ns.map D.int) = sc0
    generalize ((at_ : Nat) : Int) = a1
    have hr := fun z : Int => fmod_rg z (m := 2147483647) (by decide)
    have fin : ∀ z : Int, 0 ≤ z → ∃ a b c, ((sSeq (sIf (mBl (mOp cGe (mVar 2) (mOp aPow (mC (.int 10)) (mC (.int 18)))))
      (sRet (mLst (mCons (mVar 2) (mCons (mOp aMod (mCallB (f1 intD) (mCons (mVar 2) mNil)) (mC (.int 2147483647))) (mCons (mC (.int 0)) mNil)))))
      sNil)
      (sRet (mLst (mCons (mC (.int 0)) (mCons (mOp aMod (mCallB (f1 intD) (mCons (mVar 2) mNil)) (mC (.int 2147483647))) (mCons (mC (.int 0)) mNil)))))) 
        [some (.frz sc0), some (iW a1), some (iW z)]) = .ret (st a b c) [some (.frz sc0), some (iW a1), some (iW z)] ∧ Ok 900000000 a b c := fun z hz => by
      by_cases c18 : 1000000000000000000 ≤ z
      · refine ⟨z, z.fmod 2147483647, 0, ?_, hz, (hr z).1, by have := (hr z).2; omega, by decide, by decide⟩
        simp [hp, c18]
      · refine ⟨0, z.fmod 2147483647, 0, ?_, by decide, (hr z).1, by have := (hr z).2; omega, by decide, by decide⟩
        simp [hp, c18]
    by_cases cn : cell < 0
    · obtain ⟨a, b, c, e, o⟩ := fin (1 - cell) (by omega)
      refine ⟨a, b, c, ?_, o⟩
      rw [if_pos cn, e_seq]
      rw [show sIf (mBl (mOp cLt (mVar 2) (mC (.int 0)))) (sSet fl_l_stream 2 (mOp aSub (mC (.int 1)) (mVar 2))) sNil [some (.frz sc0), some (iW a1), some (iW cell)] = .next [some (.frz sc0), some (iW a1), some (iW (1 - cell))] by simp [cn]]
      exact e
    · obtain ⟨a, b, c, e, o⟩ := fin cell (by omega)
      refine ⟨a, b, c, ?_, o⟩
      rw [if_neg cn, e_seq]
      rw [show sIf (mBl (mOp cLt (mVar 2) (mC (.int 0)))) (sSet fl_l_stream 2 (mOp aSub (mC (.int 1)) (mVar 2))) sNil [some (.frz sc0), some (iW a1), some (iW cell)] = .next [some (.frz sc0), some (iW a1), some (iW cell)] by simp [cn]]
      exact e
  by_cases hn : ns.length = 0
  · obtain ⟨a, b, c, e, o⟩ := key (3 * at_ + 1)
    refine ⟨a, b, c, ?_, o⟩
    have hlt : ¬ (0 : Int) < ((ns.length : Nat) : Int) := by omega
    generalize D.lok (ns.map D.int) = sc0 at *
    generalize ((ns.length : Nat) : Int) = ln at *
    generalize ((at_ : Nat) : Int) = a1 at *
    refine run_ret (m := m_l_stream K A) (L0 := [some (.frz sc0), some (iW a1), none]) (L := [some (.frz sc0), some (iW a1), some (iW (if 3 * a1 + 1 < 0 then 1 - (3 * a1 + 1) else 3 * a1 + 1))]) ?_
    rw [m_l_stream, e_seq, show sSet fl_l_stream 2 (mOp aAddU (mOp aMul (mC (.int 3)) (mVar 1)) (mC (.int 1))) [some (.frz sc0), some (iW a1), none] = .next [some (.frz sc0), some (iW a1), some (iW (3 * a1 + 1))] by simp [m0], e_seq_n, e_seq]
    rw [show sIf (mBl (mOp cGt (mCallB (f1 lenD) (mCons (mVar 0) mNil)) (mC (.int 0))))
  (sSet fl_l_stream 2 (mOp aAddU (mCallB (f1 intD) (mCons (mOp (mkK ixW) (mVar 0) (mOp aMod (mVar 1) (mCallB (f1 lenD) (mCons (mVar 0) mNil)))) mNil)) (mOp aMul (mOp aDiv (mVar 1) (mCallB (f1 lenD) (mCons (mVar 0) mNil))) (mC (.int 104729)))))
  sNil [some (.frz sc0), some (iW a1), some (iW (3 * a1 + 1))] = .next [some (.frz sc0), some (iW a1), some (iW (3 * a1 + 1))] by simp [len, hlt], e_seq_n]
    exact e
  · have hlt : (0 : Int) < ((ns.length : Nat) : Int) := by omega
    have hne : ((ns.length : Nat) : Int) ≠ 0 := by omega
    obtain ⟨z, hz⟩ : ∃ z, ns[at_ % ns.length]? = some z := ⟨_, List.getElem?_eq_getElem (Nat.mod_lt _ (by omega))⟩
    obtain ⟨a, b, c, e, o⟩ := key (z + ((at_ / ns.length : Nat) : Int) * 104729)
    refine ⟨a, b, c, ?_, o⟩
    have em := fmodN at_ ns.length
    have ed := fdivN at_ ns.length
    have hd : SzD ((ns.length : Nat) : Int) := (bitN (n := 31) (show ns.length < 2 ^ 31 by omega)).szD hne (by decide)
    have hdl : at_ / ns.length ≤ at_ := Nat.div_le_self _ _
    have m2 : SzM ((at_ / ns.length : Nat) : Int) 104729 := (bitN (n := 31) (show at_ / ns.length < 2 ^ 31 by omega)).szM (Bit.of (n := 31) (by decide) (by decide)) (by decide)
    have ix : ∀ L : Lc, kR ixW (some (.frz (.lok (ns.map D.int)))) (some (.frz (.int ((at_ % ns.length : Nat) : Int)))) L = .ok (.val (.frz (.int z))) L := fun L => kR_of (ix_nat rfl rfl (by rw [List.getElem?_map, List.getElem?_map, hz]; rfl))
    generalize D.lok (ns.map D.int) = sc0 at *
    generalize ((at_ % ns.length : Nat) : Int) = mo at *
    generalize ((at_ / ns.length : Nat) : Int) = dv at *
    generalize ((ns.length : Nat) : Int) = ln at *
    generalize ((at_ : Nat) : Int) = a1 at *
    refine run_ret (m := m_l_stream K A) (L0 := [some (.frz sc0), some (iW a1), none]) (L := [some (.frz sc0), some (iW a1), some (iW (if z + dv * 104729 < 0 then 1 - (z + dv * 104729) else z + dv * 104729))]) ?_
    rw [m_l_stream, e_seq, show sSet fl_l_stream 2 (mOp aAddU (mOp aMul (mC (.int 3)) (mVar 1)) (mC (.int 1))) [some (.frz sc0), some (iW a1), none] = .next [some (.frz sc0), some (iW a1), some (iW (3 * a1 + 1))] by simp [m0], e_seq_n, e_seq]
    rw [show sIf (mBl (mOp cGt (mCallB (f1 lenD) (mCons (mVar 0) mNil)) (mC (.int 0))))
  (sSet fl_l_stream 2 (mOp aAddU (mCallB (f1 intD) (mCons (mOp (mkK ixW) (mVar 0) (mOp aMod (mVar 1) (mCallB (f1 lenD) (mCons (mVar 0) mNil)))) mNil)) (mOp aMul (mOp aDiv (mVar 1) (mCallB (f1 lenD) (mCons (mVar 0) mNil))) (mC (.int 104729)))))
  sNil [some (.frz sc0), some (iW a1), some (iW (3 * a1 + 1))] = .next [some (.frz sc0), some (iW a1), some (iW (z + dv * 104729))] by simp [len, hlt, hne, em, ed, hd, m2, ix], e_seq_n]
    exact e
end
end L

set_option exponentiation.threshold 20000
namespace L
open PySem PySem.Spec PyProof.Rows L2 BV
section
variable {K : PySem.W.Frag} {A : Ad}
theorem large_turn {n i : Nat} {a b c top num : Int} {w : W} {y : Option W} (h : Ok (n + 1) a b c) (h0 : 0 ≤ num) (hn : num + 1 ≤ 2 ^ (30 * i)) (hi : i < 100) :
    ∃ a' b' c' num', turnF (gNm fl_l_large 3) (m_l_large_b1 K A) w [some (st a b c), some (iW top), some (iW num), y] = .next [some (st a' b' c'), some (iW top), some (iW num'), some w] ∧ Ok n a' b' c' ∧ 0 ≤ num' ∧ num' + 1 ≤ 2 ^ (30 * (i + 1)) := by
  obtain ⟨a', b', c', r, e, r0, r1, o⟩ := draw_is (K := K) (A := A) h (many := 1000000007) (by decide) (Bit.of (n := 8000) (by decide) (Int.lt_of_lt_of_le (b := 2 ^ 31) (by decide) (by have := Nat.pow_le_pow_right (n := 2) (by decide) (show 31 ≤ 8000 by decide); exact_mod_cast this)))
  have hm : SzM num 1000000007 := (Bit.of (n := 30 * i) h0 (by omega)).szM (Bit.of (n := 31) (by decide) (by decide)) (by omega)
  refine ⟨a', b', c', num * 1000000007 + r, ?_, o, by omega, ?_⟩
  · rw [turn_is]
    simp [m_l_large_b1, e, hm]
  · rw [show 30 * (i + 1) = 30 * i + 30 by omega, Int.pow_add]
    generalize (2 : Int) ^ (30 * i) = p at *
    have : (2 : Int) ^ 30 = 1073741824 := by decide
    rw [this]
    omega
theorem large_is {n : Nat} {a b c top : Int} (h : Ok (n + 5) a b c) (ht : 0 < top) :
    ∃ a' b' c' r, fn_l_large K A [st a b c, iW top] = .ok (iW r) [st a' b' c'] ∧ 0 ≤ r ∧ r < top ∧ Ok n a' b' c' := by
  obtain ⟨L', e, a', b', c', num, y, rfl, o, n0, _⟩ := for_all (g := gNm fl_l_large 3) (body := m_l_large_b1 K A) (ws := intsW 0 5) (L := [some (st a b c), some (iW top), some (iW 0), none])
    (fun i L => ∃ a b c num y, L = [some (st a b c), some (iW top), some (iW num), y] ∧ Ok (n + (5 - i)) a b c ∧ 0 ≤ num ∧ num + 1 ≤ 2 ^ (30 * i))
    (fun i w L hw ⟨a, b, c, num, y, e, o, n0, n1⟩ => by
      obtain ⟨hi, rfl⟩ := intsW_get hw
      subst e
      obtain ⟨a', b', c', num', e2, o', n0', n1'⟩ := large_turn (K := K) (A := A) (n := n + (5 - (i + 1))) (i := i) (top := top) (w := iW (0 + (i : Nat))) (y := y) (o.mono (by omega)) n0 n1 (by omega)
      exact ⟨_, e2, a', b', c', num', _, rfl, o', n0', n1'⟩)
    ⟨a, b, c, 0, none, rfl, h.mono (by omega), by decide, by decide⟩
  have hz : top ≠ 0 := by omega
  refine ⟨a', b', c', num.fmod top, ?_, (fmod_rg num ht).1, (fmod_rg num ht).2, o.mono (by omega)⟩
  have r1 : SzR 5 := ⟨by decide, by decide⟩
  have n5 : (5 : Int).toNat = 5 := rfl
  refine run_ret (m := m_l_large K A) (L0 := [some (st a b c), some (iW top), none, none]) (L := [some (st a' b' c'), some (iW top), some (iW num), y]) ?_
  simp [m_l_large, r1, e, hz]
theorem tailD_len (q len : Nat) : lenD (tailD q len) = some (.int ((len + 2 : Nat) : Int)) := by
  show some (D.int (((tls q len (len + 1)).map D.int).length : Nat)) = _
  rw [List.length_map, tls_len]
theorem bit31 {x : Int} (h0 : 0 ≤ x) (h : x < 2147483648) : Bit 8000 x := (Bit.of (n := 31) h0 h).mono (by decide)
end
end L

set_option exponentiation.threshold 20000
namespace L
open PySem PySem.Spec PyProof.Rows L2 BV
section
variable {K : PySem.W.Frag} {A : Ad}
theorem e_max (i j : Int) : maxD (.int i) (.int j) = some (.int (if j > i then j else i)) := rfl
theorem p38 : (10 : Int) ^ (38 : Int).toNat = 100000000000000000000000000000000000000 := by decide
theorem p39 : (10 : Int) ^ (39 : Int).toNat = 1000000000000000000000000000000000000000 := by decide
theorem bit128 {x : Int} (h0 : 0 ≤ x) (h : x < 2000000000000000000000000000000000000000) : Bit 4000 x := (Bit.of (n := 131) h0 (Int.lt_of_lt_of_le h (by decide))).mono (by decide)
theorem tailN_lt2 (q len k : Nat) (hq2 : q < 2 ^ 16) (hl : len < 100) (hk : k ≤ len + 1) : Bit 3999 ((tailN q len k : Nat) : Int) := by
  rw [tailN_eq]
  exact (tailI_bit q len hq2 hl _ _ (by omega)).mono (by omega)
theorem bit_add1 {t x : Int} (h : Bit 3999 t) (t0 : 0 ≤ t) (h1 : 0 ≤ x) (h2 : x ≤ t + 1) : Bit 4000 x := by
  unfold Bit at *
  have e : 2 ^ 4000 = 2 ^ 3999 * 2 := Nat.pow_succ 2 3999
  rw [e]
  have : 0 < 2 ^ 3999 := Nat.two_pow_pos 3999
  omega
theorem level_is {n : Nat} {a b c : Int} (h : Ok (n + 12) a b c) (q len : Nat) (hq : 0 < q) (hq2 : q < 2 ^ 16) (hl : len < 100) :
    ∃ a' b' c' u v, fn_l_level K A [st a b c, .frz (tailD q len), iW ((q ^ len : Nat) : Int)] = .ok (.frz (.tup [.int u, .int v])) [st a' b' c'] ∧ Ok n a' b' c' ∧ 0 < u ∧ 0 < v ∧ Bit 4000 u ∧ Bit 4000 v := by
  obtain ⟨a1, b1, c1, s, e1, s0, s8, o1⟩ := draw_is (K := K) (A := A) (n := n + 11) h (many := 8) (by decide) (bit31 (by decide) (by decide))
  obtain ⟨a2, b2, c2, i, e2, i0, i1, o2⟩ := draw_is (K := K) (A := A) (n := n + 10) o1 (many := ((len + 2 : Nat) : Int)) (by omega) (bit31 (by omega) (by omega))
  obtain ⟨iN, rfl⟩ : ∃ k : Nat, i = (k : Nat) := ⟨i.toNat, by omega⟩
  have hiN : iN ≤ len + 1 := by omega
  have ix : ∀ L : Lc, kR ixW (some (.frz (tailD q len))) (some (.frz (.int (iN : Nat)))) L = .ok (.val (.frz (.int ((tailN q len iN : Nat) : Int)))) L := fun L => kR_of (ixf_nat (by rw [List.getElem?_map, tails_get q len iN hiN, tailN_eq]; rfl))
  have bt := tailN_lt2 q len iN hq2 hl hiN
  have bF := bitN (full_lt q len hq2 hl)
  have hF : (0 : Int) < ((q ^ len : Nat) : Int) := by have := Nat.pow_pos (n := len) hq; omega
  have t0 : (0 : Int) ≤ ((tailN q len iN : Nat) : Int) := Int.natCast_nonneg _
  have tl := tailD_len q len
  generalize ((q ^ len : Nat) : Int) = F at *
  generalize ((tailN q len iN : Nat) : Int) = t at *
  generalize tailD q len = td at *
  generalize ((len + 2 : Nat) : Int) = l2 at *
  generalize ((iN : Nat) : Int) = ii at *
  have run : ∀ {w : W} {L : Lc} {os : List W}, m_l_level K A [some (st a b c), some (.frz td), some (iW F), none, none] = .ret w L → outs fl_l_level L = some os → fn_l_level K A [st a b c, .frz td, iW F] = .ok w os := fun e o => run_ret (m := m_l_level K A) (L0 := [some (st a b c), some (.frz td), some (iW F), none, none]) e rfl o
  by_cases c3 : s < 3
  · refine ⟨a2, b2, c2, if t + s - 1 > 1 then t + s - 1 else 1, F, run (L := [some (st a2 b2 c2), some (.frz td), some (iW F), some (iW s), some (iW t)]) (by simp [m_l_level, e1, tl, e2, ix, c3, e_max]) rfl, o2.mono (by omega), ?_, hF, ?_, bF⟩
    · split <;> omega
    · split
      · exact bit_add1 bt t0 (by omega) (by omega)
      · exact bit128 (by decide) (by decide)
  · by_cases c4 : s = 3
    · exact ⟨a2, b2, c2, 1, 1, run (L := [some (st a2 b2 c2), some (.frz td), some (iW F), some (iW s), some (iW t)]) (by simp [m_l_level, e1, tl, e2, ix, c4]) rfl, o2.mono (by omega), by decide, by decide, bit128 (by decide) (by decide), bit128 (by decide) (by decide)⟩
    · by_cases c5 : s = 4
      · obtain ⟨a3, b3, c3', x, e3, x0, x1, o3⟩ := draw_is (K := K) (A := A) (n := n + 9) o2 (many := 5) (by decide) (bit31 (by decide) (by decide))
        obtain ⟨a4, b4, c4', y, e4, y0, y1, o4⟩ := draw_is (K := K) (A := A) (n := n + 8) o3 (many := 7) (by decide) (bit31 (by decide) (by decide))
        exact ⟨a4, b4, c4', 7 + x, 1 + y, run (L := [some (st a4 b4 c4'), some (.frz td), some (iW F), some (iW s), some (iW t)]) (by simp [m_l_level, e1, tl, e2, ix, c5, e3, e4]) rfl, o4.mono (by omega), by omega, by omega, bit128 (by omega) (by omega), bit128 (by omega) (by omega)⟩
      · have hp9 : SzP 10 39 := ⟨by decide, by decide, by decide⟩
        have hp8 : SzP 10 38 := ⟨by decide, by decide, by decide⟩
        by_cases c6 : s = 5
        · obtain ⟨a3, b3, c3', x, e3, x0, x1, o3⟩ := large_is (K := K) (A := A) (n := n + 5) o2 (top := 100000000000000000000000000000000000000) (by decide)
          exact ⟨a3, b3, c3', 1, 1000000000000000000000000000000000000000 - 1 - x, run (L := [some (st a3 b3 c3'), some (.frz td), some (iW F), some (iW s), some (iW t)]) (by simp [m_l_level, e1, tl, e2, ix, c6, hp8, hp9, p38, p39, e3]) rfl, o3.mono (by omega), by decide, by omega, bit128 (by decide) (by decide), bit128 (by omega) (by omega)⟩
        · by_cases c7 : s = 6
          · obtain ⟨a3, b3, c3', x, e3, x0, x1, o3⟩ := large_is (K := K) (A := A) (n := n + 5) o2 (top := 1000000000000000000000000000000000000000) (by decide)
            obtain ⟨a4, b4, c4', y, e4, y0, y1, o4⟩ := large_is (K := K) (A := A) (n := n) o3 (top := 1000000000000000000000000000000000000000) (by decide)
            exact ⟨a4, b4, c4', 1 + x, 1 + y, run (L := [some (st a4 b4 c4'), some (.frz td), some (iW F), some (iW s), some (iW t)]) (by simp [m_l_level, e1, tl, e2, ix, c7, hp9, p39, e3, e4]) rfl, o4, by omega, by omega, bit128 (by omega) (by omega), bit128 (by omega) (by omega)⟩
          · obtain ⟨a3, b3, c3', x, e3, x0, x1, o3⟩ := draw_is (K := K) (A := A) (n := n + 9) o2 (many := 12) (by decide) (bit31 (by decide) (by decide))
            obtain ⟨a4, b4, c4', y, e4, y0, y1, o4⟩ := draw_is (K := K) (A := A) (n := n + 8) o3 (many := 40) (by decide) (bit31 (by decide) (by decide))
            exact ⟨a4, b4, c4', 1 + x, 1 + y, run (L := [some (st a4 b4 c4'), some (.frz td), some (iW F), some (iW s), some (iW t)]) (by simp [m_l_level, e1, tl, e2, ix, c3, c4, c5, c6, c7, e3, e4]) rfl, o4.mono (by omega), by omega, by omega, bit128 (by omega) (by omega), bit128 (by omega) (by omega)⟩
end
end L

set_option exponentiation.threshold 20000
namespace L
open PySem PySem.Spec PyProof.Rows L2 BV
section
variable {K : PySem.W.Frag} {A : Ad}
theorem levels_turn {n : Nat} {a b c : Int} (h : Ok (n + 12) a b c) (q len : Nat) (hq : 0 < q) (hq2 : q < 2 ^ 16) (hl : len < 100) (w : W) (s3 s6 s7 : Option W) :
    ∃ a' b' c' s6' s7', turnF (gNm fl_l_levels_fit 3) (m_l_levels_fit_b1 K A) w [some (st a b c), some (iW q), some (iW len), s3, some (.frz (tailD q len)), some (iW ((q ^ len : Nat) : Int)), s6, s7] =
      .next [some (st a' b' c'), some (iW q), some (iW len), some w, some (.frz (tailD q len)), some (iW ((q ^ len : Nat) : Int)), s6', s7'] ∧ Ok n a' b' c' := by
  obtain ⟨a', b', c', u, v, e1, o1, u0, v0, bu, bv⟩ := level_is (K := K) (A := A) h q len hq hq2 hl
  obtain ⟨uN, rfl⟩ : ∃ k : Nat, u = (k : Nat) := ⟨u.toNat, by omega⟩
  obtain ⟨vN, rfl⟩ : ∃ k : Nat, v = (k : Nat) := ⟨v.toNat, by omega⟩
  have hv : 0 < vN := by omega
  have bu2 : uN < 2 ^ 4000 := bu
  have bv2 : vN < 2 ^ 4000 := bv
  have e2 := least_is (K := K) (A := A) q len hq2 hl ((uN : Nat) : Int) ((vN : Nat) : Int) (by omega) bu bv
  have e3 := init_is (K := K) (A := A) uN vN hv (Nat.lt_of_lt_of_le bv2 (Nat.pow_le_pow_right (by decide) (by decide)))
  have e4 := hit_least_is (K := K) (A := A) q len hq hq2 hl uN vN _ _ hv (red_pos uN vN hv) (red_ratio uN vN hv) (Nat.lt_of_le_of_lt (Nat.div_le_self _ _) bu2) (Nat.lt_of_le_of_lt (Nat.div_le_self _ _) bv2)
  have e5 := fits_is (K := K) (A := A) q len (leastN q len ((uN : Nat) : Int) ((vN : Nat) : Int) (len + 2) 0) hq (leastN_end q len _ _ (by omega) (len + 2) 0 (by omega) (by omega))
  have hfr := shO_fr (C := A.Share) (o := ((uN / Nat.gcd uN vN : Nat) : Int)) (u := ((vN / Nat.gcd uN vN : Nat) : Int))
  refine ⟨a', b', c', some (.frz (.tup [.int uN, .int vN])), some (iW (leastN q len ((uN : Nat) : Int) ((vN : Nat) : Int) (len + 2) 0 : Nat)), ?_, o1⟩
  generalize ((leastN q len ((uN : Nat) : Int) ((vN : Nat) : Int) (len + 2) 0 : Nat) : Int) = ls at *
  generalize ((uN / Nat.gcd uN vN : Nat) : Int) = u1 at *
  generalize ((vN / Nat.gcd uN vN : Nat) : Int) = v1 at *
  generalize ((uN : Nat) : Int) = u2 at *
  generalize ((vN : Nat) : Int) = v2 at *
  generalize ((q ^ len : Nat) : Int) = fu at *
  generalize tailD q len = td at *
  generalize ((q : Nat) : Int) = q1 at *
  generalize ((len : Nat) : Int) = l1 at *
  generalize shO A.Share u1 v1 = so at *
  generalize sh A.Share u1 v1 = sd at *
  rw [turn_is]
  simp [m_l_levels_fit_b1, e1, e2, e3, e4, e5, hfr]
theorem levels_fit_is {n : Nat} {a b c : Int} (h : Ok (n + 48) a b c) (q len : Nat) (hq : 0 < q) (hq2 : q < 2 ^ 16) (hl : len < 100) :
    ∃ a' b' c', fn_l_levels_fit K A [st a b c, iW q, iW len] = .ok (.frz (.bl true)) [st a' b' c'] ∧ Ok n a' b' c' := by
  have ht := tails_is (K := K) (A := A) q len hq hq2 hl
  obtain ⟨L', e, a', b', c', s3, s6, s7, rfl, o⟩ := for_all (g := gNm fl_l_levels_fit 3) (body := m_l_levels_fit_b1 K A) (ws := intsW 0 4) (L := [some (st a b c), some (iW q), some (iW len), none, some (.frz (tailD q len)), some (iW ((q ^ len : Nat) : Int)), none, none])
    (fun i L => ∃ a b c s3 s6 s7, L = [some (st a b c), some (iW q), some (iW len), s3, some (.frz (tailD q len)), some (iW ((q ^ len : Nat) : Int)), s6, s7] ∧ Ok (n + 12 * (4 - i)) a b c)
    (fun i w L hw ⟨a, b, c, s3, s6, s7, e, o⟩ => by
      obtain ⟨hi, rfl⟩ := intsW_get hw
      subst e
      obtain ⟨a', b', c', s6', s7', e2, o2⟩ := levels_turn (K := K) (A := A) (n := n + 12 * (4 - (i + 1))) (o.mono (by omega)) q len hq hq2 hl (iW (0 + (i : Nat))) s3 s6 s7
      exact ⟨_, e2, _, _, _, _, _, _, rfl, o2⟩) ⟨a, b, c, none, none, none, rfl, h.mono (by omega)⟩
  have r1 : SzR 4 := ⟨by decide, by decide⟩
  have n1 : (4 : Int).toNat = 4 := rfl
  refine ⟨a', b', c', ?_, o.mono (by omega)⟩
  generalize ((q ^ len : Nat) : Int) = fu at *
  generalize tailD q len = td at *
  generalize ((q : Nat) : Int) = q1 at *
  generalize ((len : Nat) : Int) = l1 at *
  refine run_ret (m := m_l_levels_fit K A) (L0 := [some (st a b c), some (iW q1), some (iW l1), none, none, none, none, none]) (L := [some (st a' b' c'), some (iW q1), some (iW l1), s3, some (.frz td), some (iW fu), s6, s7]) ?_
  simp [m_l_levels_fit, ht, r1, n1, e]
end
end L

set_option exponentiation.threshold 20000
namespace L
open PySem PySem.Spec PyProof.Rows L2 BV
section
variable {K : PySem.W.Frag} {A : Ad}
theorem lpower_step (lo : Int) (n : Nat) (N f : Int) (a : Nat) (y) (hs : SzM f a) : forL (gNm fl_l_power 3) (m_l_power_b1 K A) (intsW lo (n+1)) [some (iW a), some (iW N), some (iW f), y] = forL (gNm fl_l_power 3) (m_l_power_b1 K A) (intsW (lo + 1) n) [some (iW a), some (iW N), some (iW (f * a)), some (iW lo)] := by
  simp [intsW_succ, forL, m_l_power_b1, hs]
theorem lpower_loop (a : Nat) (h1 : Bit 64 (a : Int)) (n : Nat) : ∀ (lo : Int) (N f : Int) (y : Option W) (m : Nat), Bit (64 * m) f → 64 * (m + n) < 100000 →
    ∃ y', forL (gNm fl_l_power 3) (m_l_power_b1 K A) (intsW lo n) [some (iW a), some (iW N), some (iW f), y] = .next [some (iW a), some (iW N), some (iW (f * a ^ n)), y'] := by
  induction n with
  | zero => exact fun lo N f y m h2 h3 => ⟨y, by simp [intsW_zero, forL]⟩
  | succ n ih =>
    intro lo N f y m h2 h3
    have hm := h2.mul h1
    obtain ⟨y', ih⟩ := ih (lo + 1) N (f * a) (some (iW lo)) (m + 1) (hm.mono (by omega)) (by omega)
    refine ⟨y', ?_⟩
    have hs : SzM f a := h2.szM h1 (by omega)
    rw [lpower_step _ _ _ _ _ _ hs, ih, Int.pow_succ', Int.mul_assoc]
theorem lpower_is (a n : Nat) (h1 : a < 2 ^ 64) (h : n < 1000) : fn_l_power K A [iW a, iW n] = .ok (iW ((a ^ n : Nat) : Int)) [] := by
  obtain ⟨y, e⟩ := lpower_loop (K := K) (A := A) a (bitN h1) n 0 n 1 none 1 (bitN (n := 64) (a := 1) (by decide)) (by omega)
  have hz : SzR (n : Int) := ⟨by omega, by omega⟩
  rw [Int.natCast_pow]
  exact run_ret (m := m_l_power K A) (L0 := [some (iW a), some (iW n), none, none]) (L := [some (iW a), some (iW n), some (iW (1 * a ^ n)), y]) (by simp [m_l_power, hz, e])
/-- the shortening of the length -/
theorem short_turn (q u : Nat) (hq : q < 100) (hu : u < 100) (len : Nat) (hl : len < 100) (w : W) (s0 s1 s5 : Option W) (r : List (Option W)) :
    ∃ len' : Nat, len' ≤ len ∧ (256 < (q * u) ^ len → len' + 1 = len) ∧ (¬ 256 < (q * u) ^ len → len' = len) ∧
      turnF (gNm fl_l_counts_fit 5) (m_l_counts_fit_b1 K A) w (s0 :: s1 :: some (iW q) :: some (iW u) :: some (iW len) :: s5 :: r) = .next (s0 :: s1 :: some (iW q) :: some (iW u) :: some (iW len') :: some w :: r) := by
  have hqu : q * u ≤ 100 * 100 := Nat.mul_le_mul (by omega) (by omega)
  have e := lpower_is (K := K) (A := A) (q * u) len (by omega) (by omega)
  have hm : SzM ((q : Nat) : Int) ((u : Nat) : Int) := (bitN (n := 31) (by omega)).szM (bitN (n := 31) (by omega)) (by decide)
  have em : ((q : Nat) : Int) * ((u : Nat) : Int) = ((q * u : Nat) : Int) := (Int.natCast_mul q u).symm
  by_cases c : 256 < (q * u) ^ len
  · have h1 : 0 < len := by
      cases len with
      | zero => simp at c
      | succ n => exact Nat.succ_pos n
    have c2 : (256 : Int) < (((q * u) ^ len : Nat) : Int) := by omega
    have el : ((len : Nat) : Int) - 1 = ((len - 1 : Nat) : Int) := by omega
    refine ⟨len - 1, by omega, fun _ => by omega, fun h => absurd c h, ?_⟩
    generalize (((q * u) ^ len : Nat) : Int) = p at *
    generalize ((q * u : Nat) : Int) = qu at *
    generalize ((len - 1 : Nat) : Int) = l2 at *
    generalize ((len : Nat) : Int) = l1 at *
    generalize ((q : Nat) : Int) = q1 at *
    generalize ((u : Nat) : Int) = u1 at *
    rw [turn_is]
    simp [m_l_counts_fit_b1, hm, em, e, c2, el]
  · have c2 : ¬ (256 : Int) < (((q * u) ^ len : Nat) : Int) := by omega
    refine ⟨len, Nat.le_refl _, fun h => absurd h c, fun _ => rfl, ?_⟩
    generalize (((q * u) ^ len : Nat) : Int) = p at *
    generalize ((q * u : Nat) : Int) = qu at *
    generalize ((len : Nat) : Int) = l1 at *
    generalize ((q : Nat) : Int) = q1 at *
    generalize ((u : Nat) : Int) = u1 at *
    rw [turn_is]
    simp [m_l_counts_fit_b1, hm, em, e, c2]
end
end L

set_option exponentiation.threshold 20000
namespace L
open PySem PySem.Spec PyProof.Rows L2 BV
/-- one place of a key, a key, as data -/
def pD (p : Nat × Nat) : D := .tup [.int (p.1 : Nat), .int (p.2 : Nat)]
def kD (k : List (Nat × Nat)) : D := .lst (k.map pD)
def splitV (u v : Nat) : Nat × Nat := (v / u, v % u)
def longer (q u : Nat) (k : List (Nat × Nat)) : List (List (Nat × Nat)) := (List.range (q * u)).map fun v => k ++ [splitV u v]
def keysP (q u : Nat) : Nat → List (List (Nat × Nat))
  | 0 => [[]]
  | n + 1 => (keysP q u n).flatMap (longer q u)
theorem keysP_len (q u : Nat) : ∀ n, (keysP q u n).length = (q * u) ^ n
  | 0 => rfl
  | n + 1 => by
    rw [keysP, List.length_flatMap]
    have : ∀ l : List (List (Nat × Nat)), (l.map fun k => (longer q u k).length).sum = l.length * (q * u) := by
      intro l
      induction l with
      | nil => simp
      | cons k l ih => rw [List.map_cons, List.sum_cons, ih, longer, List.length_map, List.length_range, List.length_cons, Nat.add_mul]; omega
    rw [this, keysP_len q u n, Nat.pow_succ]
theorem keysP_each (q u : Nat) : ∀ n k, k ∈ keysP q u n → k.length = n
  | 0, k, h => by
    rw [keysP] at h
    rw [List.mem_singleton.mp h]; rfl
  | n + 1, k, h => by
    rw [keysP] at h
    obtain ⟨k0, h0, h1⟩ := List.mem_flatMap.mp h
    obtain ⟨v, _, rfl⟩ := List.mem_map.mp h1
    rw [List.length_append, keysP_each q u n k0 h0]; rfl
section
variable {K : PySem.W.Frag} {A : Ad}
theorem key_turn (u v : Nat) (hu : 0 < u) (hu2 : u < 100) (k : List (Nat × Nat)) (hk : k.length < 100) (acc : List D) (ha : acc.length < 1000) (s0 s2 s3 s4 s7 : Option W) :
    turnF (gNm fl_l_keys 7) (m_l_keys_b1 K A) (iW (v : Nat)) [s0, some (iW (u : Nat)), s2, s3, s4, some (.olst (acc.map .frz)), some (.frz (kD k)), s7] =
      .next [s0, some (iW (u : Nat)), s2, s3, s4, some (.olst ((acc ++ [kD (k ++ [splitV u v])]).map .frz)), some (.frz (kD k)), some (iW (v : Nat))] := by
  have hd : SzD ((u : Nat) : Int) := (bitN (n := 31) (by omega)).szD (by omega) (by decide)
  have hz : ((u : Nat) : Int) ≠ 0 := by omega
  have e1 := fdivN v u
  have e2 := fmodN v u
  have ec : ∀ L : Lc, aAddU (.val (.frz (kD k))) (.val (.olst [.frz (.tup [.int (v / u : Nat), .int (v % u : Nat)])])) L = .ok (.val (.olst ((k ++ [splitV u v]).map pD |>.map .frz))) L := fun L => by
    rw [addU_l (a := .frz (kD k)) (b := .olst ([D.tup [.int (v / u : Nat), .int (v % u : Nat)]].map .frz)) rfl rfl (lseq_f _) (lseq_l _) (by rw [List.length_map, List.length_map]; exact small_le (by simp; omega))]
    rw [List.map_append, List.map_append]
    rfl
  have hl : (acc.map W.frz).length < sizeLine := by rw [List.length_map]; exact small1000 (by omega)
  have ef : (W.olst ((k ++ [splitV u v]).map pD |>.map .frz)).fr = some (kD (k ++ [splitV u v])) := by rw [e_fr_l, e_frs_frz]; rfl
  have em : (acc ++ [kD (k ++ [splitV u v])]).map W.frz = acc.map W.frz ++ [.frz (kD (k ++ [splitV u v]))] := by rw [List.map_append]; rfl
  rw [em, turn_is]
  generalize W.olst ((k ++ [splitV u v]).map pD |>.map .frz) = kw at *
  generalize kD (k ++ [splitV u v]) = k2 at *
  generalize kD k = k1 at *
  generalize acc.map W.frz = ac at *
  generalize ((v / u : Nat) : Int) = vd at *
  generalize ((v % u : Nat) : Int) = vm at *
  generalize ((u : Nat) : Int) = u1 at *
  generalize ((v : Nat) : Int) = v1 at *
  simp [m_l_keys_b1, hd, hz, e1, e2, ec, ef, hl]
end
end L

set_option exponentiation.threshold 20000
namespace L
open PySem PySem.Spec PyProof.Rows L2 BV
section
variable {K : PySem.W.Frag} {A : Ad}
theorem key_inner (q u : Nat) (hu : 0 < u) (hu2 : u < 100) (hq : q < 100) (k : List (Nat × Nat)) (hk : k.length < 100) (acc : List D) (ha : acc.length + q * u < 1000) (s2 s3 s4 s6 s7 : Option W) :
    ∃ s7', turnF (gNm fl_l_keys 6) (m_l_keys_b2 K A) (.frz (kD k)) [some (iW (q : Nat)), some (iW (u : Nat)), s2, s3, s4, some (.olst (acc.map .frz)), s6, s7] =
      .next [some (iW (q : Nat)), some (iW (u : Nat)), s2, s3, s4, some (.olst ((acc ++ (longer q u k).map kD).map .frz)), some (.frz (kD k)), s7'] := by
  have hqu : q * u ≤ 100 * 100 := Nat.mul_le_mul (by omega) (by omega)
  obtain ⟨L', e, s7', rfl⟩ := for_all (g := gNm fl_l_keys 7) (body := m_l_keys_b1 K A) (ws := intsW 0 (q * u)) (L := [some (iW (q : Nat)), some (iW (u : Nat)), s2, s3, s4, some (.olst (acc.map .frz)), some (.frz (kD k)), s7])
    (fun i L => ∃ s7, L = [some (iW (q : Nat)), some (iW (u : Nat)), s2, s3, s4, some (.olst ((acc ++ ((List.range i).map fun v => kD (k ++ [splitV u v]))).map .frz)), some (.frz (kD k)), s7])
    (fun i w L hw ⟨s7, e⟩ => by
      obtain ⟨hi, rfl⟩ := intsW_get hw
      subst e
      rw [Int.zero_add]
      refine ⟨_, key_turn u i hu hu2 k hk _ (by rw [List.length_append, List.length_map, List.length_range]; omega) _ s2 s3 s4 s7, some (iW (i : Nat)), ?_⟩
      have em2 : acc ++ ((List.range (i + 1)).map fun v => kD (k ++ [splitV u v])) = (acc ++ ((List.range i).map fun v => kD (k ++ [splitV u v]))) ++ [kD (k ++ [splitV u i])] := by rw [List.range_succ, List.map_append, List.append_assoc]; rfl
      rw [em2]) ⟨s7, by simp⟩
  rw [intsW_len] at e
  have em : (longer q u k).map kD = (List.range (q * u)).map fun v => kD (k ++ [splitV u v]) := by rw [longer, List.map_map]; rfl
  have hm : SzM ((q : Nat) : Int) ((u : Nat) : Int) := (bitN (n := 31) (by omega)).szM (bitN (n := 31) (by omega)) (by decide)
  have eq : ((q : Nat) : Int) * ((u : Nat) : Int) = ((q * u : Nat) : Int) := (Int.natCast_mul q u).symm
  have r1 : SzR ((q * u : Nat) : Int) := ⟨by omega, by omega⟩
  have n1 : ((q * u : Nat) : Int).toNat = q * u := by omega
  refine ⟨s7', ?_⟩
  rw [em, turn_is]
  generalize (acc ++ (List.range (q * u)).map fun v => kD (k ++ [splitV u v])).map W.frz = r at *
  generalize acc.map W.frz = ac at *
  generalize kD k = k1 at *
  generalize ((q * u : Nat) : Int) = qu at *
  generalize ((u : Nat) : Int) = u1 at *
  generalize ((q : Nat) : Int) = q1 at *
  simp [m_l_keys_b2, hm, eq, r1, n1, e]
theorem key_mid (q u : Nat) (hu : 0 < u) (hu2 : u < 100) (hq : q < 100) (ks : List (List (Nat × Nat))) (hk : ∀ k ∈ ks, k.length < 100) (hs : ks.length * (q * u) + q * u < 1000) (s2 s3 s4 s6 s7 : Option W) :
    ∃ s6' s7', forL (gNm fl_l_keys 6) (m_l_keys_b2 K A) ((ks.map kD).map .frz) [some (iW (q : Nat)), some (iW (u : Nat)), s2, s3, s4, some (.olst []), s6, s7] =
      .next [some (iW (q : Nat)), some (iW (u : Nat)), s2, s3, s4, some (.olst (((ks.flatMap (longer q u)).map kD).map .frz)), s6', s7'] := by
  obtain ⟨L', e, s6', s7', rfl⟩ := for_all (g := gNm fl_l_keys 6) (body := m_l_keys_b2 K A) (ws := (ks.map kD).map .frz) (L := [some (iW (q : Nat)), some (iW (u : Nat)), s2, s3, s4, some (.olst []), s6, s7])
    (fun i L => ∃ s6 s7, L = [some (iW (q : Nat)), some (iW (u : Nat)), s2, s3, s4, some (.olst ((((ks.take i).flatMap (longer q u)).map kD).map .frz)), s6, s7])
    (fun i w L hw ⟨s6, s7, e⟩ => by
      rw [List.getElem?_map, List.getElem?_map] at hw
      obtain ⟨d, hd, rfl⟩ := map_some hw
      obtain ⟨k, hk2, rfl⟩ := map_some hd
      subst e
      have hi := (List.getElem?_eq_some_iff.mp hk2).1
      have hlen : ((ks.take i).flatMap (longer q u)).length = i * (q * u) := by
        rw [List.length_flatMap]
        have : ∀ l : List (List (Nat × Nat)), (l.map fun k => (longer q u k).length).sum = l.length * (q * u) := by
          intro l
          induction l with
          | nil => simp
          | cons k l ih => rw [List.map_cons, List.sum_cons, ih, longer, List.length_map, List.length_range, List.length_cons, Nat.add_mul]; omega
        rw [this, List.length_take, Nat.min_eq_left (Nat.le_of_lt hi)]
      have hle : i * (q * u) ≤ ks.length * (q * u) := Nat.mul_le_mul_right _ (Nat.le_of_lt hi)
      obtain ⟨s7', e2⟩ := key_inner (K := K) (A := A) q u hu hu2 hq k (hk k (List.mem_of_getElem? hk2)) (((ks.take i).flatMap (longer q u)).map kD) (by rw [List.length_map, hlen]; omega) s2 s3 s4 s6 s7
      refine ⟨_, e2, some (.frz (kD k)), s7', ?_⟩
      rw [List.take_add_one, hk2, List.flatMap_append, List.map_append]
      simp [List.flatMap_cons])
    ⟨s6, s7, by simp⟩
  refine ⟨s6', s7', ?_⟩
  rw [e, List.length_map, List.length_map, List.take_length]
/-- slot 3: the keys so far, own or frozen -/
def IsKs (w : W) (ds : List D) : Prop := w = .olst (ds.map .frz) ∨ w = .frz (.lst ds)
theorem iter3 {w : W} {ds : List D} (h : IsKs w ds) (s0 s1 s2 s4 s5 s6 s7 : Option W) : mIter (mVar 3) [s0, s1, s2, some w, s4, s5, s6, s7] = .ok (ds.map .frz) [s0, s1, s2, some (.frz (.lst ds)), s4, s5, s6, s7] := by
  rcases h with rfl | rfl
  · have e : itemsOf (.al 3) [s0, s1, s2, some (.olst (ds.map .frz)), s4, s5, s6, s7] = .ok (ds.map .frz) [s0, s1, s2, some (.frz (.lst ds)), s4, s5, s6, s7] := by
      show ((toF (.al 3) [s0, s1, s2, some (.olst (ds.map .frz)), s4, s5, s6, s7]).bind fun d L2 => match d.seq with
        | some ds => .ok (ds.map W.frz) L2
        | none => .bad) = _
      simp [D.seq]
    simp [e]
  · rfl
theorem asg_al {fl : List Bool} {i j : Nat} {L L1 : Lc} {d : D} (h : ¬ fl[i]? = some true) (e : toF (.al j) L = .ok d L1) : asgn fl i (.al j) L = .next (L1.set i (some (.frz d))) := by
  unfold asgn
  rw [if_neg h]
  dsimp only
  rw [e]
  rfl
theorem keys_turn (q u len i : Nat) (hu : 0 < u) (hu2 : u < 100) (hq : q < 100) (hl : i < 100) (hs : (q * u) ^ i * (q * u) + q * u < 1000) (w : W) (w3 : W) (h3 : IsKs w3 ((keysP q u i).map kD)) (s2 s4 s5 s6 s7 : Option W) :
    ∃ w3' s5' s6' s7', turnF (gNm fl_l_keys 4) (m_l_keys_b3 K A) w [some (iW (q : Nat)), some (iW (u : Nat)), s2, some w3, s4, s5, s6, s7] = .next [some (iW (q : Nat)), some (iW (u : Nat)), s2, some w3', some w, s5', s6', s7'] ∧ IsKs w3' ((keysP q u (i + 1)).map kD) := by
  obtain ⟨s6', s7', e⟩ := key_mid (K := K) (A := A) q u hu hu2 hq (keysP q u i) (fun k hk => by rw [keysP_each q u i k hk]; exact hl) (by rw [keysP_len]; exact hs) s2 (some (.frz (.lst ((keysP q u i).map kD)))) (some w) s6 s7
  have it := iter3 h3 (some (iW (q : Nat))) (some (iW (u : Nat))) s2 (some w) (some (.olst [])) s6 s7
  have ek : (keysP q u (i + 1)) = (keysP q u i).flatMap (longer q u) := by rw [keysP]
  refine ⟨.frz (.lst ((keysP q u (i + 1)).map kD)), some (.frz (.lst ((keysP q u (i + 1)).map kD))), s6', s7', ?_, .inr rfl⟩
  rw [ek, turn_is]
  generalize ((keysP q u i).flatMap (longer q u)).map kD = kn at *
  have ea : asgn fl_l_keys 3 (.al 5) [some (iW (q : Nat)), some (iW (u : Nat)), s2, some (.frz (.lst ((keysP q u i).map kD))), some w, some (.olst (kn.map .frz)), s6', s7'] = .next [some (iW (q : Nat)), some (iW (u : Nat)), s2, some (.frz (.lst kn)), some w, some (.frz (.lst kn)), s6', s7'] :=
    asg_al (d := .lst kn) (L1 := [some (iW (q : Nat)), some (iW (u : Nat)), s2, some (.frz (.lst ((keysP q u i).map kD))), some w, some (.frz (.lst kn)), s6', s7']) (by decide) (by simp)
  generalize (keysP q u i).map kD = ko at *
  generalize ((u : Nat) : Int) = u1 at *
  generalize ((q : Nat) : Int) = q1 at *
  have hset : sSet fl_l_keys 5 (mLst mNil) [some (iW q1), some (iW u1), s2, some w3, some w, s5, s6, s7] = .next [some (iW q1), some (iW u1), s2, some w3, some w, some (.olst []), s6, s7] := by simp
  have hfor : sFor (mIter (mVar 3)) (gNm fl_l_keys 6) (m_l_keys_b2 K A) [some (iW q1), some (iW u1), s2, some w3, some w, some (.olst []), s6, s7] = .next [some (iW q1), some (iW u1), s2, some (.frz (.lst ko)), some w, some (.olst (kn.map .frz)), s6', s7'] := by
    rw [e_for, it, e_then, e]
  have hlast : sSet fl_l_keys 3 (mVar 5) [some (iW q1), some (iW u1), s2, some (.frz (.lst ko)), some w, some (.olst (kn.map .frz)), s6', s7'] = .next [some (iW q1), some (iW u1), s2, some (.frz (.lst kn)), some w, some (.frz (.lst kn)), s6', s7'] := by
    rw [e_set, e_var]
    exact ea
  unfold m_l_keys_b3
  rw [e_gNm, e_asgn (h := by decide), e_seqG]
  show turnR (sSeq _ _ [some (iW q1), some (iW u1), s2, some w3, some w, s5, s6, s7]) = _
  rw [e_seq, hset, e_seq_n, e_seq, hfor, e_seq_n, hlast, e_turnR_n]
end
end L

set_option exponentiation.threshold 20000
namespace L
open PySem PySem.Spec PyProof.Rows L2 BV
section
variable {K : PySem.W.Frag} {A : Ad}
theorem keys_is (q u len : Nat) (hu : 0 < u) (hu2 : u < 100) (hq : q < 100) (hq0 : 0 < q) (hl : len < 100) (hs : (q * u) ^ len ≤ 256) :
    ∃ w, fn_l_keys K A [iW (q : Nat), iW (u : Nat), iW (len : Nat)] = .ok w [] ∧ IsKs w ((keysP q u len).map kD) := by
  have hqu : 0 < q * u := Nat.mul_pos hq0 hu
  have hpow : ∀ i, i < len → (q * u) ^ i * (q * u) + q * u < 1000 := fun i hi => by
    have h1 : (q * u) ^ (i + 1) ≤ (q * u) ^ len := Nat.pow_le_pow_right hqu hi
    have h2 : (q * u) ^ 1 ≤ (q * u) ^ len := Nat.pow_le_pow_right hqu (by omega)
    rw [Nat.pow_succ] at h1
    rw [Nat.pow_one] at h2
    omega
  obtain ⟨L', e, w3, s4, s5, s6, s7, rfl, h3⟩ := for_all (g := gNm fl_l_keys 4) (body := m_l_keys_b3 K A) (ws := intsW 0 len) (L := [some (iW (q : Nat)), some (iW (u : Nat)), some (iW (len : Nat)), some (.olst [.frz (.lst [])]), none, none, none, none])
    (fun i L => ∃ w3 s4 s5 s6 s7, L = [some (iW (q : Nat)), some (iW (u : Nat)), some (iW (len : Nat)), some w3, s4, s5, s6, s7] ∧ IsKs w3 ((keysP q u i).map kD))
    (fun i w L hw ⟨w3, s4, s5, s6, s7, e, h3⟩ => by
      obtain ⟨hi, rfl⟩ := intsW_get hw
      subst e
      obtain ⟨w3', s5', s6', s7', e2, h3'⟩ := keys_turn (K := K) (A := A) q u len i hu hu2 hq (by omega) (hpow i hi) (iW (0 + (i : Nat))) w3 h3 (some (iW (len : Nat))) s4 s5 s6 s7
      exact ⟨_, e2, w3', _, s5', s6', s7', rfl, h3'⟩)
    ⟨_, none, none, none, none, rfl, .inl rfl⟩
  rw [intsW_len] at h3
  have r1 : SzR ((len : Nat) : Int) := ⟨by omega, by omega⟩
  have n1 : ((len : Nat) : Int).toNat = len := by omega
  have hset : sSet fl_l_keys 3 (mLst (mCons (mLst mNil) mNil)) [some (iW (q : Nat)), some (iW (u : Nat)), some (iW (len : Nat)), none, none, none, none, none] = .next [some (iW (q : Nat)), some (iW (u : Nat)), some (iW (len : Nat)), some (.olst [.frz (.lst [])]), none, none, none, none] := by simp
  have hfor : sFor (mRange1 (mCons (mVar 2) mNil)) (gNm fl_l_keys 4) (m_l_keys_b3 K A) [some (iW (q : Nat)), some (iW (u : Nat)), some (iW (len : Nat)), some (.olst [.frz (.lst [])]), none, none, none, none] = .next [some (iW (q : Nat)), some (iW (u : Nat)), some (iW (len : Nat)), some w3, s4, s5, s6, s7] := by
    generalize ((len : Nat) : Int) = l1 at *
    generalize ((u : Nat) : Int) = u1 at *
    generalize ((q : Nat) : Int) = q1 at *
    simp [r1, n1, e]
  refine ⟨w3, ?_, h3⟩
  generalize (keysP q u len).map kD = ks at *
  rcases h3 with rfl | rfl
  · refine run_ret (m := m_l_keys K A) (L0 := [some (iW (q : Nat)), some (iW (u : Nat)), some (iW (len : Nat)), none, none, none, none, none]) (L := [some (iW (q : Nat)), some (iW (u : Nat)), some (iW (len : Nat)), none, s4, s5, s6, s7]) ?_
    rw [m_l_keys, e_seq, hset, e_seq_n, e_seq, hfor, e_seq_n]
    rfl
  · refine run_ret (m := m_l_keys K A) (L0 := [some (iW (q : Nat)), some (iW (u : Nat)), some (iW (len : Nat)), none, none, none, none, none]) (L := [some (iW (q : Nat)), some (iW (u : Nat)), some (iW (len : Nat)), some (.frz (.lst ks)), s4, s5, s6, s7]) ?_
    rw [m_l_keys, e_seq, hset, e_seq_n, e_seq, hfor, e_seq_n]
    rfl
end
end L

set_option exponentiation.threshold 20000
namespace L
open PySem PySem.Spec PyProof.Rows L2 BV
theorem sindex_is {al : Str} {c x : Nat} (hn : al.cps.toList.Nodup) (h : al.cps.toList[x]? = some c) : sindexD (.str al) (.str ⟨#[c]⟩) = some (.int (x : Nat)) := by
  unfold sindexD
  have h1 := (StrLaws.subAt_one al c x).mpr h
  rcases StrLaws.occ_head al ⟨#[c]⟩ 1 (Nat.le_refl 1) with ⟨_, hno⟩ | ⟨i, r, e, hat, _⟩
  · exact absurd h1 (hno x)
  · dsimp only
    rw [e]
    have h2 := (StrLaws.subAt_one al c i).mp hat
    have hi := (List.getElem?_eq_some_iff.mp h2).1
    have this : i = x := (List.getElem?_inj hi hn).mp (h2.trans h.symm)
    rw [this]
/-- whether a place of the key is hit by the sign of index x -/
def hit (q u x : Nat) (p : Nat × Nat) : Bool := decide ((((p.2 * q / u : Nat) : Int)) = (((x : Nat) : Int) - ((p.1 : Nat) : Int)).fmod (q : Nat))
def hp (q u : Nat) : List Nat → List (Nat × Nat) → Nat
  | x :: xs, p :: ps => (if hit q u x p = true then 1 else 0) + hp q u xs ps
  | _, _ => 0
section
variable {K : PySem.W.Frag} {A : Ad}
theorem hits_turn (q u x t : Nat) (p : Nat × Nat) (hq : 0 < q) (hu : 0 < u) (hq2 : q < 100) (hu2 : u < 100) (hp2 : p.2 < 100) {al : Str} {c : Nat} (hn : al.cps.toList.Nodup) (h : al.cps.toList[x]? = some c) (s2 s3 s6 s7 s8 : Option W) :
    ∃ s6' s7' s8', turnF (gTp 2 (gsCons (gTp 2 (gsCons (gNm fl_hits 7) (gsCons (gNm fl_hits 8) gsNil))) (gsCons (gNm fl_hits 6) gsNil))) (m_hits_b1 K A) (.frz (.tup [pD p, .str ⟨#[c]⟩])) [some (.frz (.str al)), some (iW (u : Nat)), s2, s3, some (iW (q : Nat)), some (iW (t : Nat)), s6, s7, s8] =
      .next [some (.frz (.str al)), some (iW (u : Nat)), s2, s3, some (iW (q : Nat)), some (iW ((t + if hit q u x p = true then 1 else 0 : Nat) : Int)), s6', s7', s8'] := by
  have hs := sindex_is hn h
  have hm : SzM ((p.2 : Nat) : Int) ((q : Nat) : Int) := (bitN (n := 31) (by omega)).szM (bitN (n := 31) (by omega)) (by decide)
  have hd : SzD ((u : Nat) : Int) := (bitN (n := 31) (by omega)).szD (by omega) (by decide)
  have hz : ((q : Nat) : Int) ≠ 0 := by omega
  have e1 : Int.fdiv (((p.2 : Nat) : Int) * ((q : Nat) : Int)) ((u : Nat) : Int) = ((p.2 * q / u : Nat) : Int) := by rw [← Int.natCast_mul, fdivN]
  refine ⟨some (.frz (.str ⟨#[c]⟩)), some (iW (p.1 : Nat)), some (iW (p.2 : Nat)), ?_⟩
  rw [turn_is]
  have eg : ∀ L : Lc, g1 sindexD (.val (.frz (.str al))) [.val (.frz (.str ⟨#[c]⟩))] L = .ok (.val (.frz (.int (x : Nat)))) L := fun L => by
    show (match sindexD (W.frz (.str al)).rd (W.frz (.str ⟨#[c]⟩)).rd with
      | some d => Res.ok (R.val (.frz d)) L
      | none => .bad) = _
    rw [e_rd_f, e_rd_f, hs]
  unfold pD
  by_cases hh : hit q u x p = true
  · have hh2 := of_decide_eq_true hh
    rw [if_pos hh]
    have et : ((t + 1 : Nat) : Int) = ((t : Nat) : Int) + 1 := by omega
    rw [et]
    generalize ((p.2 * q / u : Nat) : Int) = z at *
    generalize ((p.1 : Nat) : Int) = p1 at *
    generalize ((p.2 : Nat) : Int) = p2 at *
    generalize ((x : Nat) : Int) = x1 at *
    generalize ((t : Nat) : Int) = t1 at *
    generalize ((u : Nat) : Int) = u1 at *
    generalize ((q : Nat) : Int) = q1 at *
    have ea : sAug fl_hits 5 (gOr aAdd aCatS) (mC (.int 1)) [some (.frz (.str al)), some (iW u1), s2, s3, some (iW q1), some (iW t1), some (.frz (.str ⟨#[c]⟩)), some (iW p1), some (iW p2)] = .next [some (.frz (.str al)), some (iW u1), s2, s3, some (iW q1), some (iW (t1 + 1)), some (.frz (.str ⟨#[c]⟩)), some (iW p1), some (iW p2)] := rfl
    simp [m_hits_b1, hm, hd, hz, e1, eg, hh2, ea]
  · have hh2 : ¬ _ := fun z => hh (decide_eq_true z)
    rw [if_neg hh, Nat.add_zero]
    generalize ((p.2 * q / u : Nat) : Int) = z at *
    generalize ((p.1 : Nat) : Int) = p1 at *
    generalize ((p.2 : Nat) : Int) = p2 at *
    generalize ((x : Nat) : Int) = x1 at *
    generalize ((t : Nat) : Int) = t1 at *
    generalize ((u : Nat) : Int) = u1 at *
    generalize ((q : Nat) : Int) = q1 at *
    simp [m_hits_b1, hm, hd, hz, e1, eg, hh2]
end
end L

set_option exponentiation.threshold 20000
namespace L
open PySem PySem.Spec PyProof.Rows L2 BV
def Spell (al : Str) : List Nat → List Nat → Prop
  | [], [] => True
  | x :: xs, c :: cs => al.cps.toList[x]? = some c ∧ Spell al xs cs
  | _, _ => False
abbrev sgW (c : Nat) : W := .frz (.str ⟨#[c]⟩)
section
variable {K : PySem.W.Frag} {A : Ad}
theorem hits_loop (q u : Nat) (hq : 0 < q) (hu : 0 < u) (hq2 : q < 100) (hu2 : u < 100) {al : Str} (hn : al.cps.toList.Nodup) (s2 s3 : Option W) : ∀ (xs : List Nat) (ps : List (Nat × Nat)) (cs : List Nat) (t : Nat) (s6 s7 s8 : Option W), Spell al xs cs → ps.length = xs.length → (∀ p ∈ ps, p.2 < 100) →
    ∃ s6' s7' s8', forL (gTp 2 (gsCons (gTp 2 (gsCons (gNm fl_hits 7) (gsCons (gNm fl_hits 8) gsNil))) (gsCons (gNm fl_hits 6) gsNil))) (m_hits_b1 K A) (zipW ((ps.map pD).map .frz) (cs.map sgW)) [some (.frz (.str al)), some (iW (u : Nat)), s2, s3, some (iW (q : Nat)), some (iW (t : Nat)), s6, s7, s8] =
      .next [some (.frz (.str al)), some (iW (u : Nat)), s2, s3, some (iW (q : Nat)), some (iW ((t + hp q u xs ps : Nat) : Int)), s6', s7', s8']
  | [], [], [], t, s6, s7, s8, _, _, _ => ⟨s6, s7, s8, rfl⟩
  | x :: xs, p :: ps, c :: cs, t, s6, s7, s8, ⟨h1, h2⟩, hl, hp2 => by
    obtain ⟨s6', s7', s8', e⟩ := hits_turn (K := K) (A := A) q u x t p hq hu hq2 hu2 (hp2 p List.mem_cons_self) hn h1 s2 s3 s6 s7 s8
    obtain ⟨t6, t7, t8, e2⟩ := hits_loop q u hq hu hq2 hu2 hn s2 s3 xs ps cs (t + if hit q u x p = true then 1 else 0) s6' s7' s8' h2 (by simpa using hl) (fun p h => hp2 p (List.mem_cons_of_mem _ h))
    refine ⟨t6, t7, t8, ?_⟩
    have ez : zipW (((p :: ps).map pD).map .frz) ((c :: cs).map sgW) = .frz (.tup [pD p, .str ⟨#[c]⟩]) :: zipW ((ps.map pD).map .frz) (cs.map sgW) := rfl
    rw [ez, for_next e, e2, hp, Nat.add_assoc]
  | [], _ :: _, _, _, _, _, _, _, h, _ => by cases h
  | _ :: _, [], _, _, _, _, _, _, h, _ => by cases h
  | [], [], _ :: _, _, _, _, _, h, _, _ => h.elim
  | _ :: _, _ :: _, [], _, _, _, _, h, _, _ => h.elim
theorem hits_is (q u : Nat) (hq : 0 < q) (hu : 0 < u) (hq2 : q < 100) (hu2 : u < 100) {al tx : Str} (hn : al.cps.toList.Nodup) (hal : al.length = q) (xs : List Nat) (ps : List (Nat × Nat)) (hs : Spell al xs tx.cps.toList) (hl : ps.length = xs.length) (hp2 : ∀ p ∈ ps, p.2 < 100) :
    fn_hits K A [.frz (.str al), iW (u : Nat), .frz (kD ps), .frz (.str tx)] = .ok (iW ((hp q u xs ps : Nat) : Int)) [] := by
  obtain ⟨s6, s7, s8, e⟩ := hits_loop (K := K) (A := A) q u hq hu hq2 hu2 hn (some (.frz (kD ps))) (some (.frz (.str tx))) xs ps tx.cps.toList 0 none none none hs hl hp2
  rw [Nat.zero_add] at e
  have hlen : lenD (.str al) = some (.int (q : Nat)) := by
    rw [e_len_str al (by rw [hal]; exact small_le (by omega)), hal]
  have z0 : ((0 : Nat) : Int) = 0 := rfl
  rw [z0] at e
  have hz : ∀ L : Lc, mZip (mCons (mVar 2) (mCons (mVar 3) mNil)) [some (.frz (.str al)), some (iW (u : Nat)), some (.frz (kD ps)), some (.frz (.str tx)), some (iW (q : Nat)), some (iW 0), none, none, none] = .ok (zipW ((ps.map pD).map .frz) (tx.cps.toList.map sgW)) [some (.frz (.str al)), some (iW (u : Nat)), some (.frz (kD ps)), some (.frz (.str tx)), some (iW (q : Nat)), some (iW 0), none, none, none] := fun _ => rfl
  have hz0 := hz []
  refine run_ret (m := m_hits K A) (L0 := [some (.frz (.str al)), some (iW (u : Nat)), some (.frz (kD ps)), some (.frz (.str tx)), none, none, none, none, none]) (L := [some (.frz (.str al)), some (iW (u : Nat)), some (.frz (kD ps)), some (.frz (.str tx)), some (iW (q : Nat)), some (iW ((hp q u xs ps : Nat) : Int)), s6, s7, s8]) ?_
  generalize zipW ((ps.map pD).map .frz) (tx.cps.toList.map sgW) = zz at *
  generalize kD ps = kd at *
  generalize ((hp q u xs ps : Nat) : Int) = r at *
  generalize ((q : Nat) : Int) = q1 at *
  generalize ((u : Nat) : Int) = u1 at *
  simp [m_hits, hlen, hz0, e]
end
end L

namespace L
open PySem PySem.Spec PyProof.Rows L2 BV
/-! ### sums over the first n numbers -/
def sumR : Nat → (Nat → Nat) → Nat
  | 0, _ => 0
  | n + 1, f => sumR n f + f n
theorem sumR_congr {f g : Nat → Nat} : ∀ n, (∀ i, i < n → f i = g i) → sumR n f = sumR n g
  | 0, _ => rfl
  | n + 1, h => by rw [sumR, sumR, sumR_congr n (fun i hi => h i (by omega)), h n (by omega)]
theorem sumR_add (f g : Nat → Nat) : ∀ n, sumR n (fun i => f i + g i) = sumR n f + sumR n g
  | 0 => rfl
  | n + 1 => by rw [sumR, sumR, sumR, sumR_add f g n]; omega
theorem sumR_zero : ∀ n, sumR n (fun _ => 0) = 0
  | 0 => rfl
  | n + 1 => by rw [sumR, sumR_zero n]
theorem sumR_const (c : Nat) : ∀ n, sumR n (fun _ => c) = n * c
  | 0 => by rw [sumR, Nat.zero_mul]
  | n + 1 => by rw [sumR, sumR_const c n, Nat.succ_mul]
theorem sumR_swap (f : Nat → Nat → Nat) (m : Nat) : ∀ n, sumR n (fun i => sumR m (fun j => f i j)) = sumR m (fun j => sumR n (fun i => f i j))
  | 0 => (sumR_zero m).symm
  | n + 1 => by
    rw [sumR, sumR_swap f m n, ← sumR_add]
    rfl
theorem sumR_one (t0 : Nat) : ∀ n, t0 < n → sumR n (fun t => if t = t0 then 1 else 0) = 1
  | n + 1, h => by
    rw [sumR]
    by_cases e : n = t0
    · subst e
      rw [if_pos rfl, sumR_congr n (g := fun _ => 0) (fun i hi => if_neg (by omega)), sumR_zero]
    · rw [if_neg e, sumR_one t0 n (by omega)]
/-- the first n blocks of u numbers each -/
theorem sumR_mul (f : Nat → Nat) (u : Nat) : ∀ q, sumR (q * u) f = sumR q (fun t => sumR u (fun n => f (t * u + n)))
  | 0 => by rw [Nat.zero_mul]; rfl
  | q + 1 => by
    have step : ∀ m, sumR (q * u + m) f = sumR (q * u) f + sumR m (fun n => f (q * u + n)) := by
      intro m
      induction m with
      | zero => rfl
      | succ m ih => rw [← Nat.add_assoc, sumR, ih, sumR, Nat.add_assoc]
    rw [Nat.succ_mul, step, sumR, sumR_mul f u q]
theorem hit_iff {q u x t n : Nat} (hq : 0 < q) (hx : x < q) (ht : t < q) (hn : n < u) : hit q u x (t, n) = true ↔ t = (x + (q - n * q / u)) % q := by
  have hw : n * q / u < q := by
    rw [Nat.div_lt_iff_lt_mul (by omega), Nat.mul_comm q u]
    exact Nat.mul_lt_mul_of_pos_right hn hq
  unfold hit
  rw [decide_eq_true_eq]
  show ((((n * q / u : Nat) : Int)) = (((x : Nat) : Int) - ((t : Nat) : Int)).fmod (q : Nat)) ↔ _
  generalize n * q / u = w at *
  have e1 : (((x : Nat) : Int) - ((t : Nat) : Int)).fmod (q : Nat) = if t ≤ x then (x : Int) - t else (x : Int) - t + q := by
    rw [Int.fmod_eq_emod_of_nonneg _ (Int.natCast_nonneg q)]
    split
    · exact Int.emod_eq_of_lt (by omega) (by omega)
    · rw [← Int.add_emod_right]
      exact Int.emod_eq_of_lt (by omega) (by omega)
  have e2 : (x + (q - w)) % q = if w ≤ x then x - w else x + q - w := by
    split
    · rw [show x + (q - w) = (x - w) + q by omega, Nat.add_mod_right]
      exact Nat.mod_eq_of_lt (by omega)
    · rw [show x + (q - w) = x + q - w by omega]
      exact Nat.mod_eq_of_lt (by omega)
  rw [e1, e2]
  split <;> split <;> omega
/-- of a place's q*u possible values just u are hit -/
theorem place_hits (q u x : Nat) (hq : 0 < q) (hu : 0 < u) (hx : x < q) : sumR (q * u) (fun v => if hit q u x (splitV u v) = true then 1 else 0) = u := by
  rw [sumR_mul, sumR_swap]
  have h : ∀ n, n < u → sumR q (fun t => if hit q u x (splitV u (t * u + n)) = true then 1 else 0) = 1 := fun n hn => by
    have e : ∀ t, splitV u (t * u + n) = (t, n) := fun t => by
      unfold splitV
      rw [Nat.mul_comm t u, Nat.mul_add_div hu, Nat.div_eq_of_lt hn, Nat.mul_add_mod, Nat.mod_eq_of_lt hn, Nat.add_zero]
    rw [sumR_congr q (g := fun t => if t = (x + (q - n * q / u)) % q then 1 else 0) (fun t ht => ?_)]
    · exact sumR_one _ q (Nat.mod_lt _ hq)
    · rw [e t]
      by_cases c : hit q u x (t, n) = true
      · rw [if_pos c, if_pos ((hit_iff hq hx ht hn).mp c)]
      · rw [if_neg c, if_neg (fun z => c ((hit_iff hq hx ht hn).mpr z))]
  rw [sumR_congr u (g := fun _ => 1) h, sumR_const, Nat.mul_one]
end L

namespace L
open PySem PySem.Spec PyProof.Rows L2 BV
/-- how many of the keys have j hits -/
def cntK (q u : Nat) (xs : List Nat) (j : Nat) (ks : List (List (Nat × Nat))) : Nat := (ks.map fun k => if hp q u xs k = j then 1 else 0).sum
def binN (q u n j : Nat) : Nat := if j ≤ n then cc (n - j) j * u ^ n * (q - 1) ^ (n - j) else 0
theorem hp_snoc (q u x : Nat) (p : Nat × Nat) : ∀ (xs : List Nat) (k : List (Nat × Nat)), k.length = xs.length → hp q u (xs ++ [x]) (k ++ [p]) = hp q u xs k + if hit q u x p = true then 1 else 0
  | [], [], _ => by
    show (if hit q u x p = true then 1 else 0) + hp q u [] [] = hp q u [] [] + _
    rw [Nat.add_comm]
  | y :: xs, r :: k, h => by
    show (if hit q u y r = true then 1 else 0) + hp q u (xs ++ [x]) (k ++ [p]) = ((if hit q u y r = true then 1 else 0) + hp q u xs k) + _
    rw [hp_snoc q u x p xs k (by simpa using h), Nat.add_assoc]
  | [], _ :: _, h => by cases h
  | _ :: _, [], h => by cases h
theorem sum_range (f : Nat → Nat) : ∀ n, ((List.range n).map f).sum = sumR n f
  | 0 => rfl
  | n + 1 => by
    rw [List.range_succ, List.map_append, List.sum_append, sum_range f n, sumR]
    simp
theorem sumR_mulc (f : Nat → Nat) (c : Nat) : ∀ n, sumR n (fun i => f i * c) = sumR n f * c
  | 0 => by rw [sumR, sumR, Nat.zero_mul]
  | n + 1 => by rw [sumR, sumR, sumR_mulc f c n, Nat.add_mul]
/-- the keys grown from one key -/
theorem grown (q u x : Nat) (hq : 0 < q) (hu : 0 < u) (hx : x < q) (xs : List Nat) (k : List (Nat × Nat)) (hk : k.length = xs.length) (j : Nat) :
    cntK q u (xs ++ [x]) j (longer q u k) = (if hp q u xs k + 1 = j then u else 0) + (if hp q u xs k = j then u * (q - 1) else 0) := by
  have h := place_hits q u x hq hu hx
  have hc : sumR (q * u) (fun v => if hit q u x (splitV u v) = true then 0 else 1) = u * (q - 1) := by
    have e : sumR (q * u) (fun v => (if hit q u x (splitV u v) = true then 1 else 0) + (if hit q u x (splitV u v) = true then 0 else 1)) = q * u * 1 := by
      rw [sumR_congr (q * u) (g := fun _ => 1) (fun v _ => by split <;> rfl), sumR_const]
    rw [sumR_add, h, Nat.mul_one] at e
    generalize sumR (q * u) (fun v => if hit q u x (splitV u v) = true then 0 else 1) = S at *
    obtain ⟨m, rfl⟩ : ∃ m, q = m + 1 := ⟨q - 1, by omega⟩
    rw [Nat.succ_mul] at e
    rw [Nat.add_sub_cancel, Nat.mul_comm u m]
    omega
  unfold cntK longer
  rw [List.map_map, sum_range]
  rw [sumR_congr (q * u) (g := fun v => (if hit q u x (splitV u v) = true then 1 else 0) * (if hp q u xs k + 1 = j then 1 else 0) + (if hit q u x (splitV u v) = true then 0 else 1) * (if hp q u xs k = j then 1 else 0)) (fun v _ => by
    show (if hp q u (xs ++ [x]) (k ++ [splitV u v]) = j then 1 else 0) = _
    rw [hp_snoc q u x _ xs k hk]
    by_cases c : hit q u x (splitV u v) = true
    · simp [c]
    · simp [c])]
  rw [sumR_add, sumR_mulc, sumR_mulc, h, hc]
  congr 1
  · split <;> simp
  · split <;> simp
theorem cnt_flat (q u x : Nat) (hq : 0 < q) (hu : 0 < u) (hx : x < q) (xs : List Nat) (j : Nat) : ∀ ks : List (List (Nat × Nat)), (∀ k ∈ ks, k.length = xs.length) →
    cntK q u (xs ++ [x]) j (ks.flatMap (longer q u)) = (match j with
      | 0 => 0
      | j + 1 => cntK q u xs j ks * u) + cntK q u xs j ks * (u * (q - 1))
  | [], _ => by cases j <;> simp [cntK]
  | k :: ks, h => by
    have ih := cnt_flat q u x hq hu hx xs j ks (fun k hk => h k (List.mem_cons_of_mem _ hk))
    have e : cntK q u (xs ++ [x]) j ((k :: ks).flatMap (longer q u)) = cntK q u (xs ++ [x]) j (longer q u k) + cntK q u (xs ++ [x]) j (ks.flatMap (longer q u)) := by
      unfold cntK
      rw [List.flatMap_cons, List.map_append, List.sum_append]
    have c1 : ∀ i, cntK q u xs i (k :: ks) = (if hp q u xs k = i then 1 else 0) + cntK q u xs i ks := fun i => by
      unfold cntK
      rw [List.map_cons, List.sum_cons]
    rw [e, ih, grown q u x hq hu hx xs k (h k List.mem_cons_self), c1]
    cases j with
    | zero =>
      rw [if_neg (Nat.succ_ne_zero _)]
      dsimp only
      rw [Nat.add_mul]
      split <;> omega
    | succ j =>
      dsimp only
      rw [c1, Nat.add_mul, Nat.add_mul]
      have s1 : (if hp q u xs k + 1 = j + 1 then u else 0) = (if hp q u xs k = j then 1 else 0) * u := by
        by_cases c : hp q u xs k = j
        · rw [if_pos c, if_pos (by omega), Nat.one_mul]
        · rw [if_neg c, if_neg (by omega), Nat.zero_mul]
      have s2 : (if hp q u xs k = j + 1 then u * (q - 1) else 0) = (if hp q u xs k = j + 1 then 1 else 0) * (u * (q - 1)) := by
        split <;> simp
      rw [s1, s2]
      omega
theorem binN_step (q u n j : Nat) : binN q u (n + 1) j = (match j with
      | 0 => 0
      | j + 1 => binN q u n j * u) + binN q u n j * (u * (q - 1)) := by
  cases j with
  | zero =>
    unfold binN
    dsimp only
    rw [if_pos (Nat.zero_le _), if_pos (Nat.zero_le _), cc_zero, cc_zero, Nat.sub_zero, Nat.sub_zero, Nat.pow_succ, Nat.pow_succ, Nat.zero_add, Nat.one_mul, Nat.one_mul, Nat.mul_mul_mul_comm]
  | succ j =>
    dsimp only
    unfold binN
    by_cases h1 : j + 1 ≤ n
    · obtain ⟨m, rfl⟩ : ∃ m, n = m + (j + 1) := ⟨n - (j + 1), by omega⟩
      rw [if_pos (by omega), if_pos (by omega), if_pos (by omega), show m + (j + 1) + 1 - (j + 1) = m + 1 by omega, show m + (j + 1) - j = m + 1 by omega, show m + (j + 1) - (j + 1) = m by omega, cc_succ, Nat.pow_succ u, Nat.pow_succ (q - 1)]
      generalize u ^ (m + (j + 1)) = U
      generalize (q - 1) ^ m = Q
      generalize cc (m + 1) j = c1
      generalize cc m (j + 1) = c2
      generalize q - 1 = r
      have a1 : c1 * U * (Q * r) * u = c1 * (U * u * (Q * r)) := by
        rw [Nat.mul_assoc c1, Nat.mul_assoc c1, Nat.mul_right_comm U]
      have a2 : c2 * U * Q * (u * r) = c2 * (U * u * (Q * r)) := by
        rw [Nat.mul_assoc c2, Nat.mul_assoc c2, Nat.mul_mul_mul_comm]
      rw [a1, a2, ← Nat.add_mul, Nat.mul_assoc (c1 + c2)]
    · by_cases h2 : j ≤ n
      · obtain rfl : j = n := by omega
        rw [if_neg h1]
        simp [cc_one, Nat.pow_succ]
      · rw [if_neg (by omega), if_neg h2, if_neg h1, Nat.zero_mul, Nat.zero_mul]
theorem cnt_is (q u : Nat) (hq : 0 < q) (hu : 0 < u) : ∀ (n : Nat) (xs : List Nat), xs.length = n → (∀ x ∈ xs, x < q) → ∀ j, cntK q u xs j (keysP q u n) = binN q u n j
  | 0, xs, hl, hx, j => by
    have e : xs = [] := List.eq_nil_of_length_eq_zero hl
    subst e
    rw [keysP]
    unfold cntK binN
    cases j with
    | zero => rw [if_pos (Nat.le_refl 0), cc_zero]; rfl
    | succ j => rw [if_neg (by omega)]; rfl
  | n + 1, xs, hl, hx, j => by
    obtain ⟨ys, x, rfl⟩ : ∃ ys x, xs = ys ++ [x] := ⟨xs.dropLast, xs.getLast (by intro e; rw [e] at hl; cases hl), (List.dropLast_concat_getLast _).symm⟩
    have hy : ys.length = n := by rw [List.length_append, List.length_singleton] at hl; omega
    have ih := cnt_is q u hq hu n ys hy (fun y h => hx y (List.mem_append_left _ h))
    rw [keysP, cnt_flat q u x hq hu (hx x (by simp)) ys j _ (fun k hk => by rw [keysP_each q u n k hk, hy]), binN_step]
    cases j with
    | zero => rw [ih 0]
    | succ j => dsimp only; rw [ih j, ih (j + 1)]
end L

set_option exponentiation.threshold 20000
namespace L
open PySem PySem.Spec PyProof.Rows L2 BV
section
variable {K : PySem.W.Frag} {A : Ad}
theorem short_loop (q u : Nat) (hq : q < 100) (hu : u < 100) (len : Nat) (hl : len ≤ 8) (s0 s1 s5 : Option W) (r : List (Option W)) :
    ∃ (len' : Nat) (s5' : Option W), len' ≤ 8 ∧ (q * u) ^ len' ≤ 256 ∧ forL (gNm fl_l_counts_fit 5) (m_l_counts_fit_b1 K A) (intsW 0 8) (s0 :: s1 :: some (iW q) :: some (iW u) :: some (iW len) :: s5 :: r) = .next (s0 :: s1 :: some (iW q) :: some (iW u) :: some (iW len') :: s5' :: r) := by
  obtain ⟨L', e, len', s5', rfl, h1, h2⟩ := for_all (g := gNm fl_l_counts_fit 5) (body := m_l_counts_fit_b1 K A) (ws := intsW 0 8) (L := s0 :: s1 :: some (iW q) :: some (iW u) :: some (iW len) :: s5 :: r)
    (fun i L => ∃ (len' : Nat) (s5' : Option W), L = (s0 :: s1 :: some (iW q) :: some (iW u) :: some (iW len') :: s5' :: r) ∧ len' ≤ 8 ∧ ((q * u) ^ len' ≤ 256 ∨ len' + i ≤ 8))
    (fun i w L hw ⟨l0, s5', e, h1, h2⟩ => by
      subst e
      obtain ⟨l1, k1, k2, k3, k4⟩ := short_turn (K := K) (A := A) q u hq hu l0 (by omega) w s0 s1 s5' r
      refine ⟨_, k4, l1, _, rfl, by omega, ?_⟩
      by_cases c : 256 < (q * u) ^ l0
      · right
        have := k2 c
        rcases h2 with h2 | h2
        · omega
        · omega
      · left
        rw [k3 c]
        omega) ⟨len, s5, rfl, hl, .inr hl⟩
  rw [intsW_len] at h2
  refine ⟨len', s5', h1, ?_, e⟩
  rcases h2 with h2 | h2
  · exact h2
  · obtain rfl : len' = 0 := by omega
    rw [Nat.pow_zero]
    decide
end
end L

set_option exponentiation.threshold 20000
namespace L
open PySem PySem.Spec PyProof.Rows L2 BV
theorem hp_le (q u : Nat) : ∀ (xs : List Nat) (k : List (Nat × Nat)), hp q u xs k ≤ xs.length
  | [], [] => Nat.le_refl _
  | [], _ :: _ => Nat.le_refl _
  | _ :: _, [] => Nat.zero_le _
  | x :: xs, p :: k => by
    rw [hp, List.length_cons]
    have := hp_le q u xs k
    split <;> omega
section
variable {K : PySem.W.Frag} {A : Ad}
theorem count_turn (q u len : Nat) (hq : 0 < q) (hu : 0 < u) (hq2 : q < 100) (hu2 : u < 100) (hl : len < 100) {al tx : Str} (hn : al.cps.toList.Nodup) (hal : al.length = q) (xs : List Nat) (hxs : xs.length = len) (hs : Spell al xs tx.cps.toList) (k : List (Nat × Nat)) (hk : k.length = len) (hp2 : ∀ p ∈ k, p.2 < 100)
    (cs : List Int) (hcs : cs.length = len + 2) (c : Int) (hc : cs[hp q u xs k]? = some c) (t : Int) (s0 s5 s9 s10 s11 s12 s13 s14 : Option W) :
    turnF (gNm fl_l_counts_fit 9) (m_l_counts_fit_b5 K A) (.frz (kD k)) [s0, some (.frz (.str al)), some (iW (q : Nat)), some (iW (u : Nat)), some (iW (len : Nat)), s5, some (.frz (.str tx)), some (oI cs), some (iW t), s9, s10, s11, s12, s13, s14] =
      .next [s0, some (.frz (.str al)), some (iW (q : Nat)), some (iW (u : Nat)), some (iW (len : Nat)), s5, some (.frz (.str tx)), some (oI (cs.set (hp q u xs k) (c + 1))), some (iW (t + 1)), some (.frz (kD k)), s10, some (iW ((hp q u xs k : Nat) : Int)), s12, s13, s14] := by
  have e1 := hits_is (K := K) (A := A) q u hq hu hq2 hu2 hn hal xs k hs (by omega) hp2
  have hle := hp_le q u xs k
  have w := fun i => whole_is (K := K) (A := A) i
  have i1 : (0 : Int) ≤ ((hp q u xs k : Nat) : Int) := by omega
  have i2 : ((hp q u xs k : Nat) : Int) ≤ ((len : Nat) : Int) := by omega
  have ix : ∀ L : Lc, kR ixW (some (oI cs)) (some (.frz (.int ((hp q u xs k : Nat) : Int)))) L = .ok (.val (.frz (.int c))) L := fun L => kR_of (ixl_nat (by rw [List.getElem?_map, hc]; rfl))
  have hixn : ixN ((cs.map D.int).map W.frz).length ((hp q u xs k : Nat) : Int) = some (hp q u xs k) := ixN_nat (by rw [List.length_map, List.length_map, hcs]; omega)
  have hset : ((cs.map D.int).map W.frz).set (hp q u xs k) (.frz (.int (c + 1))) = ((cs.set (hp q u xs k) (c + 1)).map D.int).map W.frz := by rw [List.map_set, List.map_set]
  unfold oI at *
  rw [← hset, turn_is]
  generalize (cs.map D.int).map W.frz = ws at *
  generalize kD k = kd at *
  generalize hhn : hp q u xs k = hN at *
  generalize ((hN : Nat) : Int) = h1 at *
  generalize ((len : Nat) : Int) = l1 at *
  generalize ((q : Nat) : Int) = q1 at *
  generalize ((u : Nat) : Int) = u1 at *
  have hch : mChain cLe cLe (mC (.int 0)) (mVar 11) (mVar 4) [s0, some (.frz (.str al)), some (iW q1), some (iW u1), some (iW l1), s5, some (.frz (.str tx)), some (.olst ws), some (iW t), some (.frz kd), s10, some (iW h1), s12, s13, s14] = .ok (bR true) [s0, some (.frz (.str al)), some (iW q1), some (iW u1), some (iW l1), s5, some (.frz (.str tx)), some (.olst ws), some (iW t), some (.frz kd), s10, some (iW h1), s12, s13, s14] := by
    unfold mChain
    simp [i1, i2]
  simp [m_l_counts_fit_b5, e1, w, hch, ix, hixn]
end
end L

set_option exponentiation.threshold 20000
namespace L
open PySem PySem.Spec PyProof.Rows L2 BV
theorem cnt_snoc (q u : Nat) (xs : List Nat) (j : Nat) (ks : List (List (Nat × Nat))) (k : List (Nat × Nat)) : cntK q u xs j (ks ++ [k]) = cntK q u xs j ks + if hp q u xs k = j then 1 else 0 := by
  unfold cntK
  rw [List.map_append, List.sum_append]
  simp
section
variable {K : PySem.W.Frag} {A : Ad}
theorem count_loop (q u len : Nat) (hq : 0 < q) (hu : 0 < u) (hq2 : q < 100) (hu2 : u < 100) (hl : len < 100) {al tx : Str} (hn : al.cps.toList.Nodup) (hal : al.length = q) (xs : List Nat) (hxs : xs.length = len) (hs : Spell al xs tx.cps.toList) (ks : List (List (Nat × Nat))) (hks : ∀ k ∈ ks, k.length = len ∧ ∀ p ∈ k, p.2 < 100)
    (cs0 : List Int) (h0 : cs0.length = len + 2) (hz : ∀ j, j < len + 2 → cs0[j]? = some 0) (s0 s5 s9 s10 s11 s12 s13 s14 : Option W) :
    ∃ cs s9' s11', cs.length = len + 2 ∧ (∀ j, j < len + 2 → cs[j]? = some ((cntK q u xs j ks : Nat) : Int)) ∧
    forL (gNm fl_l_counts_fit 9) (m_l_counts_fit_b5 K A) ((ks.map kD).map .frz) [s0, some (.frz (.str al)), some (iW (q : Nat)), some (iW (u : Nat)), some (iW (len : Nat)), s5, some (.frz (.str tx)), some (oI cs0), some (iW 0), s9, s10, s11, s12, s13, s14] =
      .next [s0, some (.frz (.str al)), some (iW (q : Nat)), some (iW (u : Nat)), some (iW (len : Nat)), s5, some (.frz (.str tx)), some (oI cs), some (iW (ks.length : Nat)), s9', s10, s11', s12, s13, s14] := by
  obtain ⟨L', e, cs, s9', s11', rfl, h1, h2⟩ := for_all (g := gNm fl_l_counts_fit 9) (body := m_l_counts_fit_b5 K A) (ws := (ks.map kD).map .frz) (L := [s0, some (.frz (.str al)), some (iW (q : Nat)), some (iW (u : Nat)), some (iW (len : Nat)), s5, some (.frz (.str tx)), some (oI cs0), some (iW 0), s9, s10, s11, s12, s13, s14])
    (fun i L => ∃ cs s9 s11, L = [s0, some (.frz (.str al)), some (iW (q : Nat)), some (iW (u : Nat)), some (iW (len : Nat)), s5, some (.frz (.str tx)), some (oI cs), some (iW (i : Nat)), s9, s10, s11, s12, s13, s14] ∧ cs.length = len + 2 ∧ ∀ j, j < len + 2 → cs[j]? = some ((cntK q u xs j (ks.take i) : Nat) : Int))
    (fun i w L hw ⟨cs, s9, s11, e, h1, h2⟩ => by
      rw [List.getElem?_map, List.getElem?_map] at hw
      obtain ⟨d, hd, rfl⟩ := map_some hw
      obtain ⟨k, hk, rfl⟩ := map_some hd
      subst e
      obtain ⟨hk1, hk2⟩ := hks k (List.mem_of_getElem? hk)
      have hle := hp_le q u xs k
      have tt := count_turn (K := K) (A := A) q u len hq hu hq2 hu2 hl hn hal xs hxs hs k hk1 hk2 cs h1 _ (h2 (hp q u xs k) (by omega)) (i : Nat) s0 s5 s9 s10 s11 s12 s13 s14
      refine ⟨_, tt, cs.set (hp q u xs k) _, _, _, rfl, by rw [List.length_set, h1], fun j hj => ?_⟩
      rw [List.take_add_one, hk, Option.toList_some, cnt_snoc, List.getElem?_set]
      by_cases c : hp q u xs k = j
      · subst c
        rw [if_pos rfl, if_pos (by omega), if_pos rfl]
        congr 1
      · rw [if_neg c, if_neg c, h2 j hj, Nat.add_zero])
    ⟨cs0, s9, s11, rfl, h0, fun j hj => by rw [hz j hj]; rfl⟩
  rw [List.length_map, List.length_map] at h2
  rw [List.length_map, List.length_map] at e
  rw [List.take_length] at h2
  exact ⟨cs, s9', s11', h1, h2, e⟩
end
end L

set_option exponentiation.threshold 20000
namespace L
open PySem PySem.Spec PyProof.Rows L2 BV
theorem cutL_drop {α : Type} (ws : List α) (n : Nat) (h : n ≤ ws.length) : cutL ws (some (n : Int)) none = ws.drop n := by
  unfold cutL
  rw [show HT.sIx ws.length 0 (some (n : Int)) = min n ws.length from HT.sIx_nat ws.length 0 n, HT.sIx_none, Nat.min_eq_left h]
  exact List.take_of_length_le (by rw [List.length_drop]; omega)
/-- what the law sums: the counts from least on -/
theorem drop_sum (q u : Nat) (len : Nat) (cs : List Int) (h : cs.length = len + 2) (hj : ∀ j, j < len + 2 → cs[j]? = some ((binN q u len j : Nat) : Int)) : ∀ (n lo : Nat), lo + n = len + 1 →
    (cs.drop lo).sum = ((u ^ len : Nat) : Int) * (terms q len n lo).sum
  | 0, lo, hl => by
    obtain rfl : lo = len + 1 := by omega
    have e := hj (len + 1) (by omega)
    obtain ⟨hlt, e2⟩ := List.getElem?_eq_some_iff.mp e
    rw [List.drop_eq_getElem_cons hlt, e2, List.drop_of_length_le (by omega)]
    unfold binN
    rw [if_neg (by omega), terms]
    simp
  | n + 1, lo, hl => by
    have e := hj lo (by omega)
    obtain ⟨hlt, e2⟩ := List.getElem?_eq_some_iff.mp e
    rw [List.drop_eq_getElem_cons hlt, e2, List.sum_cons, drop_sum q u len cs h hj n (lo + 1) (by omega), terms, List.sum_cons, Int.mul_add]
    congr 1
    unfold binN term
    rw [if_pos (by omega)]
    rw [Int.natCast_mul, Int.natCast_mul, Int.natCast_pow (q - 1), Int.mul_comm ((cc (len - lo) lo : Nat) : Int), Int.mul_assoc]
end L

set_option exponentiation.threshold 20000
namespace L
open PySem PySem.Spec PyProof.Rows L2 BV
section
variable {K : PySem.W.Frag} {A : Ad}
theorem met_turn (q u len lo : Nat) (hq : 0 < q) (hu : 0 < u) (hq2 : q < 100) (hu2 : u < 100) (hl : len < 100) (hs : (q * u) ^ len ≤ 256) (hlo : lo ≤ len + 1) (cs : List Int) (hcs : cs.length = len + 2) (hj : ∀ j, j < len + 2 → cs[j]? = some ((binN q u len j : Nat) : Int)) (s0 s1 s3 s5 s6 s9 s10 s11 s14 : Option W) :
    ∃ s14', turnF (gNm fl_l_counts_fit 10) (m_l_counts_fit_b6 K A) (iW (lo : Nat)) [s0, s1, some (iW (q : Nat)), s3, some (iW (len : Nat)), s5, s6, some (oI cs), some (iW ((((q * u) ^ len : Nat)) : Int)), s9, s10, s11, some (.frz (tailD q len)), some (iW ((q ^ len : Nat) : Int)), s14] =
      .next [s0, s1, some (iW (q : Nat)), s3, some (iW (len : Nat)), s5, s6, some (oI cs), some (iW ((((q * u) ^ len : Nat)) : Int)), s9, some (iW (lo : Nat)), s11, some (.frz (tailD q len)), some (iW ((q ^ len : Nat) : Int)), s14'] := by
  have hq3 : q < 2 ^ 16 := by omega
  have hF : 0 < q ^ len := Nat.pow_pos hq
  have hU : 0 < u ^ len := Nat.pow_pos hu
  have hQ : 0 < (q * u) ^ len := Nat.pow_pos (Nat.mul_pos hq hu)
  have bT := tailN_lt q len lo hq3 hl hlo
  have bF := full_lt q len hq3 hl
  have hmp : (q * u) ^ len = q ^ len * u ^ len := Nat.mul_pow q u len
  have hUle : u ^ len ≤ 256 := by
    have : 1 * u ^ len ≤ q ^ len * u ^ len := Nat.mul_le_mul_right _ hF
    omega
  have hsum : (cs.drop lo).sum = ((u ^ len * tailN q len lo : Nat) : Int) := by
    rw [drop_sum q u len cs hcs hj (len + 1 - lo) lo (by omega), Int.natCast_mul, tailN_eq]
    rfl
  have e1 := hit_tail_is (K := K) (A := A) q len lo hq hq3 hl hlo
  have e2 := share_is (K := K) (A := A) (tailN q len lo) (q ^ len) (u ^ len * tailN q len lo) ((q * u) ^ len) hF hQ (Nat.lt_of_le_of_lt hs (Nat.lt_of_lt_of_le (show 256 < 2 ^ 9 by decide) (Nat.pow_le_pow_right (by decide) (by decide)))) (by rw [hmp, Nat.mul_comm (q ^ len), ← Nat.mul_assoc, Nat.mul_comm (tailN q len lo)])
  have hfr := shO_fr (C := A.Share) (o := ((tailN q len lo / Nat.gcd (tailN q len lo) (q ^ len) : Nat) : Int)) (u := ((q ^ len / Nat.gcd (tailN q len lo) (q ^ len) : Nat) : Int))
  have bm : Bit 4009 ((u ^ len * tailN q len lo : Nat) : Int) := by
    rw [Int.natCast_mul]
    exact ((bitN (n := 9) (show u ^ len < 2 ^ 9 by omega)).mul (bitN bT)).mono (by decide)
  have m1 := bm.szM (bitN bF) (by decide)
  have m2 := (bitN bT).szM (bitN (n := 9) (show (q * u) ^ len < 2 ^ 9 by omega)) (by decide)
  have eq : ((u ^ len * tailN q len lo : Nat) : Int) * ((q ^ len : Nat) : Int) = ((tailN q len lo : Nat) : Int) * (((q * u) ^ len : Nat) : Int) := by
    have en : u ^ len * tailN q len lo * q ^ len = tailN q len lo * (q ^ len * u ^ len) := by rw [Nat.mul_comm (u ^ len), Nat.mul_assoc, Nat.mul_comm (u ^ len)]
    rw [← Int.natCast_mul, ← Int.natCast_mul, hmp, en]
  have ix : ∀ L : Lc, kR ixW (some (.frz (tailD q len))) (some (.frz (.int (lo : Nat)))) L = .ok (.val (.frz (.int ((tailN q len lo : Nat) : Int)))) L := fun L => kR_of (ixf_nat (by rw [List.getElem?_map, tails_get q len lo hlo, tailN_eq]; rfl))
  have hslw : slW (oI cs) (some (lo : Int)) none = some (oI (cs.drop lo)) := by
    unfold slW
    rw [show (oI cs).str? = none from rfl]
    dsimp only
    rw [show (oI cs).seq = some ((cs.map D.int).map W.frz) from seq_l _, show (oI cs).isLst = true from rfl, if_pos rfl, Option.map_some, cutL_drop _ _ (by rw [List.length_map, List.length_map]; omega), ← List.map_drop, ← List.map_drop]
  have hsl := fun L : Lc => slR_of (L := L) hslw
  have lk : ∀ L : Lc, look 7 (some (some (oI cs))) L = .ok (.al 7) L := fun _ => rfl
  have hf : ∀ L : Lc, f1 sumD [.val (oI (cs.drop lo))] L = .ok (.val (.frz (.int ((u ^ len * tailN q len lo : Nat) : Int)))) L := fun L => by
    rw [e_f1l]
    refine f1R_of ?_
    rw [rd_lst, sumD_map, hsum]
  refine ⟨some (iW ((u ^ len * tailN q len lo : Nat) : Int)), ?_⟩
  rw [turn_is]
  generalize oI (cs.drop lo) = dw at *
  generalize oI cs = cw at *
  generalize tailD q len = td at *
  generalize ((u ^ len * tailN q len lo : Nat) : Int) = mt at *
  generalize ((tailN q len lo / Nat.gcd (tailN q len lo) (q ^ len) : Nat) : Int) = t1 at *
  generalize ((q ^ len / Nat.gcd (tailN q len lo) (q ^ len) : Nat) : Int) = f1' at *
  generalize ((tailN q len lo : Nat) : Int) = tn at *
  generalize (((q * u) ^ len : Nat) : Int) = tot at *
  generalize ((q ^ len : Nat) : Int) = fu at *
  generalize ((q : Nat) : Int) = q1 at *
  generalize ((len : Nat) : Int) = l1 at *
  generalize ((lo : Nat) : Int) = lo1 at *
  generalize shO A.Share t1 f1' = so at *
  generalize sh A.Share t1 f1' = sd at *
  simp [m_l_counts_fit_b6, lk, hsl, hf, m1, ix, m2, eq, e1, hfr, e2]
end
end L

set_option exponentiation.threshold 20000
namespace L
open PySem PySem.Spec PyProof.Rows L2 BV
/-- what is asked: a row's kinds and its length -/
def Ask (d : D) : Prop := ∃ q len : Nat, d = .tup [.int (q : Nat), .int (len : Nat)] ∧ 0 < q ∧ q < 2 ^ 16 ∧ len < 100
/-- what the counting part must give -/
def CountsOk (K : PySem.W.Frag) (A : Ad) : Prop := ∀ a b c, Ok 900000000 a b c → ∃ a' b' c', fn_l_counts_fit K A [st a b c] = .ok (.frz (.bl true)) [st a' b' c']
section
variable {K : PySem.W.Frag} {A : Ad}
theorem pick3 (x y : Int) (hx : 0 ≤ x) (hx2 : x < 3) (hy : 0 ≤ y) (hy2 : y < 2) (u : Nat) (hu : u < 100) : ∃ len : Nat, len < 100 ∧ ∀ L : Lc, kR ixW (some (.olst [.frz (.int (u : Nat)), .frz (.int 10), .frz (.int 0)])) (some (.frz (.int (x * y)))) L = .ok (.val (.frz (.int (len : Nat)))) L := by
  have cases3 : x * y = 0 ∨ x * y = 1 ∨ x * y = 2 := by
    have hx3 : x = 0 ∨ x = 1 ∨ x = 2 := by omega
    have hy3 : y = 0 ∨ y = 1 := by omega
    rcases hx3 with rfl | rfl | rfl <;> rcases hy3 with rfl | rfl <;> decide
  rcases cases3 with e | e | e <;> rw [e]
  · exact ⟨u, hu, fun L => kR_of (ixl_nat (ds := [.int (u : Nat), .int 10, .int 0]) (i := 0) rfl)⟩
  · exact ⟨10, by decide, fun L => kR_of (ixl_nat (ds := [.int (u : Nat), .int 10, .int 0]) (i := 1) rfl)⟩
  · exact ⟨0, by decide, fun L => kR_of (ixl_nat (ds := [.int (u : Nat), .int 10, .int 0]) (i := 2) rfl)⟩
theorem whole_turn1 (ns : List Int) (hl : ns.length ≤ 63) (i : Nat) (hi : i < 2) (ds : List D) (hds : ds.length ≤ 10) (s2 s3 s4 s5 : Option W) :
    ∃ d s3' s4' s5', Ask d ∧ turnF (gNm fl_l_whole 2) (m_l_whole_b1 K A) (iW (i : Nat)) [some (.frz (.lok (ns.map D.int))), some (.olst (ds.map .frz)), s2, s3, s4, s5] =
      .next [some (.frz (.lok (ns.map D.int))), some (.olst ((ds ++ [d]).map .frz)), some (iW (i : Nat)), s3', s4', s5'] := by
  obtain ⟨a0, b0, c0, e0, o0⟩ := stream_is (K := K) (A := A) ns i (by omega) hl
  obtain ⟨a1, b1, c1, x, e1, x0, x1, o1⟩ := draw_is (K := K) (A := A) (n := 100003) (o0.mono (by decide)) (many := 6) (by decide) (bit31 (by decide) (by decide))
  obtain ⟨a2, b2, c2, y, e2, y0, y1, o2⟩ := draw_is (K := K) (A := A) (n := 100002) o1 (many := 11) (by decide) (bit31 (by decide) (by decide))
  obtain ⟨a3, b3, c3, z, e3, z0, z1, o3⟩ := draw_is (K := K) (A := A) (n := 100001) o2 (many := 3) (by decide) (bit31 (by decide) (by decide))
  obtain ⟨a4, b4, c4, v, e4, v0, v1, o4⟩ := draw_is (K := K) (A := A) (n := 100000) o3 (many := 2) (by decide) (bit31 (by decide) (by decide))
  obtain ⟨xN, rfl⟩ : ∃ k : Nat, x = (k : Nat) := ⟨x.toNat, by omega⟩
  obtain ⟨yN, rfl⟩ : ∃ k : Nat, y = (k : Nat) := ⟨y.toNat, by omega⟩
  obtain ⟨len, hlen, ix⟩ := pick3 z v z0 z1 v0 v1 yN (by omega)
  have hm : SzM z v := (Bit.of (n := 31) z0 (by omega)).szM (Bit.of (n := 31) v0 (by omega)) (by decide)
  have e5 := tails_fit_is (K := K) (A := A) (1 + xN) len (by omega) (by omega) hlen
  obtain ⟨a6, b6, c6, e6, o6⟩ := levels_fit_is (K := K) (A := A) (n := 0) (o4.mono (by decide)) (1 + xN) len (by omega) (by omega) hlen
  have eq1 : (1 : Int) + ((xN : Nat) : Int) = ((1 + xN : Nat) : Int) := by omega
  have hap : (ds.map W.frz).length < sizeLine := by
    rw [List.length_map]
    exact small1000 (by omega)
  have em : (ds ++ [D.tup [.int (1 + xN : Nat), .int (len : Nat)]]).map W.frz = ds.map W.frz ++ [.frz (.tup [.int (1 + xN : Nat), .int (len : Nat)])] := by rw [List.map_append]; rfl
  refine ⟨.tup [.int (1 + xN : Nat), .int (len : Nat)], some (st a6 b6 c6), some (iW (1 + xN : Nat)), some (iW (len : Nat)), ⟨_, _, rfl, by omega, by omega, hlen⟩, ?_⟩
  rw [em, turn_is]
  generalize D.lok (ns.map D.int) = sc0 at *
  generalize ds.map W.frz = dd at *
  generalize ((1 + xN : Nat) : Int) = q1 at *
  generalize ((xN : Nat) : Int) = x1 at *
  generalize ((yN : Nat) : Int) = y1 at *
  generalize ((len : Nat) : Int) = l1 at *
  generalize ((i : Nat) : Int) = i1 at *
  simp [m_l_whole_b1, e0, e1, e2, e3, e4, e5, e6, eq1, hm, ix, hap]
theorem whole_loop1 (ns : List Int) (hl : ns.length ≤ 63) : ∃ d1 d2 s2 s3 s4 s5, Ask d1 ∧ Ask d2 ∧ forL (gNm fl_l_whole 2) (m_l_whole_b1 K A) (intsW 0 2) [some (.frz (.lok (ns.map D.int))), some (.olst []), none, none, none, none] =
      .next [some (.frz (.lok (ns.map D.int))), some (.olst [.frz d1, .frz d2]), s2, s3, s4, s5] := by
  obtain ⟨L', e, ds, s2, s3, s4, s5, rfl, hlen, hall⟩ := for_all (g := gNm fl_l_whole 2) (body := m_l_whole_b1 K A) (ws := intsW 0 2) (L := [some (.frz (.lok (ns.map D.int))), some (.olst []), none, none, none, none])
    (fun i L => ∃ ds s2 s3 s4 s5, L = [some (.frz (.lok (ns.map D.int))), some (.olst (ds.map .frz)), s2, s3, s4, s5] ∧ ds.length = i ∧ ∀ d ∈ ds, Ask d)
    (fun i w L hw ⟨ds, s2, s3, s4, s5, e, hlen, hall⟩ => by
      obtain ⟨hi, rfl⟩ := intsW_get hw
      subst e
      rw [Int.zero_add]
      obtain ⟨d, s3', s4', s5', hd, e2⟩ := whole_turn1 (K := K) (A := A) ns hl i hi ds (by omega) s2 s3 s4 s5
      exact ⟨_, e2, ds ++ [d], _, _, _, _, rfl, by rw [List.length_append, hlen]; rfl, fun u hu => by
        rcases List.mem_append.mp hu with h | h
        · exact hall u h
        · rw [List.mem_singleton.mp h]; exact hd⟩) ⟨[], none, none, none, none, rfl, rfl, fun d hd => by cases hd⟩
  rw [intsW_len] at hlen
  match ds, hlen with
  | [d1, d2], _ => exact ⟨d1, d2, s2, s3, s4, s5, hall d1 (by simp), hall d2 (by simp), e⟩
theorem whole_turn2 {n : Nat} {a b c : Int} (o : Ok (n + 48) a b c) {d : D} (hd : Ask d) (s0 s1 s2 s4 s5 : Option W) :
    ∃ a' b' c' s4' s5', Ok n a' b' c' ∧ turnF (gTp 2 (gsCons (gNm fl_l_whole 4) (gsCons (gNm fl_l_whole 5) gsNil))) (m_l_whole_b2 K A) (.frz d) [s0, s1, s2, some (st a b c), s4, s5] = .next [s0, s1, s2, some (st a' b' c'), s4', s5'] := by
  obtain ⟨q, len, rfl, h1, h2, h3⟩ := hd
  obtain ⟨a', b', c', e, o'⟩ := levels_fit_is (K := K) (A := A) o q len h1 h2 h3
  refine ⟨a', b', c', some (iW q), some (iW len), o', ?_⟩
  rw [turn_is]
  generalize ((q : Nat) : Int) = q1 at *
  generalize ((len : Nat) : Int) = l1 at *
  simp [m_l_whole_b2, e]
theorem e_iter_al {L L1 : Lc} {i : Nat} {ds : List D} (h : toF (.al i) L = .ok (.lst ds) L1) : itemsOf (.al i) L = .ok (ds.map .frz) L1 := by
  show ((toF (.al i) L).bind fun d L2 => match d.seq with
    | some ds => .ok (ds.map W.frz) L2
    | none => .bad) = _
  rw [h]
  rfl
theorem lwhole_is (hc : CountsOk K A) (ns : List Int) (hl : ns.length ≤ 63) : fn_l_whole K A [.frz (.lok (ns.map D.int))] = .ok (.frz (.bl true)) [] := by
  obtain ⟨d1, d2, s2, s3, s4, s5, k1, k2, e1⟩ := whole_loop1 (K := K) (A := A) ns hl
  obtain ⟨a0, b0, c0, e2, o2⟩ := stream_is (K := K) (A := A) ns 2 (by decide) hl
  obtain ⟨a1, b1, c1, e3⟩ := hc a0 b0 c0 o2
  obtain ⟨a3, b3, c3, e4, o4⟩ := stream_is (K := K) (A := A) ns 3 (by decide) hl
  obtain ⟨a5, b5, c5, s6, s7, o5, t1⟩ := whole_turn2 (K := K) (A := A) (n := 100) (o4.mono (by decide)) k1 (some (.frz (.lok (ns.map D.int)))) (some (.frz (.lst [d1, d2]))) s2 s4 s5
  obtain ⟨a6, b6, c6, s8, s9, o6, t2⟩ := whole_turn2 (K := K) (A := A) (n := 0) (o5.mono (by decide)) k2 (some (.frz (.lok (ns.map D.int)))) (some (.frz (.lst [d1, d2]))) s2 s6 s7
  have e5 : forL (gTp 2 (gsCons (gNm fl_l_whole 4) (gsCons (gNm fl_l_whole 5) gsNil))) (m_l_whole_b2 K A) [.frz d1, .frz d2] [some (.frz (.lok (ns.map D.int))), some (.frz (.lst [d1, d2])), s2, some (st a3 b3 c3), s4, s5] =
      .next [some (.frz (.lok (ns.map D.int))), some (.frz (.lst [d1, d2])), s2, some (st a6 b6 c6), s8, s9] := by
    rw [for_next t1, for_next t2, forL]
  obtain ⟨q, len, rfl, h1, h2, h3⟩ := k1
  have e6 := tails_fit_is (K := K) (A := A) q len h1 h2 h3
  have it : ∀ x0 x2 x3 x4 x5, itemsOf (.al 1) [x0, some (.olst [.frz (D.tup [.int (q : Nat), .int (len : Nat)]), .frz d2]), x2, x3, x4, x5] = .ok [.frz (D.tup [.int (q : Nat), .int (len : Nat)]), .frz d2] [x0, some (.frz (.lst [D.tup [.int (q : Nat), .int (len : Nat)], d2])), x2, x3, x4, x5] := fun x0 x2 x3 x4 x5 => e_iter_al (ds := [D.tup [.int (q : Nat), .int (len : Nat)], d2]) (by simp)
  have ix : ∀ L : Lc, kR ixW (some (.frz (.lst [D.tup [.int (q : Nat), .int (len : Nat)], d2]))) (some (.frz (.int 0))) L = .ok (.val (.frz (D.tup [.int (q : Nat), .int (len : Nat)]))) L := fun L => kR_of (ixf_nat (i := 0) rfl)
  have r1 : SzR 2 := ⟨by decide, by decide⟩
  have n1 : (2 : Int).toNat = 2 := rfl
  have z2 : ((2 : Nat) : Int) = 2 := rfl
  have z3 : ((3 : Nat) : Int) = 3 := rfl
  rw [z2] at e2
  rw [z3] at e4
  generalize ((q : Nat) : Int) = q1 at *
  generalize ((len : Nat) : Int) = l1 at *
  generalize D.lok (ns.map D.int) = sc0 at *
  refine run_ret (m := m_l_whole K A) (L0 := [some (.frz sc0), none, none, none, none, none]) (L := [some (.frz sc0), some (.frz (.lst [D.tup [.int q1, .int l1], d2])), s2, some (st a6 b6 c6), s8, s9]) ?_
  simp [m_l_whole, r1, n1, e1, e2, e3, e4, it, e5, ix, e6]
theorem plain_of (hc : CountsOk K A) (ns : List Int) (hl : ns.length ≤ 63) : fn_law K A [.frz (.lok (ns.map D.int))] = .ok (.frz (.bl true)) [] := by
  have e := lwhole_is hc ns hl
  generalize D.lok (ns.map D.int) = sc0 at *
  refine run_ret (m := m_law K A) (L0 := [some (.frz sc0)]) (L := [some (.frz sc0)]) ?_
  unfold m_law
  exact noX_ret (by simp [e])
end
end L

set_option exponentiation.threshold 20000
namespace L
open PySem PySem.Spec PyProof.Rows L2 BV
abbrev sg (c : Nat) : Str := ⟨#[c]⟩
theorem joinL_sgs : ∀ ds : List Nat, TL.joinL [] (ds.map fun c => [c]) = ds
  | [] => rfl
  | [_] => rfl
  | c :: d :: r => by
    have ih := joinL_sgs (d :: r)
    show [c] ++ ([] ++ TL.joinL [] ((d :: r).map fun c => [c])) = _
    rw [ih]; rfl
theorem join_sgs (ds : List Nat) : (Txt.join "" (ds.map sg)).cps.toList = ds := by
  have e := TL.tl_join ("" : Str) (ds.map sg)
  rw [TL.join_eq]
  refine Eq.trans e ?_
  rw [List.map_map]
  exact joinL_sgs ds
theorem sorted_sgs (cs : List Nat) : ∃ ds : List Nat, sortS (cs.map sg) = ds.map sg ∧ ds.Perm cs := by
  have p := sortS_perm (cs.map sg)
  have hf : ∀ s ∈ sortS (cs.map sg), sg (s.cps.toList.headD 0) = s := fun s hs => by
    obtain ⟨c, _, rfl⟩ := List.mem_map.mp (p.mem_iff.mp hs)
    rfl
  refine ⟨(sortS (cs.map sg)).map fun s => s.cps.toList.headD 0, ?_, ?_⟩
  · rw [List.map_map]
    have : ∀ l : List Str, (∀ s ∈ l, sg (s.cps.toList.headD 0) = s) → l = l.map (sg ∘ fun s => s.cps.toList.headD 0) := by
      intro l
      induction l with
      | nil => intro _; rfl
      | cons a l ih => intro h; rw [List.map_cons, ← ih (fun s hs => h s (List.mem_cons_of_mem _ hs))]; exact congrArg (· :: l) (h a List.mem_cons_self).symm
    exact this _ hf
  · have q := p.map fun s => s.cps.toList.headD 0
    rw [List.map_map] at q
    have e : cs.map ((fun s : Str => s.cps.toList.headD 0) ∘ sg) = cs := by
      have : ∀ l : List Nat, l.map ((fun s : Str => s.cps.toList.headD 0) ∘ sg) = l := by
        intro l
        induction l with
        | nil => rfl
        | cons a l ih => rw [List.map_cons, ih]; rfl
      exact this cs
    rw [e] at q
    exact q
theorem strsD_sgs (cs : List Nat) : strsD (cs.map fun c => D.str (sg c)) = some (cs.map sg) := by
  induction cs with
  | nil => rfl
  | cons c cs ih => rw [List.map_cons, strsD, ih]; rfl
theorem inF_sgs (c : Nat) (cs : List Nat) : inF (.str (sg c)) (cs.map fun c => D.str (sg c)) = decide (c ∈ cs) := by
  unfold inF
  induction cs with
  | nil => rfl
  | cons d cs ih =>
    rw [List.map_cons, List.any_cons, ih]
    have : eqF (.str (sg d)) (.str (sg c)) = decide (c = d) := by
      show (sg d == sg c) = decide (c = d)
      by_cases h : c = d
      · subst h; simp
      · rw [decide_eq_false h, beq_eq_false_iff_ne]
        intro e
        have e2 : ([d] : List Nat) = [c] := congrArg (fun s : Str => s.cps.toList) e
        exact h (List.cons.inj e2).1.symm
    rw [this]
    by_cases h : c = d <;> simp [h]
end L

set_option exponentiation.threshold 20000
namespace L
open PySem PySem.Spec PyProof.Rows L2 BV
/-- own list of signs -/
abbrev oS (cs : List Nat) : W := .olst ((cs.map fun c => D.str (sg c)).map .frz)
abbrev signs : Str := " !\"#$&'()*+,-./0123456789:;<=>?@ABCDEFGHIJKLMNOPQRSTUVWXYZ[\\]^_`abcdefghijklmnopqrstuvwxyz{|}~"
theorem signs_len : signs.cps.toList.length = 94 := by decide +kernel
theorem signs_len2 : signs.length ≤ sizeLine := small_le (by decide +kernel)
theorem sign_at (i : Int) (h0 : 0 ≤ i) (h : i < 94) : ∃ c : Nat, ∀ L : Lc, kR ixW (some (.frz (.str signs))) (some (.frz (.int i))) L = .ok (.val (.frz (.str (sg c)))) L := by
  obtain ⟨n, rfl⟩ : ∃ n : Nat, i = (n : Nat) := ⟨i.toNat, by omega⟩
  have hn : n < signs.cps.toList.length := by rw [signs_len]; omega
  have hl := signs_len2
  generalize signs = z at *
  refine ⟨z.cps.toList[n], fun L => kR_of ?_⟩
  show (match (W.frz (.str z)).str? with
    | some z => if z.length ≤ sizeLine then (atI z.cps.toList (n : Nat)).map fun c => W.frz (.str ⟨#[c]⟩) else none
    | none => (W.frz (.str z)).seq.bind fun ws => atI ws (n : Nat)) = _
  rw [show (W.frz (.str z)).str? = some z from rfl]
  dsimp only
  rw [if_pos hl, BV.atI_nat (List.getElem?_eq_getElem hn)]
  rfl
theorem flat_sgs (cs : List Nat) : (cs.map fun c => D.str (sg c)).all D.flat = true := by
  rw [List.all_eq_true]
  intro d hd
  obtain ⟨c, _, rfl⟩ := List.mem_map.mp hd
  rfl
theorem notin_sgs {L : Lc} (c : Nat) (cs : List Nat) (i : Nat) (h : L[i]? = some (some (oS cs))) : cNinU (.val (.frz (.str (sg c)))) (.al i) L = .ok (.val (.frz (.bl (!decide (c ∈ cs))))) L := by
  have e : cNinQ (.val (.frz (.str (sg c)))) (.al i) L = .ok (.val (.frz (.bl (!decide (c ∈ cs))))) L := by
    unfold cNinQ mkS
    rw [e_get_v, e_get_a, h, e_slotW]
    dsimp only
    rw [e_rd_f, rd_lst]
    have g : gIn (.str (sg c)) (.lst (cs.map fun c => D.str (sg c))) = some (decide (c ∈ cs)) := by
      show (if (D.str (sg c)).flat = true ∧ (cs.map fun c => D.str (sg c)).all D.flat = true then some (inF (.str (sg c)) (cs.map fun c => D.str (sg c))) else none) = _
      rw [if_pos ⟨rfl, flat_sgs cs⟩, inF_sgs]
    rw [g]
    rfl
  unfold cNinU gOr
  rw [e]
end L

set_option exponentiation.threshold 20000
namespace L
open PySem PySem.Spec PyProof.Rows L2 BV
section
variable {K : PySem.W.Frag} {A : Ad}
theorem alpha_turn {n : Nat} {a b c : Int} (h : Ok (n + 1) a b c) (m : Int) {z : Str} (hz : ∀ i : Int, 0 ≤ i → i < 94 → ∃ c : Nat, ∀ L : Lc, kR ixW (some (.frz (.str z))) (some (.frz (.int i))) L = .ok (.val (.frz (.str (sg c)))) L) (cs : List Nat) (hn : cs.Nodup) (hc : cs.length < 900) (w : W) (s4 s5 : Option W) :
    ∃ a' b' c' ds s5', Ok n a' b' c' ∧ ds.Nodup ∧ 0 < ds.length ∧ ds.length ≤ cs.length + 1 ∧
      turnF (gNm fl_l_alphabet 4) (m_l_alphabet_b1 K A) w [some (st a b c), some (iW m), some (.frz (.str z)), some (oS cs), s4, s5] = .next [some (st a' b' c'), some (iW m), some (.frz (.str z)), some (oS ds), some w, s5'] := by
  obtain ⟨a', b', c', i, e, i0, i1, o⟩ := draw_is (K := K) (A := A) h (many := 94) (by decide) (bit31 (by decide) (by decide))
  obtain ⟨x, hx⟩ := hz i i0 i1
  have hni : ∀ t0 t1 t2 t4 t5, cNinU (.val (.frz (.str (sg x)))) (.al 3) [t0, t1, t2, some (oS cs), t4, t5] = .ok (.val (.frz (.bl (!decide (x ∈ cs))))) [t0, t1, t2, some (oS cs), t4, t5] := fun t0 t1 t2 t4 t5 => notin_sgs x cs 3 rfl
  have lk : ∀ L : Lc, look 3 (some (some (oS cs))) L = .ok (.al 3) L := fun _ => rfl
  have hl : ((cs.map fun c => D.str (sg c)).map W.frz).length < sizeLine := by rw [List.length_map, List.length_map]; exact small1000 (by omega)
  by_cases hm : x ∈ cs
  · refine ⟨a', b', c', cs, some (.frz (.str (sg x))), o, hn, List.length_pos_of_mem hm, by omega, ?_⟩
    rw [decide_eq_true hm] at hni
    unfold oS at *
    generalize sg x = sx at *
    generalize (cs.map fun c => D.str (sg c)).map W.frz = ws at *
    rw [turn_is]
    simp [m_l_alphabet_b1, e, hx, hni]
  · refine ⟨a', b', c', cs ++ [x], some (.frz (.str (sg x))), o, ?_, by simp, by simp, ?_⟩
    · rw [List.nodup_append]
      exact ⟨hn, by simp, fun p hp r hr => by rw [List.mem_singleton] at hr; subst hr; intro e; subst e; exact hm hp⟩
    · rw [decide_eq_false hm] at hni
      have em : ((cs ++ [x]).map fun c => D.str (sg c)).map W.frz = (cs.map fun c => D.str (sg c)).map W.frz ++ [.frz (.str (sg x))] := by rw [List.map_append, List.map_append]; rfl
      unfold oS at *
      rw [em]
      generalize sg x = sx at *
      generalize (cs.map fun c => D.str (sg c)).map W.frz = ws at *
      rw [turn_is]
      simp [m_l_alphabet_b1, e, hx, hni, hl]
end
end L

set_option exponentiation.threshold 20000
namespace L
open PySem PySem.Spec PyProof.Rows L2 BV
theorem sorted_is {L : Lc} {i : Nat} (ds : List Nat) (h : L[i]? = some (some (oS ds))) (hl : ds.length < 64) : bSorted [.al i] L = .ok (.val (.olst (((sortS (ds.map sg)).map D.str).map .frz))) L := by
  unfold bSorted
  dsimp only
  rw [e_get_a, h, e_slotW]
  dsimp only
  rw [rd_lst]
  rw [show (D.lst (ds.map fun c => D.str (sg c))).list? = some (ds.map fun c => D.str (sg c)) from rfl, Option.bind_some, strsD_sgs]
  dsimp only
  rw [if_pos (by rw [List.length_map]; exact hl), List.map_map]
  rfl
theorem sum_sgs (ds : List Nat) : ((ds.map sg).map (·.length)).sum = ds.length := by
  induction ds with
  | nil => rfl
  | cons d ds ih =>
    rw [List.map_cons, List.map_cons, List.sum_cons, ih, List.length_cons]
    show 1 + ds.length = _
    omega
theorem join_is (ds : List Nat) (hl : ds.length < 1000) : joinD (.str "") (.lst ((ds.map sg).map D.str)) = some (.str (Txt.join "" (ds.map sg))) := by
  have h1 : strsD ((ds.map sg).map D.str) = some (ds.map sg) := by rw [List.map_map]; exact strsD_sgs ds
  show (Option.bind (Option.bind (some ((ds.map sg).map D.str)) strsD) fun ys => if (ys.map (·.length)).sum + ys.length * ("" : Str).length ≤ 16777216 then some (D.str (Txt.join "" ys)) else none) = _
  rw [Option.bind_some, h1, Option.bind_some, if_pos]
  rw [sum_sgs, show ("" : Str).length = 0 from rfl, Nat.mul_zero]
  omega
section
variable {K : PySem.W.Frag} {A : Ad}
theorem alphabet_is {n : Nat} {a b c : Int} (h : Ok (n + 10) a b c) (m : Nat) (hm : 1 ≤ m) (hm2 : m ≤ 6) :
    ∃ a' b' c' al, fn_l_alphabet K A [st a b c, iW (m : Nat)] = .ok (.frz (.str al)) [st a' b' c'] ∧ Ok n a' b' c' ∧ al.cps.toList.Nodup ∧ 0 < al.length ∧ al.length ≤ 6 := by
  obtain ⟨a1, b1, c1, i, e1, i0, i1, o1⟩ := draw_is (K := K) (A := A) (n := n + 9) h (many := 94) (by decide) (bit31 (by decide) (by decide))
  obtain ⟨x, hx⟩ := sign_at i i0 i1
  have hz := sign_at
  have hdef : m_l_alphabet K A = (sSeq (sSet fl_l_alphabet 2 (mC (.str signs)))
  (sSeq (sSet fl_l_alphabet 3 (mLst (mCons (mOp (mkK ixW) (mVar 2) (mCall fl_l_draw (fn_l_draw K A) (mCons (mVar 0) (mCons (mC (.int 94)) mNil)))) mNil)))
  (sSeq (sFor (mRange2 (mCons (mC (.int 1)) (mCons (mVar 1) mNil))) (gNm fl_l_alphabet 4) (m_l_alphabet_b1 K A))
  (sRet (mBM "str" (g1 joinD) (mC (.str "")) (mCons (mCallB bSorted (mCons (mVar 3) mNil)) mNil)))))) := rfl
  generalize signs = z at *
  obtain ⟨L', e, a', b', c', ds, s4, s5, rfl, o2, hn, hp, hlen⟩ := for_all (g := gNm fl_l_alphabet 4) (body := m_l_alphabet_b1 K A) (ws := intsW 1 (m - 1)) (L := [some (st a1 b1 c1), some (iW (m : Nat)), some (.frz (.str z)), some (oS [x]), none, none])
    (fun i L => ∃ a b c ds s4 s5, L = [some (st a b c), some (iW (m : Nat)), some (.frz (.str z)), some (oS ds), s4, s5] ∧ Ok (n + (9 - i)) a b c ∧ ds.Nodup ∧ 0 < ds.length ∧ ds.length ≤ i + 1)
    (fun i w L hw ⟨a, b, c, ds, s4, s5, e, o, hn, hp, hlen⟩ => by
      obtain ⟨hi, rfl⟩ := intsW_get hw
      subst e
      obtain ⟨a', b', c', es, s5', o', hn', hp', hlen', e2⟩ := alpha_turn (K := K) (A := A) (n := n + (9 - (i + 1))) (o.mono (by omega)) (m : Nat) hz ds hn (by omega) (.frz (.int (1 + (i : Nat)))) s4 s5
      exact ⟨_, e2, a', b', c', es, _, s5', rfl, o', hn', hp', by omega⟩)
    ⟨a1, b1, c1, [x], none, none, rfl, o1.mono (by omega), by simp, by simp, by simp⟩
  rw [intsW_len] at hlen
  obtain ⟨es, he, hperm⟩ := sorted_sgs ds
  have hes : es.length = ds.length := hperm.length_eq
  have htl := join_sgs es
  have hs : ∀ t0 t1 t2 t4 t5, bSorted [.al 3] [t0, t1, t2, some (oS ds), t4, t5] = .ok (.val (.olst (((es.map sg).map D.str).map .frz))) [t0, t1, t2, some (oS ds), t4, t5] := fun t0 t1 t2 t4 t5 => by
    rw [sorted_is ds rfl (by omega), he]
  have hj : ∀ L : Lc, g1 joinD (.val (.frz (.str ""))) [.val (.olst (((es.map sg).map D.str).map .frz))] L = .ok (.val (.frz (.str (Txt.join "" (es.map sg))))) L := fun L => by
    show (match joinD (W.frz (.str "")).rd (W.olst (((es.map sg).map D.str).map .frz)).rd with
      | some d => Res.ok (R.val (.frz d)) L
      | none => .bad) = _
    rw [e_rd_f, rd_lst, join_is es (by omega)]
  have hlen2 : (Txt.join "" (es.map sg)).length = es.length := by
    have q := congrArg List.length htl
    rw [Array.length_toList] at q
    exact q
  refine ⟨a', b', c', Txt.join "" (es.map sg), ?_, o2.mono (by rw [intsW_len]; omega), by rw [htl]; exact hperm.nodup_iff.mpr hn, by omega, by omega⟩
  have r1 : SzR 1 := ⟨by decide, by decide⟩
  have r2 : SzR ((m : Nat) : Int) := ⟨by omega, by omega⟩
  have n1 : (((m : Nat) : Int) - 1).toNat = m - 1 := by omega
  have ux : oS [x] = .olst [.frz (.str (sg x))] := rfl
  rw [ux] at e
  have lk : ∀ L : Lc, look 3 (some (some (oS ds))) L = .ok (.al 3) L := fun _ => rfl
  generalize Txt.join "" (es.map sg) = al at *
  generalize ((es.map sg).map D.str).map W.frz = sw at *
  generalize oS ds = od at *
  generalize sg x = sx at *
  generalize ((m : Nat) : Int) = m1 at *
  refine run_ret (m := m_l_alphabet K A) (L0 := [some (st a b c), some (iW m1), none, none, none, none]) (L := [some (st a' b' c'), some (iW m1), some (.frz (.str z)), some od, s4, s5]) ?_
  rw [hdef]
  simp [e1, hx, r1, r2, n1, e, lk, hs, hj]
end
end L

set_option exponentiation.threshold 20000
namespace L
open PySem PySem.Spec PyProof.Rows L2 BV
theorem addU_s {L : Lc} (a b : Str) (h : a.length + b.length ≤ sizeLine) : aAddU (.val (.frz (.str a))) (.val (.frz (.str b))) L = .ok (.val (.frz (.str (a ++ b)))) L := by
  have e : aCatS (.val (.frz (.str a))) (.val (.frz (.str b))) L = .ok (.val (.frz (.str (a ++ b)))) L := by
    show (match (if a.length + b.length ≤ sizeLine then some (D.str (a ++ b)) else none) with
      | some d => Res.ok (R.val (.frz d)) L
      | none => .bad) = _
    rw [if_pos h]
  show (match aAdd (.val (.frz (.str a))) (.val (.frz (.str b))) L with
    | .bad => gOr aCatS aCatL (.val (.frz (.str a))) (.val (.frz (.str b))) L
    | r => r) = _
  rw [show aAdd (.val (.frz (.str a))) (.val (.frz (.str b))) L = .bad from rfl]
  dsimp only
  unfold gOr
  rw [e]
theorem spell_snoc {al : Str} {x c : Nat} (h : al.cps.toList[x]? = some c) : ∀ {xs cs : List Nat}, Spell al xs cs → Spell al (xs ++ [x]) (cs ++ [c])
  | [], [], _ => ⟨h, trivial⟩
  | _ :: _, _ :: _, ⟨h1, h2⟩ => ⟨h1, spell_snoc h h2⟩
  | [], _ :: _, hs => hs.elim
  | _ :: _, [], hs => hs.elim
section
variable {K : PySem.W.Frag} {A : Ad}
theorem ix_str {al : Str} {i : Nat} (h : i < al.cps.toList.length) (hl : al.length ≤ sizeLine) (L : Lc) : kR ixW (some (.frz (.str al))) (some (.frz (.int (i : Nat)))) L = .ok (.val (.frz (.str (sg al.cps.toList[i])))) L := by
  refine kR_of ?_
  show (match (W.frz (.str al)).str? with
    | some z => if z.length ≤ sizeLine then (atI z.cps.toList (i : Nat)).map fun c => W.frz (.str ⟨#[c]⟩) else none
    | none => (W.frz (.str al)).seq.bind fun ws => atI ws (i : Nat)) = _
  rw [show (W.frz (.str al)).str? = some al from rfl]
  dsimp only
  rw [if_pos hl, BV.atI_nat (List.getElem?_eq_getElem h)]
  rfl
theorem text_turn {n : Nat} {a b c : Int} (h : Ok (n + 1) a b c) (q : Nat) (hq : 0 < q) (hq2 : q < 100) {al tx : Str} (hal : al.length = q) (xs : List Nat) (hxs : ∀ x ∈ xs, x < q) (hs : Spell al xs tx.cps.toList) (ht : tx.length < 100) (w : W) (s3 s4 s5 : Option W) (r : List (Option W)) :
    ∃ a' b' c' x tx', Ok n a' b' c' ∧ x < q ∧ Spell al (xs ++ [x]) tx'.cps.toList ∧ tx'.length = tx.length + 1 ∧
      turnF (gNm fl_l_counts_fit 5) (m_l_counts_fit_b2 K A) w (some (st a b c) :: some (.frz (.str al)) :: some (iW (q : Nat)) :: s3 :: s4 :: s5 :: some (.frz (.str tx)) :: r) =
        .next (some (st a' b' c') :: some (.frz (.str al)) :: some (iW (q : Nat)) :: s3 :: s4 :: some w :: some (.frz (.str tx')) :: r) := by
  obtain ⟨a', b', c', i, e, i0, i1, o⟩ := draw_is (K := K) (A := A) h (many := (q : Nat)) (by omega) (bit31 (by omega) (by omega))
  obtain ⟨x, rfl⟩ : ∃ k : Nat, i = (k : Nat) := ⟨i.toNat, by omega⟩
  have hx : x < al.cps.toList.length := by
    rw [Array.length_toList]
    show x < al.length
    omega
  have ix := ix_str hx (by rw [hal]; exact small_le (by omega))
  have sl : (sg al.cps.toList[x]).length = 1 := rfl
  have ad := fun L : Lc => addU_s (L := L) tx (sg al.cps.toList[x]) (by rw [sl]; exact small_le (by omega))
  have htl : (tx ++ sg al.cps.toList[x]).cps.toList = tx.cps.toList ++ [al.cps.toList[x]] := TL.tl_append tx (sg al.cps.toList[x])
  have hlen : (tx ++ sg al.cps.toList[x]).length = tx.length + 1 := by
    have q1 := congrArg List.length htl
    rw [Array.length_toList, List.length_append, Array.length_toList] at q1
    exact q1
  refine ⟨a', b', c', x, tx ++ sg al.cps.toList[x], o, by omega, by rw [htl]; exact spell_snoc (List.getElem?_eq_getElem hx) hs, hlen, ?_⟩
  generalize tx ++ sg al.cps.toList[x] = t2 at *
  generalize sg al.cps.toList[x] = sx at *
  generalize ((x : Nat) : Int) = x1 at *
  generalize ((q : Nat) : Int) = q1 at *
  rw [turn_is]
  simp [m_l_counts_fit_b2, e, ix, ad]
theorem text_loop {n : Nat} {a b c : Int} (q len : Nat) (h : Ok (n + len) a b c) (hq : 0 < q) (hq2 : q < 100) {al : Str} (hal : al.length = q) (hl : len ≤ 8) (s3 s4 s5 : Option W) (r : List (Option W)) :
    ∃ a' b' c' xs tx s5', Ok n a' b' c' ∧ (∀ x ∈ xs, x < q) ∧ xs.length = len ∧ Spell al xs tx.cps.toList ∧
      forL (gNm fl_l_counts_fit 5) (m_l_counts_fit_b2 K A) (intsW 0 len) (some (st a b c) :: some (.frz (.str al)) :: some (iW (q : Nat)) :: s3 :: s4 :: s5 :: some (.frz (.str "")) :: r) =
        .next (some (st a' b' c') :: some (.frz (.str al)) :: some (iW (q : Nat)) :: s3 :: s4 :: s5' :: some (.frz (.str tx)) :: r) := by
  obtain ⟨L', e, a', b', c', xs, tx, s5', rfl, o, h1, h2, h3, h4⟩ := for_all (g := gNm fl_l_counts_fit 5) (body := m_l_counts_fit_b2 K A) (ws := intsW 0 len) (L := some (st a b c) :: some (.frz (.str al)) :: some (iW (q : Nat)) :: s3 :: s4 :: s5 :: some (.frz (.str "")) :: r)
    (fun i L => ∃ a b c xs tx s5, L = (some (st a b c) :: some (.frz (.str al)) :: some (iW (q : Nat)) :: s3 :: s4 :: s5 :: some (.frz (.str tx)) :: r) ∧ Ok (n + (len - i)) a b c ∧ (∀ x ∈ xs, x < q) ∧ xs.length = i ∧ Spell al xs tx.cps.toList ∧ tx.length = i)
    (fun i w L hw ⟨a, b, c, xs, tx, s5, e, o, h1, h2, h3, h4⟩ => by
      obtain ⟨hi, rfl⟩ := intsW_get hw
      subst e
      obtain ⟨a', b', c', x, tx', o', hx, hs, hlen, e2⟩ := text_turn (K := K) (A := A) (n := n + (len - (i + 1))) (o.mono (by omega)) q hq hq2 hal xs h1 h3 (by omega) (.frz (.int (0 + (i : Nat)))) s3 s4 s5 r
      exact ⟨_, e2, a', b', c', xs ++ [x], tx', _, rfl, o', fun y hy => by
        rcases List.mem_append.mp hy with hy | hy
        · exact h1 y hy
        · rw [List.mem_singleton.mp hy]; exact hx, by rw [List.length_append, h2]; rfl, hs, by omega⟩)
    ⟨a, b, c, [], "", s5, rfl, h.mono (by omega), (fun x hx => by cases hx), rfl, trivial, rfl⟩
  rw [intsW_len] at h2 o
  exact ⟨a', b', c', xs, tx, s5', o.mono (by omega), h1, h2, h3, e⟩
end
end L

set_option exponentiation.threshold 20000
namespace L
open PySem PySem.Spec PyProof.Rows L2 BV
section
variable {K : PySem.W.Frag} {A : Ad}
theorem zeros_loop (s0 s1 s2 s3 s4 s6 s7 s8 s9 s10 s11 s12 s13 s14 : Option W) (n : Nat) : ∀ (lo : Int) (acc : List Int), acc.length + n < 1000 →
    lcL true [5] (gNm (fo_l_counts_fit_3 K A) 5) mYes (m_l_counts_fit_e4 K A) (intsW lo n) [s0, s1, s2, s3, s4, none, s6, s7, s8, s9, s10, s11, s12, s13, s14] ((acc.map D.int).map .frz) =
      some (((acc ++ List.replicate n 0).map D.int).map .frz, [s0, s1, s2, s3, s4, none, s6, s7, s8, s9, s10, s11, s12, s13, s14]) := by
  induction n with
  | zero => intro lo acc _; rw [intsW_zero, lcL, List.replicate_zero, List.append_nil]
  | succ n ih =>
    intro lo acc h
    have ih2 := ih (lo + 1) (acc ++ [0]) (by rw [List.length_append, List.length_singleton]; omega)
    have em : ((acc ++ [(0 : Int)]).map D.int).map W.frz = (acc.map D.int).map W.frz ++ [.frz (.int 0)] := by rw [List.map_append, List.map_append]; rfl
    rw [em] at ih2
    have et : m_l_counts_fit_e4 K A [s0, s1, s2, s3, s4, some (iW lo), s6, s7, s8, s9, s10, s11, s12, s13, s14] = .ok (iR 0) [s0, s1, s2, s3, s4, some (iW lo), s6, s7, s8, s9, s10, s11, s12, s13, s14] := rfl
    rw [intsW_succ, lcL_cons (L1 := [s0, s1, s2, s3, s4, some (iW lo), s6, s7, s8, s9, s10, s11, s12, s13, s14]) (by rw [e_gNm]; rfl) e_yes et (e_toW _) (by rw [List.length_map, List.length_map]; exact small1000 (by omega))]
    have e2 : acc ++ List.replicate (n + 1) (0 : Int) = acc ++ [0] ++ List.replicate n 0 := by rw [List.replicate_succ, List.append_assoc]; rfl
    rw [e2]
    exact ih2
theorem zeros_is (len : Nat) (hl : len < 100) (s0 s1 s2 s3 s5 s6 s7 s8 s9 s10 s11 s12 s13 s14 : Option W) :
    mLc true (fo_l_counts_fit_3 K A) [5] (mRange1 (mCons (mOp aAddU (mVar 4) (mC (.int 2))) mNil)) (gNm (fo_l_counts_fit_3 K A) 5) mYes (m_l_counts_fit_e4 K A) [s0, s1, s2, s3, some (iW (len : Nat)), s5, s6, s7, s8, s9, s10, s11, s12, s13, s14] =
      .ok (.val (oI (List.replicate (len + 2) 0))) [s0, s1, s2, s3, some (iW (len : Nat)), none, s6, s7, s8, s9, s10, s11, s12, s13, s14] := by
  have r1 : SzR (((len : Nat) : Int) + 2) := ⟨by omega, by omega⟩
  have n1 : (((len : Nat) : Int) + 2).toNat = len + 2 := by omega
  have z := zeros_loop (K := K) (A := A) s0 s1 s2 s3 (some (iW (len : Nat))) s6 s7 s8 s9 s10 s11 s12 s13 s14 (len + 2) 0 [] (by simp; omega)
  refine mLc_ok (ws := intsW 0 (len + 2)) (L1 := [s0, s1, s2, s3, some (iW (len : Nat)), s5, s6, s7, s8, s9, s10, s11, s12, s13, s14]) ?_ z rfl
  generalize ((len : Nat) : Int) = l1 at *
  simp [r1, n1]
theorem met_loop (q u len : Nat) (hq : 0 < q) (hu : 0 < u) (hq2 : q < 100) (hu2 : u < 100) (hl : len < 100) (hs : (q * u) ^ len ≤ 256) (cs : List Int) (hcs : cs.length = len + 2) (hj : ∀ j, j < len + 2 → cs[j]? = some ((binN q u len j : Nat) : Int)) (s0 s1 s3 s5 s6 s9 s10 s11 s14 : Option W) :
    ∃ s10' s14', forL (gNm fl_l_counts_fit 10) (m_l_counts_fit_b6 K A) (intsW 0 (len + 2)) [s0, s1, some (iW (q : Nat)), s3, some (iW (len : Nat)), s5, s6, some (oI cs), some (iW ((((q * u) ^ len : Nat)) : Int)), s9, s10, s11, some (.frz (tailD q len)), some (iW ((q ^ len : Nat) : Int)), s14] =
      .next [s0, s1, some (iW (q : Nat)), s3, some (iW (len : Nat)), s5, s6, some (oI cs), some (iW ((((q * u) ^ len : Nat)) : Int)), s9, s10', s11, some (.frz (tailD q len)), some (iW ((q ^ len : Nat) : Int)), s14'] := by
  obtain ⟨L', e, s10', s14', rfl⟩ := for_all (g := gNm fl_l_counts_fit 10) (body := m_l_counts_fit_b6 K A) (ws := intsW 0 (len + 2)) (L := [s0, s1, some (iW (q : Nat)), s3, some (iW (len : Nat)), s5, s6, some (oI cs), some (iW ((((q * u) ^ len : Nat)) : Int)), s9, s10, s11, some (.frz (tailD q len)), some (iW ((q ^ len : Nat) : Int)), s14])
    (fun i L => ∃ s10 s14, L = [s0, s1, some (iW (q : Nat)), s3, some (iW (len : Nat)), s5, s6, some (oI cs), some (iW ((((q * u) ^ len : Nat)) : Int)), s9, s10, s11, some (.frz (tailD q len)), some (iW ((q ^ len : Nat) : Int)), s14])
    (fun i w L hw ⟨s10, s14, e⟩ => by
      obtain ⟨hi, rfl⟩ := intsW_get hw
      subst e
      rw [Int.zero_add]
      obtain ⟨s14', e2⟩ := met_turn (K := K) (A := A) q u len i hq hu hq2 hu2 hl hs (by omega) cs hcs hj s0 s1 s3 s5 s6 s9 s10 s11 s14
      exact ⟨_, e2, _, _, rfl⟩) ⟨s10, s14, rfl⟩
  exact ⟨s10', s14', e⟩
end
end L

set_option exponentiation.threshold 20000
namespace L
open PySem PySem.Spec PyProof.Rows L2 BV
theorem keysP_lt (q u : Nat) (hu : 0 < u) (hu2 : u ≤ 100) : ∀ n k, k ∈ keysP q u n → ∀ p ∈ k, p.2 < 100
  | 0, k, h, p, hp => by
    rw [keysP, List.mem_singleton] at h
    subst h
    cases hp
  | n + 1, k, h, p, hp => by
    rw [keysP, List.mem_flatMap] at h
    obtain ⟨k0, h0, h1⟩ := h
    obtain ⟨v, _, rfl⟩ := List.mem_map.mp h1
    rcases List.mem_append.mp hp with hp | hp
    · exact keysP_lt q u hu hu2 n k0 h0 p hp
    · rw [List.mem_singleton.mp hp]
      exact Nat.lt_of_lt_of_le (Nat.mod_lt _ hu) hu2
section
variable {K : PySem.W.Frag} {A : Ad}
theorem counts_ok : CountsOk K A := fun a b c h => by
  obtain ⟨a1, b1, c1, x, e1, x0, x1, o1⟩ := draw_is (K := K) (A := A) (n := 899999999) h (many := 6) (by decide) (bit31 (by decide) (by decide))
  obtain ⟨m, hm⟩ : ∃ m : Nat, 1 + x = ((m : Nat) : Int) := ⟨(1 + x).toNat, by omega⟩
  obtain ⟨a2, b2, c2, al, e2, o2, hnd, hq, hq6⟩ := alphabet_is (K := K) (A := A) (n := 800000000) (o1.mono (by decide)) m (by omega) (by omega)
  obtain ⟨a3, b3, c3, y, e3, y0, y1, o3⟩ := draw_is (K := K) (A := A) (n := 799999999) o2 (many := 12) (by decide) (bit31 (by decide) (by decide))
  obtain ⟨u, hu⟩ : ∃ u : Nat, 1 + y = ((u : Nat) : Int) := ⟨(1 + y).toNat, by omega⟩
  obtain ⟨a4, b4, c4, z, e4, z0, z1, o4⟩ := draw_is (K := K) (A := A) (n := 799999998) o3 (many := 9) (by decide) (bit31 (by decide) (by decide))
  obtain ⟨l0, rfl⟩ : ∃ k : Nat, z = (k : Nat) := ⟨z.toNat, by omega⟩
  have q0 : 0 < al.length := hq
  obtain ⟨len, s5, hlen, hpow, e5⟩ := short_loop (K := K) (A := A) al.length u (by omega) (by omega) l0 (by omega) (some (st a4 b4 c4)) (some (.frz (.str al))) none [none, none, none, none, none, none, none, none, none]
  obtain ⟨a6, b6, c6, xs, tx, s5', o6, hxs, hxl, hsp, e6⟩ := text_loop (K := K) (A := A) (n := 0) al.length len (o4.mono (by omega)) q0 (by omega) (al := al) rfl hlen (some (iW (u : Nat))) (some (iW (len : Nat))) s5 [none, none, none, none, none, none, none, none]
  have e7 := zeros_is (K := K) (A := A) len (by omega) (some (st a6 b6 c6)) (some (.frz (.str al))) (some (iW (al.length : Nat))) (some (iW (u : Nat))) s5' (some (.frz (.str tx))) none none none none none none none none
  obtain ⟨kw, e8, hk⟩ := keys_is (K := K) (A := A) al.length u len (by omega) (by omega) (by omega) q0 (by omega) hpow
  have hrep : ∀ j, j < len + 2 → (List.replicate (len + 2) (0 : Int))[j]? = some 0 := fun j hj => by rw [List.getElem?_replicate, if_pos hj]
  have hkey : ∀ k ∈ keysP al.length u len, k.length = len ∧ ∀ p ∈ k, p.2 < 100 := fun k hk => ⟨keysP_each _ _ _ _ hk, fun p hp => keysP_lt _ _ (by omega) (by omega) _ k hk p hp⟩
  obtain ⟨cs, s9, s11, hcs, hcj, e9⟩ := count_loop (K := K) (A := A) al.length u len q0 (by omega) (by omega) (by omega) (by omega) (al := al) (tx := tx) hnd rfl xs hxl hsp (keysP al.length u len) hkey (List.replicate (len + 2) 0) List.length_replicate hrep (some (st a6 b6 c6)) none none none none none none none
  have e10 := tails_is (K := K) (A := A) al.length len q0 (by omega) (by omega)
  have hcj2 : ∀ j, j < len + 2 → cs[j]? = some ((binN al.length u len j : Nat) : Int) := fun j hj => by rw [hcj j hj, cnt_is _ _ q0 (by omega) _ _ hxl hxs]
  rw [keysP_len] at e9
  obtain ⟨s10, s14, e11⟩ := met_loop (K := K) (A := A) al.length u len q0 (by omega) (by omega) (by omega) (by omega) hpow cs hcs hcj2 (some (st a6 b6 c6)) (some (.frz (.str al))) (some (iW (u : Nat))) none (some (.frz (.str tx))) s9 none s11 none
  have hal : lenD (.str al) = some (.int al.length) := e_len_str al (small_le (by omega))
  have r8 : SzR 8 := ⟨by decide, by decide⟩
  have n8 : (8 : Int).toNat = 8 := rfl
  have rl : SzR ((len : Nat) : Int) := ⟨by omega, by omega⟩
  have nl : ((len : Nat) : Int).toNat = len := by omega
  have rl2 : SzR (((len : Nat) : Int) + 2) := ⟨by omega, by omega⟩
  have nl2 : (((len : Nat) : Int) + 2).toNat = len + 2 := by omega
  have it : ∀ L : Lc, itemsOf (.val kw) L = .ok (((keysP al.length u len).map kD).map .frz) L := fun L => by
    rcases hk with rfl | rfl
    · show ((toF (.val (.olst (((keysP al.length u len).map kD).map .frz))) L).bind fun d L2 => match d.seq with
        | some ds => .ok (ds.map W.frz) L2
        | none => .bad) = _
      rw [e_toF_v, e_fr_l, e_frs_frz]
      rfl
    · rfl
  refine ⟨a6, b6, c6, ?_⟩
  generalize ((keysP al.length u len).map kD).map W.frz = kws at *
  generalize tailD al.length len = td at *
  generalize ((al.length ^ len : Nat) : Int) = fu at *
  generalize (((al.length * u) ^ len : Nat) : Int) = to at *
  generalize oI (List.replicate (len + 2) 0) = ow at *
  generalize oI cs = cw at *
  generalize ((al.length : Nat) : Int) = q1 at *
  generalize ((u : Nat) : Int) = u1 at *
  generalize ((l0 : Nat) : Int) = l1 at *
  generalize ((m : Nat) : Int) = m1 at *
  refine run_ret (m := m_l_counts_fit K A) (L0 := [some (st a b c), none, none, none, none, none, none, none, none, none, none, none, none, none, none]) (L := [some (st a6 b6 c6), some (.frz (.str al)), some (iW q1), some (iW u1), some (iW (len : Nat)), none, some (.frz (.str tx)), some cw, some (iW to), s9, s10, s11, some (.frz td), some (iW fu), s14]) ?_
  rw [m_l_counts_fit]
  generalize ((len : Nat) : Int) = ln at *
  have g1 : sSet fl_l_counts_fit 1 (mCall fl_l_alphabet (fn_l_alphabet K A) (mCons (mVar 0) (mCons (mOp aAddU (mC (.int 1)) (mCall fl_l_draw (fn_l_draw K A) (mCons (mVar 0) (mCons (mC (.int 6)) mNil)))) mNil))) [some (st a b c), none, none, none, none, none, none, none, none, none, none, none, none, none, none] = .next [some (st a2 b2 c2), some (.frz (.str al)), none, none, none, none, none, none, none, none, none, none, none, none, none] := by
    simp [e1, hm, e2]
  rw [e_seq, g1, e_seq_n]
  simp [hal, e3, hu, e4, r8, n8, e5, rl, nl, e6, e7, e8, it, e9, e10, rl2, nl2, e11]
end
end L

namespace L
open PySem PySem.Spec PyProof.Rows L2 BV
theorem plain_law (K : PySem.W.Frag) (A : Ad) (ns : List Int) (h : ns.length ≤ 63) : fn_law K A [.frz (.lok (ns.map D.int))] = .ok (.frz (.bl true)) [] := plain_of counts_ok ns h
theorem txt_mk {K : PySem.W.Frag} {mg : Str → Option Value} {cShare : Addr}
  (z_abs : mg "abs" = none) 
  (z_bool : mg "bool" = none) 
  (z_int : mg "int" = none) 
  (z_isinstance : mg "isinstance" = none) 
  (z_len : mg "len" = none) 
  (z_max : mg "max" = none) 
  (z_range : mg "range" = none) 
  (z_sorted : mg "sorted" = none) 
  (z_sum : mg "sum" = none) 
  (z_zip : mg "zip" = none) 
  (c_Share : mg "Share" = some (.ref cShare)) 
  (cls_Share : Cls K cShare) 
  (isc_Share : IsC K cShare) 
  (na_Share_over : NoAttr K cShare "over") 
  (na_Share_under : NoAttr K cShare "under") 
  (t_l_stream : DefAt K mg "_law_stream" "_law_stream" s_l_stream ["_law_script", "_law_at"]) 
  (t_l_tails : DefAt K mg "_law_tails" "_law_tails" s_l_tails ["_law_kinds", "_law_length"]) 
  (t_greatest_divisor : DefAt K mg "greatest_divisor" "greatest_divisor" s_greatest_divisor ["a", "b"]) 
  (t_Share_init : MakeAt K cShare "Share.__init__" s_Share_init ["self", "over", "under"]) 
  (t_power : DefAt K mg "power" "power" s_power ["a", "n"]) 
  (t_ways : DefAt K mg "ways" "ways" s_ways ["n", "k"]) 
  (t_hit_tail : DefAt K mg "hit_tail" "hit_tail" s_hit_tail ["q", "length", "least"]) 
  (t_l_lowest : DefAt K mg "_law_lowest" "_law_lowest" s_l_lowest ["_law_over", "_law_under"]) 
  (t_l_is_whole : DefAt K mg "_law_is_whole" "_law_is_whole" s_l_is_whole ["_law_told"]) 
  (t_l_is_share : DefAt K mg "_law_is_share" "_law_is_share" s_l_is_share ["_law_told", "_law_over", "_law_under"]) 
  (t_l_least : DefAt K mg "_law_least" "_law_least" s_l_least ["_law_tails_here", "_law_full", "_law_level_here"]) 
  (t_l_least_fits : DefAt K mg "_law_least_fits" "_law_least_fits" s_l_least_fits ["_law_kinds", "_law_length", "_law_told", "_law_due"]) 
  (t_Share_is_below : MethAt K cShare "is_below" "Share.is_below" s_Share_is_below ["self", "other"]) 
  (t_hit_least : DefAt K mg "hit_least" "hit_least" s_hit_least ["q", "length", "level"]) 
  (t_l_tails_fit : DefAt K mg "_law_tails_fit" "_law_tails_fit" s_l_tails_fit ["_law_kinds", "_law_length"]) 
  (t_l_draw : DefAt K mg "_law_draw" "_law_draw" s_l_draw ["_law_stream_here", "_law_many"]) 
  (t_l_alphabet : DefAt K mg "_law_alphabet" "_law_alphabet" s_l_alphabet ["_law_stream_here", "_law_many"]) 
  (t_l_keys : DefAt K mg "_law_keys" "_law_keys" s_l_keys ["_law_kinds", "_law_unit", "_law_length"]) 
  (t_hits : DefAt K mg "hits" "hits" s_hits ["alphabet", "unit", "key", "text"]) 
  (t_l_power : DefAt K mg "_law_power" "_law_power" s_l_power ["_law_base", "_law_count"]) 
  (t_l_counts_fit : DefAt K mg "_law_counts_fit" "_law_counts_fit" s_l_counts_fit ["_law_stream_here"]) 
  (t_l_large : DefAt K mg "_law_large" "_law_large" s_l_large ["_law_stream_here", "_law_top"]) 
  (t_l_level : DefAt K mg "_law_level" "_law_level" s_l_level ["_law_stream_here", "_law_tails_here", "_law_full"]) 
  (t_l_levels_fit : DefAt K mg "_law_levels_fit" "_law_levels_fit" s_l_levels_fit ["_law_stream_here", "_law_kinds", "_law_length"]) 
  (t_l_whole : DefAt K mg "_law_whole" "_law_whole" s_l_whole ["_law_script"]) 
  (t_law : LawAt K mg "law" "law" s_law "_law_script") : Txt K mg ⟨cShare⟩ :=
  ⟨z_abs, z_bool, z_int, z_isinstance, z_len, z_max, z_range, z_sorted, z_sum, z_zip, c_Share, cls_Share, isc_Share, na_Share_over, na_Share_under, t_l_stream, t_l_tails, t_greatest_divisor, t_Share_init, t_power, t_ways, t_hit_tail, t_l_lowest, t_l_is_whole, t_l_is_share, t_l_least, t_l_least_fits, t_Share_is_below, t_hit_least, t_l_tails_fit, t_l_draw, t_l_alphabet, t_l_keys, t_hits, t_l_power, t_l_counts_fit, t_l_large, t_l_level, t_l_levels_fit, t_l_whole, t_law⟩
theorem the_end {w : World} {K : PySem.W.Frag} {mg : Str → Option Value} {A : Ad} (T : Txt K mg A) :
    ∃ fn : Fn, LawAt K mg "law" "law" s_law "_law_script" ∧ (∀ (base : Heap) (f : Addr) (fd : FuncData), Fun K "law" "law" s_law f fd → FnOk PySem.Challenge.pw_marktruly_k47_tails_of_hits w K mg base (L2.CX PySem.Challenge.pw_marktruly_k47_tails_of_hits w) 8 f fd ["_law_script"] (spBV K [false] fn)) ∧
        ∀ ns : List Int, ns.length ≤ 63 → fn [.frz (.lok (ns.map D.int))] = .ok (.frz (.bl true)) [] :=
  ⟨fn_law K A, T.t_law, fun base f fd F => d_law T F, fun ns h => plain_law K A ns h⟩
end L
open PySem PySem.W PyProof.Rows BV L2 in
set_option maxRecDepth 100000 in
set_option maxHeartbeats 0 in
theorem PySem.Challenge.cw_marktruly_k47_tails_of_hits_holds : PySem.Challenge.rw_marktruly_k47_tails_of_hits.Holds := by
  w_on; o_law; k_head; (case hw => w_witness2)
  k_fill
  refine BV.law_end (l := PySem.Challenge.rw_marktruly_k47_tails_of_hits) (k := 8) (qual := "law") (p := "_law_script") (st := L.s_law) rfl rfl (by decide) ⟨rfl, by decide, by decide⟩ (fun w h Y => PySem.W.kIn_of Y) ?F
  case F =>
    intro w mg h KX G
    refine' L.the_end (L.txt_mk (PySem.W.mg_none_of KX G ?z_abs) (PySem.W.mg_none_of KX G ?z_bool) (PySem.W.mg_none_of KX G ?z_int) (PySem.W.mg_none_of KX G ?z_isinstance) (PySem.W.mg_none_of KX G ?z_len) (PySem.W.mg_none_of KX G ?z_max) (PySem.W.mg_none_of KX G ?z_range) (PySem.W.mg_none_of KX G ?z_sorted) (PySem.W.mg_none_of KX G ?z_sum) (PySem.W.mg_none_of KX G ?z_zip) (PySem.W.mg_of KX G ?c_Share) ⟨?pg_Share, ?hd_Share, ?po_Share, ?sa_Share⟩ ⟨⟨?ipg_Share, ?ihd_Share, ?ipo_Share, ?isa_Share⟩, ?iha_Share, ?ihn_Share, ?ihtk_Share, ?ihm_Share⟩ (na_of ?na_Share_over) (na_of ?na_Share_under) (DefAt.mk' KX G (fun _ _ _ _ _ _ us hl => match us, hl with | [_, _], _ => rfl) ?a_l_stream ?l_l_stream ?q_l_stream ?k_l_stream) (DefAt.mk' KX G (fun _ _ _ _ _ _ us hl => match us, hl with | [_, _], _ => rfl) ?a_l_tails ?l_l_tails ?q_l_tails ?k_l_tails) (DefAt.mk' KX G (fun _ _ _ _ _ _ us hl => match us, hl with | [_, _], _ => rfl) ?a_greatest_divisor ?l_greatest_divisor ?q_greatest_divisor ?k_greatest_divisor) (MakeAt.mk' (fun _ _ _ _ _ _ us hl => match us, hl with | [_, _, _], _ => rfl) ?a_Share_init ?i_Share_init ?l_Share_init ?q_Share_init ?k_Share_init ?mk_Share_init ?kc_Share_init) (DefAt.mk' KX G (fun _ _ _ _ _ _ us hl => match us, hl with | [_, _], _ => rfl) ?a_power ?l_power ?q_power ?k_power) (DefAt.mk' KX G (fun _ _ _ _ _ _ us hl => match us, hl with | [_, _], _ => rfl) ?a_ways ?l_ways ?q_ways ?k_ways) (DefAt.mk' KX G (fun _ _ _ _ _ _ us hl => match us, hl with | [_, _, _], _ => rfl) ?a_hit_tail ?l_hit_tail ?q_hit_tail ?k_hit_tail) (DefAt.mk' KX G (fun _ _ _ _ _ _ us hl => match us, hl with | [_, _], _ => rfl) ?a_l_lowest ?l_l_lowest ?q_l_lowest ?k_l_lowest) (DefAt.mk' KX G (fun _ _ _ _ _ _ us hl => match us, hl with | [_], _ => rfl) ?a_l_is_whole ?l_l_is_whole ?q_l_is_whole ?k_l_is_whole) (DefAt.mk' KX G (fun _ _ _ _ _ _ us hl => match us, hl with | [_, _, _], _ => rfl) ?a_l_is_share ?l_l_is_share ?q_l_is_share ?k_l_is_share) (DefAt.mk' KX G (fun _ _ _ _ _ _ us hl => match us, hl with | [_, _, _], _ => rfl) ?a_l_least ?l_l_least ?q_l_least ?k_l_least) (DefAt.mk' KX G (fun _ _ _ _ _ _ us hl => match us, hl with | [_, _, _, _], _ => rfl) ?a_l_least_fits ?l_l_least_fits ?q_l_least_fits ?k_l_least_fits) (MethAt.mk' (fun _ _ _ _ _ _ us hl => match us, hl with | [_, _], _ => rfl) ?a_Share_is_below ?i_Share_is_below ?l_Share_is_below ?q_Share_is_below ?k_Share_is_below) (DefAt.mk' KX G (fun _ _ _ _ _ _ us hl => match us, hl with | [_, _, _], _ => rfl) ?a_hit_least ?l_hit_least ?q_hit_least ?k_hit_least) (DefAt.mk' KX G (fun _ _ _ _ _ _ us hl => match us, hl with | [_, _], _ => rfl) ?a_l_tails_fit ?l_l_tails_fit ?q_l_tails_fit ?k_l_tails_fit) (DefAt.mk' KX G (fun _ _ _ _ _ _ us hl => match us, hl with | [_, _], _ => rfl) ?a_l_draw ?l_l_draw ?q_l_draw ?k_l_draw) (DefAt.mk' KX G (fun _ _ _ _ _ _ us hl => match us, hl with | [_, _], _ => rfl) ?a_l_alphabet ?l_l_alphabet ?q_l_alphabet ?k_l_alphabet) (DefAt.mk' KX G (fun _ _ _ _ _ _ us hl => match us, hl with | [_, _, _], _ => rfl) ?a_l_keys ?l_l_keys ?q_l_keys ?k_l_keys) (DefAt.mk' KX G (fun _ _ _ _ _ _ us hl => match us, hl with | [_, _, _, _], _ => rfl) ?a_hits ?l_hits ?q_hits ?k_hits) (DefAt.mk' KX G (fun _ _ _ _ _ _ us hl => match us, hl with | [_, _], _ => rfl) ?a_l_power ?l_l_power ?q_l_power ?k_l_power) (DefAt.mk' KX G (fun _ _ _ _ _ _ us hl => match us, hl with | [_], _ => rfl) ?a_l_counts_fit ?l_l_counts_fit ?q_l_counts_fit ?k_l_counts_fit) (DefAt.mk' KX G (fun _ _ _ _ _ _ us hl => match us, hl with | [_, _], _ => rfl) ?a_l_large ?l_l_large ?q_l_large ?k_l_large) (DefAt.mk' KX G (fun _ _ _ _ _ _ us hl => match us, hl with | [_, _, _], _ => rfl) ?a_l_level ?l_l_level ?q_l_level ?k_l_level) (DefAt.mk' KX G (fun _ _ _ _ _ _ us hl => match us, hl with | [_, _, _], _ => rfl) ?a_l_levels_fit ?l_l_levels_fit ?q_l_levels_fit ?k_l_levels_fit) (DefAt.mk' KX G (fun _ _ _ _ _ _ us hl => match us, hl with | [_], _ => rfl) ?a_l_whole ?l_l_whole ?q_l_whole ?k_l_whole) (LawAt.mk' KX G (fun _ _ _ _ _ _ _ => rfl) ?a_law ?l_law ?q_law ?k_law))
    (case c_Share => k_is)
    (case z_abs => k_is)
    (case z_bool => k_is)
    (case z_int => k_is)
    (case z_isinstance => k_is)
    (case z_len => k_is)
    (case z_max => k_is)
    (case z_range => k_is)
    (case z_sorted => k_is)
    (case z_sum => k_is)
    (case z_zip => k_is)
    (case pg_Share => k_is)
    (case hd_Share => k_is)
    (case po_Share => k_is)
    (case sa_Share => k_is)
    (case ipg_Share => k_is)
    (case ihd_Share => k_is)
    (case ipo_Share => k_is)
    (case isa_Share => k_is)
    (case iha_Share => k_is)
    (case ihn_Share => k_is)
    (case ihtk_Share => k_is)
    (case ihm_Share => k_is)
    (case na_Share_over => k_is)
    (case na_Share_under => k_is)
    (case a_l_stream => k_is)
    (case l_l_stream => k_is)
    (case q_l_stream => k_is)
    (case k_l_stream => k_is)
    (case a_l_tails => k_is)
    (case l_l_tails => k_is)
    (case q_l_tails => k_is)
    (case k_l_tails => k_is)
    (case a_greatest_divisor => k_is)
    (case l_greatest_divisor => k_is)
    (case q_greatest_divisor => k_is)
    (case k_greatest_divisor => k_is)
    (case a_Share_init => k_is)
    (case i_Share_init => k_is)
    (case l_Share_init => k_is)
    (case q_Share_init => k_is)
    (case k_Share_init => k_is)
    (case mk_Share_init => k_is)
    (case kc_Share_init => k_is)
    (case a_power => k_is)
    (case l_power => k_is)
    (case q_power => k_is)
    (case k_power => k_is)
    (case a_ways => k_is)
    (case l_ways => k_is)
    (case q_ways => k_is)
    (case k_ways => k_is)
    (case a_hit_tail => k_is)
    (case l_hit_tail => k_is)
    (case q_hit_tail => k_is)
    (case k_hit_tail => k_is)
    (case a_l_lowest => k_is)
    (case l_l_lowest => k_is)
    (case q_l_lowest => k_is)
    (case k_l_lowest => k_is)
    (case a_l_is_whole => k_is)
    (case l_l_is_whole => k_is)
    (case q_l_is_whole => k_is)
    (case k_l_is_whole => k_is)
    (case a_l_is_share => k_is)
    (case l_l_is_share => k_is)
    (case q_l_is_share => k_is)
    (case k_l_is_share => k_is)
    (case a_l_least => k_is)
    (case l_l_least => k_is)
    (case q_l_least => k_is)
    (case k_l_least => k_is)
    (case a_l_least_fits => k_is)
    (case l_l_least_fits => k_is)
    (case q_l_least_fits => k_is)
    (case k_l_least_fits => k_is)
    (case a_Share_is_below => k_is)
    (case i_Share_is_below => k_is)
    (case l_Share_is_below => k_is)
    (case q_Share_is_below => k_is)
    (case k_Share_is_below => k_is)
    (case a_hit_least => k_is)
    (case l_hit_least => k_is)
    (case q_hit_least => k_is)
    (case k_hit_least => k_is)
    (case a_l_tails_fit => k_is)
    (case l_l_tails_fit => k_is)
    (case q_l_tails_fit => k_is)
    (case k_l_tails_fit => k_is)
    (case a_l_draw => k_is)
    (case l_l_draw => k_is)
    (case q_l_draw => k_is)
    (case k_l_draw => k_is)
    (case a_l_alphabet => k_is)
    (case l_l_alphabet => k_is)
    (case q_l_alphabet => k_is)
    (case k_l_alphabet => k_is)
    (case a_l_keys => k_is)
    (case l_l_keys => k_is)
    (case q_l_keys => k_is)
    (case k_l_keys => k_is)
    (case a_hits => k_is)
    (case l_hits => k_is)
    (case q_hits => k_is)
    (case k_hits => k_is)
    (case a_l_power => k_is)
    (case l_l_power => k_is)
    (case q_l_power => k_is)
    (case k_l_power => k_is)
    (case a_l_counts_fit => k_is)
    (case l_l_counts_fit => k_is)
    (case q_l_counts_fit => k_is)
    (case k_l_counts_fit => k_is)
    (case a_l_large => k_is)
    (case l_l_large => k_is)
    (case q_l_large => k_is)
    (case k_l_large => k_is)
    (case a_l_level => k_is)
    (case l_l_level => k_is)
    (case q_l_level => k_is)
    (case k_l_level => k_is)
    (case a_l_levels_fit => k_is)
    (case l_l_levels_fit => k_is)
    (case q_l_levels_fit => k_is)
    (case k_l_levels_fit => k_is)
    (case a_l_whole => k_is)
    (case l_l_whole => k_is)
    (case q_l_whole => k_is)
    (case k_l_whole => k_is)
    (case a_law => k_is)
    (case l_law => k_is)
    (case q_law => k_is)
    (case k_law => k_is)
