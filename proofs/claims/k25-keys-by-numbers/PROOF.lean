import PyProof.Rows.All
import Wide.All
import OpenK.AllK
import Wide.FinOn
import HandS.ForMost
import HandS.ForExc
import HandS.CallSlots
import HandS.Wide
import HandS.TryOnly
import HandS.Zip
import KE.GoesNew
import HandS.WideBits
import HandS.IsInst
import HandS.Replace
import HandS.Conv
import PySem.Challenge.RW_marktruly_k25_keys_by_numbers
set_option linter.all false
set_option Elab.async false
set_option maxRecDepth 100000
namespace BV
open PySem PySem.Spec PyProof.Rows L2

/-! ### data by value, and how it lies in a heap -/
inductive D where
  | non | bl (b : Bool) | int (i : Int) | str (x : Str) | ty (n : String) | adr (a : Addr)
  | tup (xs : List D) | lst (xs : List D) | lok (xs : List D) | dct (kvs : List (Key × D)) | dcT (kvs : List (List Key × D)) | obj (C : Addr) (fs : List (Str × D))
inductive W where
  | frz (d : D) | brw (d : D)
  | olst (ws : List W) | otup (ws : List W) | odct (kvs : List (Key × W)) | odcT (kvs : List (List Key × W)) | oobj (C : Addr) (fs : List (Str × W))

theorem sameSqT {K : PySem.W.Frag} {H H' : Hp} {a : Addr} {xs : List V} (e : Same H H') (h : SqT K H a xs) : SqT K H' a xs := by
  rcases h with (h | ⟨o, h⟩) | h
  · exact .inl (.inl (e _ _ h))
  · exact .inl (.inr ⟨o, e _ _ h⟩)
  · exact .inr h
section
variable (K : PySem.W.Frag) (F : Hp)
mutual
def Rep : D → V → Prop
  | .non, v => v = .non
  | .bl b, v => v = .bl b
  | .int i, v => v = .int i
  | .str x, v => v = .str x
  | .ty n, v => v = .ty n
  | .adr a, v => v = .ref a
  | .tup xs, v => ∃ a vs, v = .ref a ∧ SqT K F a vs ∧ Reps xs vs
  | .lst xs, v => ∃ a vs, v = .ref a ∧ F a = some (.lst vs) ∧ Reps xs vs
  | .lok xs, v => ∃ a vs, v = .ref a ∧ SqL K F a vs ∧ Reps xs vs
  | .dct kvs, v => ∃ a ws, v = .ref a ∧ F a = some (.dK ws) ∧ RepK kvs ws
  | .dcT kvs, v => ∃ a ws, v = .ref a ∧ F a = some (.dT ws) ∧ RepT kvs ws
  | .obj C fs, v => ∃ a dx ws, v = .ref a ∧ F a = some (.ins C dx ws) ∧ RepF fs ws
def Reps : List D → List V → Prop
  | [], vs => vs = []
  | d :: ds, vs => ∃ v r, vs = v :: r ∧ Rep d v ∧ Reps ds r
def RepK : List (Key × D) → List (Key × V) → Prop
  | [], vs => vs = []
  | (k, d) :: ds, vs => ∃ v r, vs = (k, v) :: r ∧ Rep d v ∧ RepK ds r
def RepT : List (List Key × D) → List (List Key × V) → Prop
  | [], vs => vs = []
  | (k, d) :: ds, vs => ∃ v r, vs = (k, v) :: r ∧ Rep d v ∧ RepT ds r
def RepF : List (Str × D) → List (Str × V) → Prop
  | [], vs => vs = []
  | (k, d) :: ds, vs => ∃ v r, vs = (k, v) :: r ∧ Rep d v ∧ RepF ds r
end
end
section
variable {K : PySem.W.Frag} {F F' : Hp}
mutual
theorem Rep.mono (s : Same F F') : ∀ {d : D} {v : V}, Rep K F d v → Rep K F' d v
  | .non, _, h => h
  | .bl _, _, h => h
  | .int _, _, h => h
  | .str _, _, h => h
  | .ty _, _, h => h
  | .adr _, _, h => h
  | .tup _, _, ⟨a, vs, e, q, r⟩ => ⟨a, vs, e, sameSqT s q, Reps.mono s r⟩
  | .lst _, _, ⟨a, vs, e, q, r⟩ => ⟨a, vs, e, s _ _ q, Reps.mono s r⟩
  | .lok _, _, ⟨a, vs, e, q, r⟩ => ⟨a, vs, e, s.seq q, Reps.mono s r⟩
  | .dct _, _, ⟨a, vs, e, q, r⟩ => ⟨a, vs, e, s _ _ q, RepK.mono s r⟩
  | .dcT _, _, ⟨a, vs, e, q, r⟩ => ⟨a, vs, e, s _ _ q, RepT.mono s r⟩
  | .obj _ _, _, ⟨a, dx, vs, e, q, r⟩ => ⟨a, dx, vs, e, s _ _ q, RepF.mono s r⟩
theorem Reps.mono (s : Same F F') : ∀ {d : List D} {v : List V}, Reps K F d v → Reps K F' d v
  | [], _, h => h
  | _ :: _, _, ⟨v, r, e, h, t⟩ => ⟨v, r, e, Rep.mono s h, Reps.mono s t⟩
theorem RepK.mono (s : Same F F') : ∀ {d : List (Key × D)} {v : List (Key × V)}, RepK K F d v → RepK K F' d v
  | [], _, h => h
  | (_, _) :: _, _, ⟨v, r, e, h, t⟩ => ⟨v, r, e, Rep.mono s h, RepK.mono s t⟩
theorem RepT.mono (s : Same F F') : ∀ {d : List (List Key × D)} {v : List (List Key × V)}, RepT K F d v → RepT K F' d v
  | [], _, h => h
  | (_, _) :: _, _, ⟨v, r, e, h, t⟩ => ⟨v, r, e, Rep.mono s h, RepT.mono s t⟩
theorem RepF.mono (s : Same F F') : ∀ {d : List (Str × D)} {v : List (Str × V)}, RepF K F d v → RepF K F' d v
  | [], _, h => h
  | (_, _) :: _, _, ⟨v, r, e, h, t⟩ => ⟨v, r, e, Rep.mono s h, RepF.mono s t⟩
end
end
def D.scal : D → Bool
  | .non | .bl _ | .int _ | .str _ | .ty _ | .adr _ => true
  | _ => false
theorem Rep.scal {K : PySem.W.Frag} {F F' : Hp} : ∀ {d : D} {v : V}, d.scal = true → Rep K F d v → Rep K F' d v
  | .non, _, _, h => h
  | .bl _, _, _, h => h
  | .int _, _, _, h => h
  | .str _, _, _, h => h
  | .ty _, _, _, h => h
  | .adr _, _, _, h => h

/-! ### values of the reading: frozen, borrowed, owned -/
section
variable (K : PySem.W.Frag) (F B H : Hp)
mutual
def RepW : W → V → List Addr → Prop
  | .frz d, v, as => Rep K F d v ∧ as = []
  | .brw d, v, as => Rep K B d v ∧ as = []
  | .olst ws, v, as => ∃ a vs bs, v = .ref a ∧ H a = some (.lst vs) ∧ as = a :: bs ∧ RepWs ws vs bs
  | .otup ws, v, as => ∃ a vs bs, v = .ref a ∧ H a = some (.tup vs) ∧ as = a :: bs ∧ RepWs ws vs bs
  | .odct kvs, v, as => ∃ a ws bs, v = .ref a ∧ H a = some (.dK ws) ∧ as = a :: bs ∧ RepWK kvs ws bs
  | .odcT kvs, v, as => ∃ a ws bs, v = .ref a ∧ H a = some (.dT ws) ∧ as = a :: bs ∧ RepWT kvs ws bs
  | .oobj C fs, v, as => ∃ a dx ws bs, v = .ref a ∧ H a = some (.ins C dx ws) ∧ as = a :: bs ∧ RepWF fs ws bs
def RepWs : List W → List V → List Addr → Prop
  | [], vs, as => vs = [] ∧ as = []
  | w :: ws, vs, as => ∃ v r a1 a2, vs = v :: r ∧ as = a1 ++ a2 ∧ RepW w v a1 ∧ RepWs ws r a2
def RepWK : List (Key × W) → List (Key × V) → List Addr → Prop
  | [], vs, as => vs = [] ∧ as = []
  | (k, w) :: ws, vs, as => ∃ v r a1 a2, vs = (k, v) :: r ∧ as = a1 ++ a2 ∧ RepW w v a1 ∧ RepWK ws r a2
def RepWT : List (List Key × W) → List (List Key × V) → List Addr → Prop
  | [], vs, as => vs = [] ∧ as = []
  | (k, w) :: ws, vs, as => ∃ v r a1 a2, vs = (k, v) :: r ∧ as = a1 ++ a2 ∧ RepW w v a1 ∧ RepWT ws r a2
def RepWF : List (Str × W) → List (Str × V) → List Addr → Prop
  | [], vs, as => vs = [] ∧ as = []
  | (k, w) :: ws, vs, as => ∃ v r a1 a2, vs = (k, v) :: r ∧ as = a1 ++ a2 ∧ RepW w v a1 ∧ RepWF ws r a2
end
end
/-- p stands in as -/
abbrev In (p : Addr) (as : List Addr) : Prop := 0 < List.count p as
theorem in_l {p : Addr} {a b : List Addr} (h : In p a) : In p (a ++ b) := by unfold In at *; rw [List.count_append]; omega
theorem in_r {p : Addr} {a b : List Addr} (h : In p b) : In p (a ++ b) := by unfold In at *; rw [List.count_append]; omega
theorem in_h {p : Addr} {a : List Addr} : In p (p :: a) := by unfold In; rw [List.count_cons_self]; omega
theorem in_t {p q : Addr} {a : List Addr} (h : In p a) : In p (q :: a) := by unfold In at *; rw [List.count_cons]; omega
theorem in_app {p : Addr} {a b : List Addr} (h : In p (a ++ b)) : In p a ∨ In p b := by unfold In at *; rw [List.count_append] at h; omega
theorem in_cons {p q : Addr} {a : List Addr} (h : In p (q :: a)) : p = q ∨ In p a := by
  unfold In at *
  by_cases e : q = p
  · exact .inl e.symm
  · rw [List.count_cons_of_ne (by simpa using e)] at h
    exact .inr h
theorem in_nil {p : Addr} (h : In p []) : False := by simp [In] at h
/-- what stands at the addresses stays -/
def Kept (as : List Addr) (H H' : Hp) : Prop := ∀ p, In p as → ∀ o, H p = some o → H' p = some o
theorem Kept.l {a b : List Addr} {H H' : Hp} (k : Kept (a ++ b) H H') : Kept a H H' := fun p h => k p (in_l h)
theorem Kept.r {a b : List Addr} {H H' : Hp} (k : Kept (a ++ b) H H') : Kept b H H' := fun p h => k p (in_r h)
theorem Kept.t {a : Addr} {b : List Addr} {H H' : Hp} (k : Kept (a :: b) H H') : Kept b H H' := fun p h => k p (in_t h)
theorem Kept.h {a : Addr} {b : List Addr} {H H' : Hp} (k : Kept (a :: b) H H') {o : HO} (e : H a = some o) : H' a = some o := k a in_h o e
section
variable {K : PySem.W.Frag} {F F' B B' H H' : Hp}
mutual
theorem RepW.frame (sF : Same F F') (sB : Same B B') : ∀ {w : W} {v : V} {as : List Addr}, Kept as H H' → RepW K F B H w v as → RepW K F' B' H' w v as
  | .frz _, _, _, _, ⟨h, e⟩ => ⟨h.mono sF, e⟩
  | .brw _, _, _, _, ⟨h, e⟩ => ⟨h.mono sB, e⟩
  | .olst _, _, _, k, ⟨a, vs, bs, e, q, ea, r⟩ => by subst ea; exact ⟨a, vs, bs, e, k.h q, rfl, RepWs.frame sF sB k.t r⟩
  | .otup _, _, _, k, ⟨a, vs, bs, e, q, ea, r⟩ => by subst ea; exact ⟨a, vs, bs, e, k.h q, rfl, RepWs.frame sF sB k.t r⟩
  | .odct _, _, _, k, ⟨a, vs, bs, e, q, ea, r⟩ => by subst ea; exact ⟨a, vs, bs, e, k.h q, rfl, RepWK.frame sF sB k.t r⟩
  | .odcT _, _, _, k, ⟨a, vs, bs, e, q, ea, r⟩ => by subst ea; exact ⟨a, vs, bs, e, k.h q, rfl, RepWT.frame sF sB k.t r⟩
  | .oobj _ _, _, _, k, ⟨a, dx, vs, bs, e, q, ea, r⟩ => by subst ea; exact ⟨a, dx, vs, bs, e, k.h q, rfl, RepWF.frame sF sB k.t r⟩
theorem RepWs.frame (sF : Same F F') (sB : Same B B') : ∀ {w : List W} {v : List V} {as : List Addr}, Kept as H H' → RepWs K F B H w v as → RepWs K F' B' H' w v as
  | [], _, _, _, h => h
  | _ :: _, _, _, k, ⟨v, r, a1, a2, e, ea, h, t⟩ => by subst ea; exact ⟨v, r, a1, a2, e, rfl, RepW.frame sF sB k.l h, RepWs.frame sF sB k.r t⟩
theorem RepWK.frame (sF : Same F F') (sB : Same B B') : ∀ {w : List (Key × W)} {v : List (Key × V)} {as : List Addr}, Kept as H H' → RepWK K F B H w v as → RepWK K F' B' H' w v as
  | [], _, _, _, h => h
  | (_, _) :: _, _, _, k, ⟨v, r, a1, a2, e, ea, h, t⟩ => by subst ea; exact ⟨v, r, a1, a2, e, rfl, RepW.frame sF sB k.l h, RepWK.frame sF sB k.r t⟩
theorem RepWT.frame (sF : Same F F') (sB : Same B B') : ∀ {w : List (List Key × W)} {v : List (List Key × V)} {as : List Addr}, Kept as H H' → RepWT K F B H w v as → RepWT K F' B' H' w v as
  | [], _, _, _, h => h
  | (_, _) :: _, _, _, k, ⟨v, r, a1, a2, e, ea, h, t⟩ => by subst ea; exact ⟨v, r, a1, a2, e, rfl, RepW.frame sF sB k.l h, RepWT.frame sF sB k.r t⟩
theorem RepWF.frame (sF : Same F F') (sB : Same B B') : ∀ {w : List (Str × W)} {v : List (Str × V)} {as : List Addr}, Kept as H H' → RepWF K F B H w v as → RepWF K F' B' H' w v as
  | [], _, _, _, h => h
  | (_, _) :: _, _, _, k, ⟨v, r, a1, a2, e, ea, h, t⟩ => by subst ea; exact ⟨v, r, a1, a2, e, rfl, RepW.frame sF sB k.l h, RepWF.frame sF sB k.r t⟩
end
end
/-! ### what is read -/
mutual
def W.rd : W → D
  | .frz d => d
  | .brw d => d
  | .olst ws => .lst (rds ws)
  | .otup ws => .tup (rds ws)
  | .odct kvs => .dct (rdK kvs)
  | .odcT kvs => .dcT (rdT kvs)
  | .oobj C fs => .obj C (rdF fs)
def rds : List W → List D
  | [] => []
  | w :: ws => w.rd :: rds ws
def rdK : List (Key × W) → List (Key × D)
  | [] => []
  | (k, w) :: ws => (k, w.rd) :: rdK ws
def rdT : List (List Key × W) → List (List Key × D)
  | [] => []
  | (k, w) :: ws => (k, w.rd) :: rdT ws
def rdF : List (Str × W) → List (Str × D)
  | [] => []
  | (k, w) :: ws => (k, w.rd) :: rdF ws
end
section
variable {K : PySem.W.Frag} {F B H : Hp}
mutual
theorem RepW.rd (sF : Same F H) (sB : Same B H) : ∀ {w : W} {v : V} {as : List Addr}, RepW K F B H w v as → Rep K H w.rd v
  | .frz _, _, _, ⟨h, e⟩ => h.mono sF
  | .brw _, _, _, ⟨h, e⟩ => h.mono sB
  | .olst _, _, _, ⟨a, vs, bs, e, q, ea, r⟩ => ⟨a, vs, e, q, RepWs.rd sF sB r⟩
  | .otup _, _, _, ⟨a, vs, bs, e, q, ea, r⟩ => ⟨a, vs, e, .inl (.inl q), RepWs.rd sF sB r⟩
  | .odct _, _, _, ⟨a, vs, bs, e, q, ea, r⟩ => ⟨a, vs, e, q, RepWK.rd sF sB r⟩
  | .odcT _, _, _, ⟨a, vs, bs, e, q, ea, r⟩ => ⟨a, vs, e, q, RepWT.rd sF sB r⟩
  | .oobj _ _, _, _, ⟨a, dx, vs, bs, e, q, ea, r⟩ => ⟨a, dx, vs, e, q, RepWF.rd sF sB r⟩
theorem RepWs.rd (sF : Same F H) (sB : Same B H) : ∀ {w : List W} {v : List V} {as : List Addr}, RepWs K F B H w v as → Reps K H (rds w) v
  | [], _, _, h => h.1
  | _ :: _, _, _, ⟨v, r, a1, a2, e, ea, h, t⟩ => ⟨v, r, e, RepW.rd sF sB h, RepWs.rd sF sB t⟩
theorem RepWK.rd (sF : Same F H) (sB : Same B H) : ∀ {w : List (Key × W)} {v : List (Key × V)} {as : List Addr}, RepWK K F B H w v as → RepK K H (rdK w) v
  | [], _, _, h => h.1
  | (_, _) :: _, _, _, ⟨v, r, a1, a2, e, ea, h, t⟩ => ⟨v, r, e, RepW.rd sF sB h, RepWK.rd sF sB t⟩
theorem RepWT.rd (sF : Same F H) (sB : Same B H) : ∀ {w : List (List Key × W)} {v : List (List Key × V)} {as : List Addr}, RepWT K F B H w v as → RepT K H (rdT w) v
  | [], _, _, h => h.1
  | (_, _) :: _, _, _, ⟨v, r, a1, a2, e, ea, h, t⟩ => ⟨v, r, e, RepW.rd sF sB h, RepWT.rd sF sB t⟩
theorem RepWF.rd (sF : Same F H) (sB : Same B H) : ∀ {w : List (Str × W)} {v : List (Str × V)} {as : List Addr}, RepWF K F B H w v as → RepF K H (rdF w) v
  | [], _, _, h => h.1
  | (_, _) :: _, _, _, ⟨v, r, a1, a2, e, ea, h, t⟩ => ⟨v, r, e, RepW.rd sF sB h, RepWF.rd sF sB t⟩
end
end
/-! ### freezing -/
mutual
def W.fr : W → Option D
  | .frz d => some d
  | .brw d => if d.scal then some d else none
  | .olst ws => (frs ws).map .lst
  | .otup ws => (frs ws).map .tup
  | .odct kvs => (frK kvs).map .dct
  | .odcT kvs => (frT kvs).map .dcT
  | .oobj C fs => (frF fs).map (.obj C)
def frs : List W → Option (List D)
  | [] => some []
  | w :: ws => match w.fr, frs ws with
    | some d, some r => some (d :: r)
    | _, _ => none
def frK : List (Key × W) → Option (List (Key × D))
  | [] => some []
  | (k, w) :: ws => match w.fr, frK ws with
    | some d, some r => some ((k, d) :: r)
    | _, _ => none
def frT : List (List Key × W) → Option (List (List Key × D))
  | [] => some []
  | (k, w) :: ws => match w.fr, frT ws with
    | some d, some r => some ((k, d) :: r)
    | _, _ => none
def frF : List (Str × W) → Option (List (Str × D))
  | [] => some []
  | (k, w) :: ws => match w.fr, frF ws with
    | some d, some r => some ((k, d) :: r)
    | _, _ => none
end
theorem map_some {α β : Type} {f : α → β} {x : Option α} {y : β} (h : x.map f = some y) : ∃ z, x = some z ∧ f z = y := by
  cases x with
  | none => cases h
  | some z => exact ⟨z, rfl, Option.some.inj h⟩
theorem frs_cons {w : W} {ws : List W} {ds : List D} (h : frs (w :: ws) = some ds) : ∃ d r, w.fr = some d ∧ frs ws = some r ∧ ds = d :: r := by
  unfold frs at h
  split at h
  · rename_i d r e1 e2; exact ⟨d, r, e1, e2, (Option.some.inj h).symm⟩
  · cases h
theorem frK_cons {k : Key} {w : W} {ws : List (Key × W)} {ds : List (Key × D)} (h : frK ((k, w) :: ws) = some ds) : ∃ d r, w.fr = some d ∧ frK ws = some r ∧ ds = (k, d) :: r := by
  unfold frK at h
  split at h
  · rename_i d r e1 e2; exact ⟨d, r, e1, e2, (Option.some.inj h).symm⟩
  · cases h
theorem frT_cons {k : List Key} {w : W} {ws : List (List Key × W)} {ds : List (List Key × D)} (h : frT ((k, w) :: ws) = some ds) : ∃ d r, w.fr = some d ∧ frT ws = some r ∧ ds = (k, d) :: r := by
  unfold frT at h
  split at h
  · rename_i d r e1 e2; exact ⟨d, r, e1, e2, (Option.some.inj h).symm⟩
  · cases h
theorem frF_cons {k : Str} {w : W} {ws : List (Str × W)} {ds : List (Str × D)} (h : frF ((k, w) :: ws) = some ds) : ∃ d r, w.fr = some d ∧ frF ws = some r ∧ ds = (k, d) :: r := by
  unfold frF at h
  split at h
  · rename_i d r e1 e2; exact ⟨d, r, e1, e2, (Option.some.inj h).symm⟩
  · cases h
section
variable {K : PySem.W.Frag} {F F' B H : Hp}
mutual
theorem RepW.fr (sF : Same F F') : ∀ {w : W} {v : V} {as : List Addr} {d : D}, Kept as H F' → w.fr = some d → RepW K F B H w v as → Rep K F' d v
  | .frz _, _, _, _, _, hd, ⟨h, e⟩ => by cases hd; exact h.mono sF
  | .brw d, _, _, _, _, hd, ⟨h, e⟩ => by
    unfold W.fr at hd
    split at hd
    · rename_i hs; cases hd; exact h.scal hs
    · cases hd
  | .olst ws, _, _, _, k, hd, ⟨a, vs, bs, e, q, ea, r⟩ => by
    subst ea
    unfold W.fr at hd
    obtain ⟨z, hz, rfl⟩ := map_some hd
    exact ⟨a, vs, e, k.h q, RepWs.fr sF k.t hz r⟩
  | .otup ws, _, _, _, k, hd, ⟨a, vs, bs, e, q, ea, r⟩ => by
    subst ea
    unfold W.fr at hd
    obtain ⟨z, hz, rfl⟩ := map_some hd
    exact ⟨a, vs, e, .inl (.inl (k.h q)), RepWs.fr sF k.t hz r⟩
  | .odct ws, _, _, _, k, hd, ⟨a, vs, bs, e, q, ea, r⟩ => by
    subst ea
    unfold W.fr at hd
    obtain ⟨z, hz, rfl⟩ := map_some hd
    exact ⟨a, vs, e, k.h q, RepWK.fr sF k.t hz r⟩
  | .odcT ws, _, _, _, k, hd, ⟨a, vs, bs, e, q, ea, r⟩ => by
    subst ea
    unfold W.fr at hd
    obtain ⟨z, hz, rfl⟩ := map_some hd
    exact ⟨a, vs, e, k.h q, RepWT.fr sF k.t hz r⟩
  | .oobj C ws, _, _, _, k, hd, ⟨a, dx, vs, bs, e, q, ea, r⟩ => by
    subst ea
    unfold W.fr at hd
    obtain ⟨z, hz, rfl⟩ := map_some hd
    exact ⟨a, dx, vs, e, k.h q, RepWF.fr sF k.t hz r⟩
theorem RepWs.fr (sF : Same F F') : ∀ {w : List W} {v : List V} {as : List Addr} {d : List D}, Kept as H F' → frs w = some d → RepWs K F B H w v as → Reps K F' d v
  | [], _, _, _, _, hd, h => by cases hd; exact h.1
  | w :: ws, _, _, _, k, hd, ⟨v, r, a1, a2, e, ea, h, t⟩ => by
    subst ea
    obtain ⟨d, ds, h1, h2, rfl⟩ := frs_cons hd
    exact ⟨v, r, e, RepW.fr sF k.l h1 h, RepWs.fr sF k.r h2 t⟩
theorem RepWK.fr (sF : Same F F') : ∀ {w : List (Key × W)} {v : List (Key × V)} {as : List Addr} {d : List (Key × D)}, Kept as H F' → frK w = some d → RepWK K F B H w v as → RepK K F' d v
  | [], _, _, _, _, hd, h => by cases hd; exact h.1
  | (x, w) :: ws, _, _, _, k, hd, ⟨v, r, a1, a2, e, ea, h, t⟩ => by
    subst ea
    obtain ⟨d, ds, h1, h2, rfl⟩ := frK_cons hd
    exact ⟨v, r, e, RepW.fr sF k.l h1 h, RepWK.fr sF k.r h2 t⟩
theorem RepWT.fr (sF : Same F F') : ∀ {w : List (List Key × W)} {v : List (List Key × V)} {as : List Addr} {d : List (List Key × D)}, Kept as H F' → frT w = some d → RepWT K F B H w v as → RepT K F' d v
  | [], _, _, _, _, hd, h => by cases hd; exact h.1
  | (x, w) :: ws, _, _, _, k, hd, ⟨v, r, a1, a2, e, ea, h, t⟩ => by
    subst ea
    obtain ⟨d, ds, h1, h2, rfl⟩ := frT_cons hd
    exact ⟨v, r, e, RepW.fr sF k.l h1 h, RepWT.fr sF k.r h2 t⟩
theorem RepWF.fr (sF : Same F F') : ∀ {w : List (Str × W)} {v : List (Str × V)} {as : List Addr} {d : List (Str × D)}, Kept as H F' → frF w = some d → RepWF K F B H w v as → RepF K F' d v
  | [], _, _, _, _, hd, h => by cases hd; exact h.1
  | (x, w) :: ws, _, _, _, k, hd, ⟨v, r, a1, a2, e, ea, h, t⟩ => by
    subst ea
    obtain ⟨d, ds, h1, h2, rfl⟩ := frF_cons hd
    exact ⟨v, r, e, RepW.fr sF k.l h1 h, RepWF.fr sF k.r h2 t⟩
end
end

/-! ### the heaps: F frozen, B borrowed, H whole; as: what is owned -/
structure WF (F B H : Hp) (as : List Addr) : Prop where
  f : Same F H
  b : Same B H
  nd : ∀ p, List.count p as ≤ 1
  own : ∀ p, In p as → F p = none ∧ B p = none ∧ H p ≠ none
structure Go (F B H : Hp) (as : List Addr) (F' H' : Hp) (as' : List Addr) : Prop where
  wf : WF F' B H' as'
  ext : Same F F'
  keep : ∀ p o, ¬ In p as → H p = some o → H' p = some o
  new : ∀ p, In p as' → In p as ∨ H p = none
  fnew : ∀ p, F p = none → F' p ≠ none → In p as ∨ H p = none
section
variable {F B H F1 H1 F2 H2 : Hp} {as as1 as2 fr : List Addr}
theorem not_in_none {p : Addr} (h : ¬ (In p as ∨ H p = none)) : ¬ In p as ∧ ∃ o, H p = some o := by
  refine ⟨fun z => h (.inl z), ?_⟩
  cases e : H p with
  | none => exact absurd (.inr e) h
  | some o => exact ⟨o, rfl⟩
theorem Go.refl (w : WF F B H as) : Go F B H as F H as := ⟨w, Same.refl _, fun _ _ _ h => h, fun _ h => .inl h, fun p a b => absurd a b⟩
theorem Go.trans (g : Go F B H as F1 H1 as1) (g2 : Go F1 B H1 as1 F2 H2 as2) : Go F B H as F2 H2 as2 := by
  have back : ∀ p, In p as1 ∨ H1 p = none → In p as ∨ H p = none := fun p h => by
    refine Classical.byContradiction fun n => ?_
    obtain ⟨n1, o, e⟩ := not_in_none n
    rcases h with h | h
    · exact n (g.new p h)
    · rw [g.keep p o n1 e] at h
      cases h
  refine ⟨g2.wf, g.ext.trans g2.ext, fun p o n e => g2.keep p o (fun z => ?_) (g.keep p o n e), fun p h => back p (g2.new p h), fun p a b => ?_⟩
  · rcases g.new p z with h | h
    · exact n h
    · rw [e] at h; cases h
  · by_cases e : F1 p = none
    · exact back p (g2.fnew p e b)
    · exact g.fnew p a e
theorem WF.sub (w : WF F B H as) (h : ∀ p, List.count p as1 ≤ List.count p as) : WF F B H as1 :=
  ⟨w.f, w.b, fun p => Nat.le_trans (h p) (w.nd p), fun p i => w.own p (Nat.lt_of_lt_of_le i (h p))⟩
theorem Go.sub (g : Go F B H as F1 H1 as1) (h : ∀ p, List.count p as2 ≤ List.count p as1) : Go F B H as F1 H1 as2 :=
  ⟨g.wf.sub h, g.ext, g.keep, fun p i => g.new p (Nat.lt_of_lt_of_le i (h p)), g.fnew⟩
theorem Go.sup (g : Go F B H as F1 H1 as1) (h : ∀ p, List.count p as ≤ List.count p as2) : Go F B H as2 F1 H1 as1 :=
  ⟨g.wf, g.ext, fun p o n => g.keep p o fun z => n (Nat.lt_of_lt_of_le z (h p)), fun p i => (g.new p i).imp (fun z => Nat.lt_of_lt_of_le z (h p)) id, fun p a b => (g.fnew p a b).imp (fun z => Nat.lt_of_lt_of_le z (h p)) id⟩
/-- what else is owned stays -/
theorem Go.kept (w : WF F B H (fr ++ as)) (g : Go F B H as F1 H1 as1) : Kept fr H H1 := fun p i o e => g.keep p o (fun z => by
  have := w.nd p
  rw [List.count_append] at this
  have z' : 0 < List.count p as := z
  have i' : 0 < List.count p fr := i
  omega) e
theorem Go.frame (w : WF F B H (fr ++ as)) (g : Go F B H as F1 H1 as1) : Go F B H (fr ++ as) F1 H1 (fr ++ as1) := by
  have nfr : ∀ p, In p fr → ¬ In p as := fun p i z => by
    have := w.nd p
    rw [List.count_append] at this
    have z' : 0 < List.count p as := z
    have i' : 0 < List.count p fr := i
    omega
  have n1 : ∀ p, In p fr → ¬ (In p as ∨ H p = none) := fun p i z => by
    rcases z with z | z
    · exact nfr p i z
    · exact (w.own p (in_l i)).2.2 z
  refine ⟨⟨g.wf.f, g.wf.b, fun p => ?_, fun p i => ?_⟩, g.ext, fun p o n e => g.keep p o (fun z => n (in_r z)) e, fun p i => ?_, fun p a b => (g.fnew p a b).imp in_r id⟩
  · rw [List.count_append]
    have h1 := w.nd p
    rw [List.count_append] at h1
    have h2 := g.wf.nd p
    by_cases i : 0 < List.count p fr
    · have : ¬ 0 < List.count p as1 := fun z => n1 p i (g.new p z)
      omega
    · omega
  · rcases in_app i with i | i
    · obtain ⟨a, b, c⟩ := w.own p (in_l i)
      refine ⟨?_, b, ?_⟩
      · refine Classical.byContradiction fun z => n1 p i (g.fnew p a z)
      · cases e : H p with
        | none => exact absurd e c
        | some o =>
          rw [g.kept w p i o e]
          exact fun z => nomatch z
    · exact g.wf.own p i
  · rcases in_app i with i | i
    · exact .inl (in_l i)
    · exact (g.new p i).imp in_r id
theorem Go.swap (w : WF F B H as) (h : ∀ p, List.count p as1 = List.count p as) : Go F B H as F H as1 := (Go.refl w).sub fun p => Nat.le_of_eq (h p)
/-! the steps -/
theorem Go.alloc (w : WF F B H as) {p : Addr} (n : H p = none) (o : HO) : Go F B H as F (upd H p o) (p :: as) := by
  have ne : ∀ {q : Addr} {u : HO}, H q = some u → q ≠ p := fun e z => by rw [z, n] at e; cases e
  have k : Same H (upd H p o) := fun q u e => by rw [upd_ne (ne e)]; exact e
  refine ⟨⟨w.f.trans k, w.b.trans k, fun q => ?_, fun q i => ?_⟩, Same.refl _, fun q u _ e => k q u e, fun q i => ?_, fun q a b => absurd a b⟩
  · by_cases e : p = q
    · subst e
      rw [List.count_cons_self]
      have : ¬ In p as := fun z => (w.own p z).2.2 n
      unfold In at this
      omega
    · rw [List.count_cons_of_ne (by simpa using e)]
      exact w.nd q
  · rcases in_cons i with e | i
    · subst e
      refine ⟨w.f.free n, w.b.free n, ?_⟩
      rw [upd_same]
      exact fun z => nomatch z
    · obtain ⟨a, b, c⟩ := w.own q i
      refine ⟨a, b, fun z => ?_⟩
      rw [upd_ne (fun z => by rw [z] at c; exact c n)] at z
      exact c z
  · rcases in_cons i with e | i
    · subst e; exact .inr n
    · exact .inl i
theorem Go.allocF (w : WF F B H as) {p : Addr} (n : H p = none) (o : HO) : Go F B H as (upd F p o) (upd H p o) as := by
  have ne : ∀ {q : Addr} {u : HO}, H q = some u → q ≠ p := fun e z => by rw [z, n] at e; cases e
  have k : Same H (upd H p o) := fun q u e => by rw [upd_ne (ne e)]; exact e
  have kF : Same F (upd F p o) := fun q u e => by rw [upd_ne (ne (w.f _ _ e))]; exact e
  have np : ∀ q, In q as → q ≠ p := fun q i z => by
    have := (w.own q i).2.2
    rw [z] at this
    exact this n
  refine ⟨⟨fun q u e => ?_, w.b.trans k, w.nd, fun q i => ?_⟩, kF, fun q u _ e => k q u e, fun q i => .inl i, fun q a b => ?_⟩
  · by_cases z : q = p
    · subst z
      rw [upd_same] at e ⊢
      exact e
    · rw [upd_ne z] at e
      exact k _ _ (w.f _ _ e)
  · obtain ⟨a, b, c⟩ := w.own q i
    rw [upd_ne (np q i), upd_ne (np q i)]
    exact ⟨a, b, c⟩
  · by_cases z : q = p
    · subst z; exact .inr n
    · rw [upd_ne z] at b
      exact absurd a b
theorem Go.write (w : WF F B H as) {p : Addr} (i : In p as) (o : HO) : Go F B H as F (upd H p o) as := by
  have k : ∀ q u, ¬ In q as → H q = some u → upd H p o q = some u := fun q u nq e => by
    rw [upd_ne (fun z => nq (by rw [z]; exact i))]
    exact e
  refine ⟨⟨fun q u e => ?_, fun q u e => ?_, w.nd, fun q j => ?_⟩, Same.refl _, k, fun q i => .inl i, fun q a b => absurd a b⟩
  · refine k q u (fun z => ?_) (w.f _ _ e)
    rw [(w.own q z).1] at e; cases e
  · refine k q u (fun z => ?_) (w.b _ _ e)
    rw [(w.own q z).2.1] at e; cases e
  · obtain ⟨a, b, c⟩ := w.own q j
    refine ⟨a, b, ?_⟩
    by_cases z : q = p
    · subst z
      rw [upd_same]
      exact fun z => nomatch z
    · rw [upd_ne z]
      exact c
/-- what is owned at as1 is frozen from now on -/
def frzn (F H : Hp) (as1 : List Addr) : Hp := fun p => if 0 < List.count p as1 then H p else F p
theorem frzn_kept {as1 : List Addr} : Kept as1 H (frzn F H as1) := fun p i o e => by
  unfold frzn
  rw [if_pos i]
  exact e
theorem Go.freeze (w : WF F B H (as1 ++ as)) : Go F B H (as1 ++ as) (frzn F H as1) H as := by
  have d : ∀ p, In p as1 → ¬ In p as := fun p i z => by
    have := w.nd p
    rw [List.count_append] at this
    have z' : 0 < List.count p as := z
    have i' : 0 < List.count p as1 := i
    omega
  refine ⟨⟨fun p o e => ?_, w.b, fun p => Nat.le_trans ?_ (w.nd p), fun p i => ?_⟩, fun p o e => ?_, fun _ _ _ h => h, fun p i => .inl (in_r i), fun p a b => ?_⟩
  · unfold frzn at e
    split at e
    · exact e
    · exact w.f _ _ e
  · rw [List.count_append]; omega
  · obtain ⟨a, b, c⟩ := w.own p (in_r i)
    refine ⟨?_, b, c⟩
    unfold frzn
    rw [if_neg (fun z => d p z i)]
    exact a
  · unfold frzn
    rw [if_neg (fun z => by rw [(w.own p (in_l z)).1] at e; cases e)]
    exact e
  · unfold frzn at b
    by_cases z : 0 < List.count p as1
    · exact .inl (in_l z)
    · rw [if_neg z] at b
      exact absurd a b
end

/-! ### the locals -/
abbrev Lc := List (Option W)
section
variable (K : PySem.W.Frag) (F B H : Hp)
def SlotRel (s : Option V) : Option W → List Addr → Prop
  | none, as => as = []
  | some w, as => ∃ v, s = some v ∧ RepW K F B H w v as
def SRel : L2.St → Lc → List Addr → Prop
  | σ, [], as => σ = [] ∧ as = []
  | σ, o :: L, as => ∃ s r a1 a2, σ = s :: r ∧ as = a1 ++ a2 ∧ SlotRel K F B H s o a1 ∧ SRel r L a2
end
section
variable {K : PySem.W.Frag} {F F' B B' H H' : Hp}
theorem SlotRel.frame (sF : Same F F') (sB : Same B B') {s : Option V} : ∀ {o : Option W} {as : List Addr}, Kept as H H' → SlotRel K F B H s o as → SlotRel K F' B' H' s o as
  | none, _, _, h => h
  | some _, _, k, ⟨v, e, h⟩ => ⟨v, e, h.frame sF sB k⟩
theorem SRel.frame (sF : Same F F') (sB : Same B B') : ∀ {L : Lc} {σ : L2.St} {as : List Addr}, Kept as H H' → SRel K F B H σ L as → SRel K F' B' H' σ L as
  | [], _, _, _, h => h
  | _ :: _, _, _, k, ⟨s, r, a1, a2, e, ea, h, t⟩ => by subst ea; exact ⟨s, r, a1, a2, e, rfl, h.frame sF sB k.l, SRel.frame sF sB k.r t⟩
theorem SRel.len : ∀ {L : Lc} {σ : L2.St} {as : List Addr}, SRel K F B H σ L as → σ.length = L.length
  | [], _, _, h => by rw [h.1]; rfl
  | _ :: _, _, _, ⟨s, r, a1, a2, e, ea, h, t⟩ => by rw [e, List.length_cons, List.length_cons, t.len]
/-- slot i, and how another content is put there -/
theorem SRel.at : ∀ {L : Lc} {σ : L2.St} {as : List Addr} {i : Nat} {o : Option W}, SRel K F B H σ L as → L[i]? = some o →
    ∃ s pre a1 post, σ[i]? = some s ∧ SlotRel K F B H s o a1 ∧ as = pre ++ (a1 ++ post) ∧
      ∀ (F' B' H' : Hp) (s' : Option V) (o' : Option W) (a1' : List Addr), Same F F' → Same B B' → Kept (pre ++ post) H H' → SlotRel K F' B' H' s' o' a1' → SRel K F' B' H' (σ.set i s') (L.set i o') (pre ++ (a1' ++ post))
  | [], _, _, _, _, _, h => by cases h
  | o :: L, σ, as, 0, o', ⟨s, r, a1, a2, e, ea, h, t⟩, hi => by
    cases hi
    subst e ea
    refine ⟨s, [], a1, a2, rfl, h, rfl, fun F' B' H' s' o' a1' sF sB k h' => ?_⟩
    exact ⟨s', r, a1', a2, rfl, rfl, h', t.frame sF sB k⟩
  | o :: L, σ, as, i + 1, o', ⟨s, r, a1, a2, e, ea, h, t⟩, hi => by
    obtain ⟨s', pre, b1, post, h1, h2, h3, h4⟩ := SRel.at t hi
    subst e ea h3
    refine ⟨s', a1 ++ pre, b1, post, h1, h2, by rw [List.append_assoc], fun F' B' H' s' o' a1' sF sB k h' => ?_⟩
    rw [List.append_assoc] at k ⊢
    exact ⟨s, _, a1, _, rfl, rfl, h.frame sF sB k.l, h4 F' B' H' s' o' a1' sF sB k.r h'⟩
end
end BV

namespace BV
open PySem PySem.Spec PyProof.Rows L2

/-! ### the reading: results -/
/-- an exception: its class, its fields -/
structure Ex where
  cls : Value
  fs : List (Str × D)
inductive Res (α : Type) where
  | ok (a : α) (L : Lc) | exc (x : Ex) (L : Lc) | bad
abbrev M (α : Type) := Lc → Res α
/-- a result: a value of its own; slot i's own object -/
inductive R where
  | val (w : W) | al (i : Nat)
def R.get (L : Lc) : R → Option W
  | .val w => some w
  | .al i => match L[i]? with
    | some o => o
    | none => none
def Res.bind {α β : Type} (r : Res α) (f : α → Lc → Res β) : Res β := match r with
  | .ok a L => f a L
  | .exc x L => .exc x L
  | .bad => .bad
abbrev sc (d : D) : R := .val (.frz d)

section
variable (K : PySem.W.Frag) (F B H : Hp) (σ : L2.St)
def RepR : R → V → List Addr → Prop
  | .val w, v, as => RepW K F B H w v as
  | .al i, v, as => σ[i]? = some (some v) ∧ as = []
def RepRs : List R → List V → List Addr → Prop
  | [], vs, as => vs = [] ∧ as = []
  | r :: rs, vs, as => ∃ v t a1 a2, vs = v :: t ∧ as = a1 ++ a2 ∧ RepR K F B H σ r v a1 ∧ RepRs rs t a2
def ExRel (x : Ex) (cls : Value) (d : Option Addr) : Prop := cls = x.cls ∧ ∃ dd ws, d = some dd ∧ F dd = some (.xd ws) ∧ RepF K F x.fs ws
end
section
variable {K : PySem.W.Frag} {F F' B H H' : Hp} {σ : L2.St}
theorem RepR.frame (sF : Same F F') {r : R} {v : V} {as : List Addr} (k : Kept as H H') (h : RepR K F B H σ r v as) : RepR K F' B H' σ r v as := by
  cases r with
  | val w => exact RepW.frame sF (Same.refl _) k h
  | al i => exact h
theorem RepRs.frame (sF : Same F F') : ∀ {rs : List R} {vs : List V} {as : List Addr}, Kept as H H' → RepRs K F B H σ rs vs as → RepRs K F' B H' σ rs vs as
  | [], _, _, _, h => h
  | _ :: _, _, _, k, ⟨v, t, a1, a2, e, ea, h, r⟩ => by subst ea; exact ⟨v, t, a1, a2, e, rfl, h.frame sF k.l, RepRs.frame sF k.r r⟩
theorem RepRs.len : ∀ {rs : List R} {vs : List V} {as : List Addr}, RepRs K F B H σ rs vs as → vs.length = rs.length
  | [], _, _, h => by rw [h.1]; rfl
  | _ :: _, _, _, ⟨v, t, a1, a2, e, ea, h, r⟩ => by rw [e, List.length_cons, List.length_cons, r.len]
theorem RepR.rd {r : R} {v : V} {as as' : List Addr} {L : Lc} {w : W} (sF : Same F H) (sB : Same B H) (s : SRel K F B H σ L as') (h : RepR K F B H σ r v as) (g : r.get L = some w) : Rep K H w.rd v := by
  cases r with
  | val w' => cases g; exact RepW.rd sF sB h
  | al i =>
    have g0 : (match L[i]? with
      | some o => o
      | none => none) = some w := g
    cases e : L[i]? with
    | none => rw [e] at g0; cases g0
    | some o =>
      rw [e] at g0
      have g' : o = some w := g0
      subst g'
      obtain ⟨s', pre, a1, post, h1, ⟨v', e1, h2⟩, _⟩ := SRel.at s e
      rw [h.1] at h1
      cases h1
      cases e1
      exact RepW.rd sF sB h2
end
/-- the three ways an expression's reading ends -/
def End {α : Type} (K : PySem.W.Frag) (Wx : WX) (F B H : Hp) (as : List Addr) (σ : L2.St) (ok : α → Lc → Prop) : Res α → Prop
  | .ok a L => ok a L
  | .exc x L => ∀ cls d F' H' as', Go F B H as F' H' as' → SRel K F' B H' σ L as' → ExRel K F' x cls d → Wx cls d σ H'
  | .bad => False
section
variable (K : PySem.W.Frag) (Wx : WX)
def okE (F B H : Hp) (as : List Addr) (σ : L2.St) (Q : VK) : R → Lc → Prop := fun r L => ∀ v F' H' asr as', Go F B H as F' H' (asr ++ as') → SRel K F' B H' σ L as' → RepR K F' B H' σ r v asr → Q v H'
def okA (F B H : Hp) (as : List Addr) (σ : L2.St) (Q : List V → Hp → Prop) : List R → Lc → Prop := fun r L => ∀ vs F' H' asr as', Go F B H as F' H' (asr ++ as') → SRel K F' B H' σ L as' → RepRs K F' B H' σ r vs asr → Q vs H'
def okT (F B H : Hp) (as : List Addr) (σ : L2.St) (Q : Bool → Hp → Prop) : Bool → Lc → Prop := fun b L => ∀ F' H' as', Go F B H as F' H' as' → SRel K F' B H' σ L as' → Q b H'
def bvE (m : M R) : TE := fun σ H Q => ∃ F B L as, WF F B H as ∧ SRel K F B H σ L as ∧ End K Wx F B H as σ (okE K F B H as σ Q) (m L)
def bvA (m : M (List R)) : TA := fun σ H Q => ∃ F B L as, WF F B H as ∧ SRel K F B H σ L as ∧ End K Wx F B H as σ (okA K F B H as σ Q) (m L)
def bvT (m : M Bool) : TT := fun σ H Q => ∃ F B L as, WF F B H as ∧ SRel K F B H σ L as ∧ End K Wx F B H as σ (okT K F B H as σ Q) (m L)
end
/-! ### weakening -/
section
variable {X : Cx}
theorem pe_imp {e : Expr} {t u : TE} (h : PE X e t) (q : ∀ σ H Q, u σ H Q → t σ H Q) : PE X e u := ⟨fun pins s σ H Q I w => h.run pins s σ H Q I (q _ _ _ w)⟩
theorem pt_imp {e : Expr} {t u : TT} (h : PT X e t) (q : ∀ σ H Q, u σ H Q → t σ H Q) : PT X e u := ⟨fun pins s σ H Q I w => h.run pins s σ H Q I (q _ _ _ w)⟩
theorem pw_imp {e : Expr} {t u : TT} (h : PW X e t) (q : ∀ σ H Q, u σ H Q → t σ H Q) : PW X e u := ⟨fun wh pins s σ H Q I w => h.run wh pins s σ H Q I (q _ _ _ w)⟩
theorem pa_imp {e : List Expr} {t u : TA} (h : PA X e t) (q : ∀ σ H Q, u σ H Q → t σ H Q) : PA X e u := ⟨fun pos pins s σ H Q I w => h.run pos pins s σ H Q I (q _ _ _ w)⟩
theorem ps_imp {e : Stmt} {t u : TS} (h : PS X e t) (q : ∀ D σ H, u D σ H → t D σ H) : PS X e u := ⟨fun pins s σ H D I w => h.run pins s σ H D I (q _ _ _ w)⟩
theorem pss_imp {e : List Stmt} {t u : TS} (h : PSs X e t) (q : ∀ D σ H, u D σ H → t D σ H) : PSs X e u := ⟨fun pins s σ H D I w => h.run pins s σ H D I (q _ _ _ w)⟩
end
section
variable {K : PySem.W.Frag} {Wx : WX} {F B H F1 H1 : Hp} {as as1 asr : List Addr} {σ : L2.St} {α β : Type}
theorem le_r (a b : List Addr) : ∀ p, List.count p b ≤ List.count p (a ++ b) := fun p => by rw [List.count_append]; omega
theorem le_l (a b : List Addr) : ∀ p, List.count p a ≤ List.count p (a ++ b) := fun p => by rw [List.count_append]; omega
/-- the ends behind a first step -/
theorem End.behind (g : Go F B H as F1 H1 as1) {p q : α → Lc → Prop} {r : Res α} (h : End K Wx F B H as σ p r) (k : ∀ a L, p a L → q a L) : End K Wx F1 B H1 as1 σ q r := by
  cases r with
  | ok a L => exact k a L h
  | exc x L => exact fun cls d F' H' as' g' => h cls d F' H' as' (g.trans g')
  | bad => exact h
theorem End.imp {p q : α → Lc → Prop} {r : Res α} (h : End K Wx F B H as σ p r) (k : ∀ a L, p a L → q a L) : End K Wx F B H as σ q r := by
  cases r with
  | ok a L => exact k a L h
  | exc x L => exact h
  | bad => exact h
theorem End.bind {p : β → Lc → Prop} {r : Res α} {f : α → Lc → Res β} (h : End K Wx F B H as σ p (r.bind f)) : End K Wx F B H as σ (fun a L => End K Wx F B H as σ p (f a L)) r := by
  cases r with
  | ok a L => exact h
  | exc x L => exact h
  | bad => exact h
/-- another expression behind, what the first gave beside -/
theorem framed {fr as2 : List Addr} {F2 H2 : Hp} (g : Go F B H as F1 H1 (fr ++ as1)) (g2 : Go F1 B H1 as1 F2 H2 as2) : Go F B H as F2 H2 (fr ++ as2) ∧ Kept fr H1 H2 := ⟨g.trans (g2.frame g.wf), g2.kept g.wf⟩
end

/-! ### simple expressions -/
section
variable {X : Cx} {Wx : WX}
def mVar (i : Nat) : M R := fun L => match L[i]? with
  | some (some (.frz d)) => .ok (.val (.frz d)) L
  | some (some (.brw d)) => .ok (.val (.brw d)) L
  | some (some _) => .ok (.al i) L
  | _ => .bad
theorem be_var (i : Nat) {x : Str} {pos : Pos} (hN : X.N[i]? = some x := by rfl) (hv : Vis X.env.scope x := by first | exact Or.inl rfl | exact Or.inr (Or.inl rfl) | exact Or.inr (Or.inr rfl)) (hd : (x == ("__debug__" : Str)) = false := by decide)
    (hcd : (x == ("__classdict__" : Str)) = false := by decide) : PE X (.Name x pos) (bvE X.K Wx (mVar i)) := by
  refine pe_imp (pe_var hN hv hd hcd) fun σ H Q ⟨F, B, L, as, wf, s, h⟩ => ?_
  unfold mVar at h
  split at h
  · rename_i d e
    obtain ⟨s', pre, a1, post, h1, ⟨v, e1, h2⟩, ea, k⟩ := SRel.at s e
    subst e1
    exact ⟨v, h1, h v F H [] as (Go.refl wf) s ⟨h2.1, rfl⟩⟩
  · rename_i d e
    obtain ⟨s', pre, a1, post, h1, ⟨v, e1, h2⟩, ea, k⟩ := SRel.at s e
    subst e1
    exact ⟨v, h1, h v F H [] as (Go.refl wf) s ⟨h2.1, rfl⟩⟩
  · rename_i w e1 e2 e
    obtain ⟨s', pre, a1, post, h1, ⟨v, e1, h2⟩, ea, k⟩ := SRel.at s e
    subst e1
    exact ⟨v, h1, h v F H [] as (Go.refl wf) s ⟨h1, rfl⟩⟩
  · exact h.elim
def mC (d : D) : M R := fun L => .ok (.val (.frz d)) L
theorem of_tC {v : V} {d : D} (hd : ∀ F, Rep X.K F d v) : ∀ σ H Q, bvE X.K Wx (mC d) σ H Q → tC v σ H Q := fun σ H Q ⟨F, B, L, as, wf, s, h⟩ => h v F H [] as (Go.refl wf) s ⟨hd _, rfl⟩
theorem be_int {i : Int} {j : Nat} {pos : Pos} : PE X (.Constant (.int i) j pos) (bvE X.K Wx (mC (.int i))) := pe_imp pe_int (of_tC fun _ => rfl)
theorem be_bl {b : Bool} {j : Nat} {pos : Pos} : PE X (.Constant (.bool b) j pos) (bvE X.K Wx (mC (.bl b))) := pe_imp pe_bl (of_tC fun _ => rfl)
theorem be_non {j : Nat} {pos : Pos} : PE X (.Constant .none j pos) (bvE X.K Wx (mC .non)) := pe_imp pe_non (of_tC fun _ => rfl)
theorem be_str {x : Str} {j : Nat} {pos : Pos} : PE X (.Constant (.str x) j pos) (bvE X.K Wx (mC (.str x))) := pe_imp pe_str (of_tC fun _ => rfl)
end

/-! ### operators -/
def mOp (g : R → R → M R) (a b : M R) : M R := fun L => (a L).bind fun x L1 => (b L1).bind fun y L2 => g x y L2
/-- what an operator's rule must give for its reading g -/
def OpOk (K : PySem.W.Frag) (r : R2) (g : R → R → M R) : Prop :=
  ∀ (Wx : WX) (σ : L2.St) (F B H : Hp) (L : Lc) (as as1 as2 : List Addr) (rx ry : R) (v1 v2 : V) (Q : VK), WF F B H (as1 ++ (as2 ++ as)) → SRel K F B H σ L as → RepR K F B H σ rx v1 as1 → RepR K F B H σ ry v2 as2 →
    End K Wx F B H (as1 ++ (as2 ++ as)) σ (okE K F B H (as1 ++ (as2 ++ as)) σ Q) (g rx ry L) → r v1 v2 H Q
theorem op2 {K : PySem.W.Frag} {Wx : WX} {r : R2} {g : R → R → M R} {ma mb : M R} (hg : OpOk K r g) : ∀ σ H Q, bvE K Wx (mOp g ma mb) σ H Q → tOp r (bvE K Wx ma) (bvE K Wx mb) σ H Q := fun σ H Q ⟨F, B, L, as, wf, s, h⟩ => by
  refine ⟨F, B, L, as, wf, s, (End.bind h).imp fun x L1 h1 v1 F1 H1 asr as1 g1 s1 r1 => ?_⟩
  refine ⟨F1, B, L1, as1, g1.wf.sub (le_r _ _), s1, (End.bind h1).behind (g1.sub (le_r _ _)) fun y L2 h2 v2 F2 H2 asr2 as2 g2 s2 r2 => ?_⟩
  obtain ⟨g3, k3⟩ := framed g1 g2
  refine hg Wx σ F2 B H2 L2 as2 asr asr2 x y v1 v2 Q g3.wf s2 (r1.frame g2.ext k3) r2 (h2.behind g3 fun r L3 h3 v F' H' asr' as' g' s' r' => ?_)
  exact h3 v F' H' asr' as' (g3.trans g') s' r'
section
variable {X : Cx} {Wx : WX} {a b : Expr} {ma mb : M R} {r : R2} {g : R → R → M R} {pos : Pos}
theorem be_op {op : Operator} (ho : OpR X (binaryOp op) r) (hg : OpOk X.K r g) (ha : PE X a (bvE X.K Wx ma)) (hb : PE X b (bvE X.K Wx mb)) : PE X (.BinOp a op b pos) (bvE X.K Wx (mOp g ma mb)) :=
  pe_imp (pe_op ho ha hb) (op2 hg)
theorem be_cmp {op : CmpOp} (ho : OpR X (compareOp op) r) (hg : OpOk X.K r g) (ha : PE X a (bvE X.K Wx ma)) (hb : PE X b (bvE X.K Wx mb)) (hm : behindInMarks op b = false) : PE X (.Compare a [op] [b] pos) (bvE X.K Wx (mOp g ma mb)) :=
  pe_imp (pe_cmpR ho ha hb hm) (op2 hg)
theorem opr_or {f : Value → Value → Sem Value} {r1 r2 : R2} (h1 : OpR X f r1) (h2 : OpR X f r2) : OpR X f (fun x y H Q => r1 x y H Q ∨ r2 x y H Q) := by
  intro pins s σ H x y v u Q I rx ry h
  rcases h with h | h
  · exact h1 pins s σ H x y v u Q I rx ry h
  · exact h2 pins s σ H x y v u Q I rx ry h
end
def gOr (g1 g2 : R → R → M R) : R → R → M R := fun x y L => match g1 x y L with
  | .bad => g2 x y L
  | r => r
theorem OpOk.or {K : PySem.W.Frag} {r1 r2 : R2} {g1 g2 : R → R → M R} (h1 : OpOk K r1 g1) (h2 : OpOk K r2 g2) : OpOk K (fun x y H Q => r1 x y H Q ∨ r2 x y H Q) (gOr g1 g2) := fun Wx σ F B H L as as1 as2 rx ry v1 v2 Q wf s p1 p2 h => by
  unfold gOr at h
  split at h
  · exact .inr (h2 Wx σ F B H L as as1 as2 rx ry v1 v2 Q wf s p1 p2 h)
  · rename_i r hr
    exact .inl (h1 Wx σ F B H L as as1 as2 rx ry v1 v2 Q wf s p1 p2 h)
/-- an operator that reads data and gives a scalar -/
def mkS (g : D → D → Option D) : R → R → M R := fun x y L => match x.get L, y.get L with
  | some a, some b => match g a.rd b.rd with
    | some d => .ok (.val (.frz d)) L
    | none => .bad
  | _, _ => .bad
theorem go_drop2 {F B H : Hp} {as as1 as2 : List Addr} (wf : WF F B H (as1 ++ (as2 ++ as))) : Go F B H (as1 ++ (as2 ++ as)) F H ([] ++ as) :=
  (Go.refl wf).sub fun p => by rw [List.nil_append, List.count_append, List.count_append]; omega
theorem OpOk.scal {K : PySem.W.Frag} {r : R2} {g : D → D → Option D} (hg : ∀ H d1 d2 v1 v2 d Q, Rep K H d1 v1 → Rep K H d2 v2 → g d1 d2 = some d → (∀ v, (∀ F, Rep K F d v) → Q v H) → r v1 v2 H Q) : OpOk K r (mkS g) := fun Wx σ F B H L as as1 as2 rx ry v1 v2 Q wf s p1 p2 h => by
  unfold mkS at h
  split at h
  · rename_i w1 w2 e1 e2
    split at h
    · rename_i d ed
      refine hg H _ _ v1 v2 d Q (p1.rd wf.f wf.b s e1) (p2.rd wf.f wf.b s e2) ed fun v hv => ?_
      exact h v F H [] as (go_drop2 wf) s ⟨hv _, rfl⟩
    · exact h.elim
  · exact h.elim
/-- two ints -/
def gI (f : Int → Int → Option D) : D → D → Option D
  | .int i, .int j => f i j
  | _, _ => none
theorem gI_of {f : Int → Int → Option D} {d1 d2 d : D} (h : gI f d1 d2 = some d) : ∃ i j, d1 = .int i ∧ d2 = .int j ∧ f i j = some d := by
  unfold gI at h
  split at h
  · exact ⟨_, _, rfl, rfl, h⟩
  · cases h
theorem okI {K : PySem.W.Frag} {C : Int → Int → Prop} {g : Int → Int → V} {f : Int → Int → Option D} (h : ∀ i j d, f i j = some d → C i j ∧ ∀ F, Rep K F d (g i j)) : OpOk K (rI C g) (mkS (gI f)) :=
  .scal fun H d1 d2 v1 v2 d Q r1 r2 e q => by
    obtain ⟨i, j, rfl, rfl, e⟩ := gI_of e
    cases r1; cases r2
    obtain ⟨c, hr⟩ := h i j d e
    exact ⟨i, j, rfl, rfl, c, q _ hr⟩
theorem okI0 {K : PySem.W.Frag} {g : Int → Int → V} {f : Int → Int → Option D} (h : ∀ i j d, f i j = some d → ∀ F, Rep K F d (g i j)) : OpOk K (rI0 g) (mkS (gI f)) :=
  .scal fun H d1 d2 v1 v2 d Q r1 r2 e q => by
    obtain ⟨i, j, rfl, rfl, e⟩ := gI_of e
    cases r1; cases r2
    exact ⟨i, j, rfl, rfl, q _ (h i j d e)⟩
end BV

namespace BV
open PySem PySem.Spec PyProof.Rows L2

/-! ### handing on a value for good -/
theorem set_same {α : Type} : ∀ {l : List α} {i : Nat} {s : α}, l[i]? = some s → l.set i s = l
  | [], _, _, h => by cases h
  | _ :: _, 0, _, h => by cases h; rfl
  | a :: l, i + 1, s, h => by
    show a :: l.set i s = a :: l
    rw [set_same (l := l) h]
def toF (r : R) : M D := fun L => match r with
  | .val w => match w.fr with
    | some d => .ok d L
    | none => .bad
  | .al i => match L[i]? with
    | some (some w) => match w.fr with
      | some d => .ok d (L.set i (some (.frz d)))
      | none => .bad
    | _ => .bad
section
variable {K : PySem.W.Frag} {Wx : WX} {F B H : Hp} {as asr : List Addr} {σ : L2.St} {L L' : Lc} {d : D} {v : V}
theorem fr_slot {i : Nat} {w : W} (wf : WF F B H as) (s : SRel K F B H σ L as) (e : L[i]? = some (some w)) (hd : w.fr = some d) :
    ∃ F' as' v, Go F B H as F' H as' ∧ SRel K F' B H σ (L.set i (some (.frz d))) as' ∧ σ[i]? = some (some v) ∧ Rep K F' d v := by
  obtain ⟨s', pre, a1, post, h1, ⟨v, e1, h2⟩, ea, k⟩ := SRel.at s e
  subst e1 ea
  have wf' : WF F B H (a1 ++ (pre ++ post)) := wf.sub fun p => by simp only [List.count_append]; omega
  have g := (Go.freeze wf').sup (as2 := pre ++ (a1 ++ post)) fun p => by simp only [List.count_append]; omega
  refine ⟨frzn F H a1, pre ++ ([] ++ post), v, g.sub fun p => by simp only [List.count_append, List.count_nil]; omega, ?_, h1, ?_⟩
  · have q := k (frzn F H a1) B H (some v) (some (.frz d)) [] g.ext (Same.refl _) (fun _ _ _ h => h) ⟨v, rfl, RepW.fr g.ext frzn_kept hd h2, rfl⟩
    rw [set_same h1] at q
    exact q
  · exact RepW.fr g.ext frzn_kept hd h2
theorem toF_ok {r : R} (wf : WF F B H (asr ++ as)) (s : SRel K F B H σ L as) (h : RepR K F B H σ r v asr) (e : toF r L = .ok d L') :
    ∃ F' as', Go F B H (asr ++ as) F' H as' ∧ SRel K F' B H σ L' as' ∧ Rep K F' d v := by
  cases r with
  | val w =>
    unfold toF at e
    dsimp only at e
    split at e
    · rename_i d' hd
      cases e
      have g := Go.freeze wf
      exact ⟨_, as, g, SRel.frame g.ext (Same.refl _) (fun _ _ _ h => h) s, RepW.fr g.ext frzn_kept hd h⟩
    · cases e
  | al i =>
    obtain ⟨h1, rfl⟩ := h
    unfold toF at e
    dsimp only at e
    split at e
    · rename_i w ew
      split at e
      · rename_i d' hd
        cases e
        obtain ⟨F', as', v', g, s', hv, hr⟩ := fr_slot wf s ew hd
        rw [hv] at h1
        cases h1
        exact ⟨F', as', g, s', hr⟩
      · cases e
    · cases e
/-- never an exception -/
theorem toF_end {r : R} {p : D → Lc → Prop} (h : End K Wx F B H as σ p (toF r L)) : ∃ d L', toF r L = .ok d L' ∧ p d L' := by
  cases e : toF r L with
  | ok d L' => rw [e] at h; exact ⟨d, L', rfl, h⟩
  | bad => rw [e] at h; exact h.elim
  | exc x L' =>
    exfalso
    unfold toF at e
    split at e <;> split at e
    · cases e
    · cases e
    · split at e <;> cases e
    · cases e
end
def toFs : List R → M (List D)
  | [], L => .ok [] L
  | r :: rs, L => (toF r L).bind fun d L1 => (toFs rs L1).bind fun ds L2 => .ok (d :: ds) L2
section
variable {K : PySem.W.Frag} {Wx : WX} {σ : L2.St}
theorem toFs_ok : ∀ {rs : List R} {F B H : Hp} {as asr : List Addr} {L L' : Lc} {ds : List D} {vs : List V}, WF F B H (asr ++ as) → SRel K F B H σ L as → RepRs K F B H σ rs vs asr → toFs rs L = .ok ds L' →
    ∃ F' as', Go F B H (asr ++ as) F' H as' ∧ SRel K F' B H σ L' as' ∧ Reps K F' ds vs
  | [], F, B, H, as, asr, L, L', ds, vs, wf, s, ⟨e1, e2⟩, e => by
    cases e
    subst e1 e2
    exact ⟨F, as, Go.refl wf, s, rfl⟩
  | r :: rs, F, B, H, as, asr, L, L', ds, vs, wf, s, ⟨v, t, a1, a2, e1, e2, h, hr⟩, e => by
    subst e1 e2
    unfold toFs at e
    cases ed : toF r L with
    | ok d L1 =>
      rw [ed] at e
      have wf1 : WF F B H (a1 ++ as) := wf.sub fun p => by simp only [List.count_append]; omega
      obtain ⟨F1, as1, g1, s1, q1⟩ := toF_ok wf1 s h ed
      have wf2 : WF F B H (a2 ++ (a1 ++ as)) := wf.sub fun p => by simp only [List.count_append]; omega
      have g1' := g1.frame wf2
      have k1 := g1.kept wf2
      have e : (toFs rs L1).bind (fun ds L2 => .ok (d :: ds) L2) = .ok ds L' := e
      cases es : toFs rs L1 with
      | ok ds' L2 =>
        rw [es] at e
        cases e
        obtain ⟨F2, as2, g2, s2, q2⟩ := toFs_ok g1'.wf s1 (hr.frame g1.ext k1) es
        refine ⟨F2, as2, (g1'.sup fun p => by simp only [List.count_append]; omega).trans g2, s2, v, t, rfl, q1.mono g2.ext, q2⟩
      | exc x L2 => rw [es] at e; cases e
      | bad => rw [es] at e; cases e
    | exc x L1 => rw [ed] at e; cases e
    | bad => rw [ed] at e; cases e
theorem toFs_end {F B H : Hp} {as : List Addr} {p : List D → Lc → Prop} : ∀ {rs : List R} {L : Lc}, End K Wx F B H as σ p (toFs rs L) → ∃ ds L', toFs rs L = .ok ds L' ∧ p ds L' := fun {rs L} h => by
  have key : ∀ (rs : List R) (L : Lc), (∃ ds L', toFs rs L = .ok ds L') ∨ toFs rs L = .bad := by
    intro rs
    induction rs with
    | nil => exact fun L => .inl ⟨_, _, rfl⟩
    | cons r rs ih =>
      intro L
      unfold toFs
      cases e : toF r L with
      | ok d L1 =>
        rcases ih L1 with ⟨ds, L2, e2⟩ | e2
        · exact .inl ⟨d :: ds, L2, by show (toFs rs L1).bind _ = _; rw [e2]; rfl⟩
        · exact .inr (by show (toFs rs L1).bind _ = _; rw [e2]; rfl)
      | bad => exact .inr rfl
      | exc x L1 =>
        exfalso
        unfold toF at e
        split at e <;> split at e
        · cases e
        · cases e
        · split at e <;> cases e
        · cases e
  rcases key rs L with ⟨ds, L', e⟩ | e
  · rw [e] at h; exact ⟨ds, L', e, h⟩
  · rw [e] at h; exact h.elim
theorem Reps.len {K : PySem.W.Frag} {F : Hp} : ∀ {ds : List D} {vs : List V}, Reps K F ds vs → vs.length = ds.length
  | [], _, h => by rw [show _ = [] from h]; rfl
  | _ :: _, _, ⟨v, r, e, h, t⟩ => by rw [e, List.length_cons, List.length_cons, t.len]
theorem reps_frz {K : PySem.W.Frag} {F B H : Hp} : ∀ {ds : List D} {vs : List V}, Reps K F ds vs → RepWs K F B H (ds.map .frz) vs []
  | [], _, h => ⟨h, rfl⟩
  | _ :: _, _, ⟨v, r, e, h, t⟩ => ⟨v, r, [], [], e, rfl, ⟨h, rfl⟩, reps_frz t⟩
end

/-! ### argument lists, displays -/
def mNil : M (List R) := fun L => .ok [] L
def mCons (a : M R) (b : M (List R)) : M (List R) := fun L => (a L).bind fun r L1 => (b L1).bind fun rs L2 => .ok (r :: rs) L2
def mTup (m : M (List R)) : M R := fun L => (m L).bind fun rs L1 => (toFs rs L1).bind fun ds L2 => if ds.length ≤ sizeLine then .ok (.val (.frz (.tup ds))) L2 else .bad
def mLst (m : M (List R)) : M R := fun L => (m L).bind fun rs L1 => (toFs rs L1).bind fun ds L2 => if ds.length ≤ sizeLine then .ok (.val (.olst (ds.map .frz))) L2 else .bad
section
variable {X : Cx} {Wx : WX} {e : Expr} {es : List Expr} {ma : M R} {mr : M (List R)} {pos : Pos}
theorem ba_nil : PA X [] (bvA X.K Wx mNil) := pa_imp pa_nil fun σ H Q ⟨F, B, L, as, wf, s, h⟩ => h [] F H [] as (Go.refl wf) s ⟨rfl, rfl⟩
theorem ba_cons (ha : PE X e (bvE X.K Wx ma)) (hr : PA X es (bvA X.K Wx mr)) (hs : starEach (e :: es) X.env = (false, eval e X.env) :: starEach es X.env := by rfl) : PA X (e :: es) (bvA X.K Wx (mCons ma mr)) := by
  refine pa_imp (pa_cons ha hr hs) fun σ H Q ⟨F, B, L, as, wf, s, h⟩ => ?_
  refine ⟨F, B, L, as, wf, s, (End.bind h).imp fun x L1 h1 v1 F1 H1 asr as1 g1 s1 r1 => ?_⟩
  refine ⟨F1, B, L1, as1, g1.wf.sub (le_r _ _), s1, (End.bind h1).behind (g1.sub (le_r _ _)) fun y L2 h2 v2 F2 H2 asr2 as2 g2 s2 r2 => ?_⟩
  obtain ⟨g3, k3⟩ := framed g1 g2
  exact h2 (v1 :: v2) F2 H2 (asr ++ asr2) as2 (g3.sub fun p => by simp only [List.count_append]; omega) s2 ⟨v1, v2, asr, asr2, rfl, rfl, r1.frame g2.ext k3, r2⟩
theorem of_ite {α : Type} {c : Prop} [Decidable c] {K : PySem.W.Frag} {Wx : WX} {F B H : Hp} {as : List Addr} {σ : L2.St} {p : α → Lc → Prop} {a : α} {L : Lc} (h : End K Wx F B H as σ p (if c then .ok a L else .bad)) : c ∧ p a L := by
  by_cases hc : c
  · rw [if_pos hc] at h; exact ⟨hc, h⟩
  · rw [if_neg hc] at h; exact h.elim
theorem be_tup {x1} (h : PA X es (bvA X.K Wx mr)) : PE X (.Tuple es x1 pos) (bvE X.K Wx (mTup mr)) := by
  refine pe_imp (pe_tup h) fun σ H Q ⟨F, B, L, as, wf, s, h⟩ => ?_
  refine ⟨F, B, L, as, wf, s, (End.bind h).imp fun rs L1 h1 vs F1 H1 asr as1 g1 s1 r1 => ?_⟩
  obtain ⟨ds, L2, e2, h2⟩ := toFs_end (End.bind h1)
  obtain ⟨F2, as2, g2, s2, q2⟩ := toFs_ok g1.wf s1 r1 e2
  obtain ⟨hl, h3⟩ := of_ite h2
  refine ⟨by rw [q2.len]; exact hl, fun p np => ?_⟩
  have g3 := Go.allocF g2.wf np (.tup vs)
  refine h3 (.ref p) _ _ [] as2 ((g1.trans g2).trans g3) (SRel.frame g3.ext (Same.refl _) (fun q _ o e => ?_) s2) ⟨⟨p, vs, rfl, .inl (.inl upd_same), q2.mono g3.ext⟩, rfl⟩
  rw [upd_ne (fun z => by rw [z, np] at e; cases e)]; exact e
theorem be_lst (h : PA X es (bvA X.K Wx mr)) : PE X (.List es pos) (bvE X.K Wx (mLst mr)) := by
  refine pe_imp (pe_lst h) fun σ H Q ⟨F, B, L, as, wf, s, h⟩ => ?_
  refine ⟨F, B, L, as, wf, s, (End.bind h).imp fun rs L1 h1 vs F1 H1 asr as1 g1 s1 r1 => ?_⟩
  obtain ⟨ds, L2, e2, h2⟩ := toFs_end (End.bind h1)
  obtain ⟨F2, as2, g2, s2, q2⟩ := toFs_ok g1.wf s1 r1 e2
  obtain ⟨hl, h3⟩ := of_ite h2
  refine ⟨by rw [q2.len]; exact hl, fun p np => ?_⟩
  have g3 := Go.alloc g2.wf np (.lst vs)
  refine h3 (.ref p) _ _ [p] as2 ((g1.trans g2).trans g3) (SRel.frame g3.ext (Same.refl _) (fun q _ o e => ?_) s2) ⟨p, vs, [], rfl, upd_same, rfl, reps_frz q2⟩
  rw [upd_ne (fun z => by rw [z, np] at e; cases e)]; exact e
end

/-! ### calls of what is built in -/
def CallOk (K : PySem.W.Frag) (r : List V → Hp → VK → Prop) (g : List R → M R) : Prop :=
  ∀ (Wx : WX) (σ : L2.St) (F B H : Hp) (L : Lc) (as as1 : List Addr) (rs : List R) (vs : List V) (Q : VK), WF F B H (as1 ++ as) → SRel K F B H σ L as → RepRs K F B H σ rs vs as1 →
    End K Wx F B H (as1 ++ as) σ (okE K F B H (as1 ++ as) σ Q) (g rs L) → r vs H Q
def mCallB (g : List R → M R) (m : M (List R)) : M R := fun L => (m L).bind g
/-- a method: the receiver, then the arguments -/
def MtOk (K : PySem.W.Frag) (r : V → List V → Hp → VK → Prop) (g : R → List R → M R) : Prop :=
  ∀ (Wx : WX) (σ : L2.St) (F B H : Hp) (L : Lc) (as as0 as1 : List Addr) (rx : R) (x : V) (rs : List R) (vs : List V) (Q : VK), WF F B H (as0 ++ (as1 ++ as)) → SRel K F B H σ L as → RepR K F B H σ rx x as0 → RepRs K F B H σ rs vs as1 →
    End K Wx F B H (as0 ++ (as1 ++ as)) σ (okE K F B H (as0 ++ (as1 ++ as)) σ Q) (g rx rs L) → r x vs H Q
/-- the built-in type of what is read -/
def tyD : D → String
  | .str _ => "str" | .int _ => "int" | .lst _ => "list" | .lok _ => "list" | .dct _ => "dict" | .dcT _ => "dict" | _ => ""
def mBM (T : String) (g : R → List R → M R) (a : M R) (m : M (List R)) : M R := fun L => (a L).bind fun x L1 => match x.get L1 with
  | some w => if tyD w.rd = T then (m L1).bind fun rs L2 => g x rs L2 else .bad
  | none => .bad
theorem tyD_ok {K : PySem.W.Frag} {H : Hp} {T : String} (hT : T ≠ "") : ∀ {d : D} {v : V}, tyD d = T → Rep K H d v → tyV K T v H
  | .str _, _, e, h => by cases h; exact e.symm
  | .int _, _, e, h => by cases h; exact e.symm
  | .lst _, _, e, ⟨a, vs, e1, q, _⟩ => by subst e1; exact .inl ⟨e.symm, vs, .inl (.inl q)⟩
  | .lok _, _, e, ⟨a, vs, e1, q, _⟩ => by subst e1; exact .inl ⟨e.symm, vs, q⟩
  | .dct _, _, e, ⟨a, vs, e1, q, _⟩ => by subst e1; exact .inr (.inr (.inl ⟨e.symm, .inl ⟨_, q⟩⟩))
  | .dcT _, _, e, ⟨a, vs, e1, q, _⟩ => by subst e1; exact .inr (.inr (.inl ⟨e.symm, .inr ⟨_, q⟩⟩))
  | .non, _, e, _ => absurd e.symm hT
  | .bl _, _, e, _ => absurd e.symm hT
  | .ty _, _, e, _ => absurd e.symm hT
  | .adr _, _, e, _ => absurd e.symm hT
  | .tup _, _, e, _ => absurd e.symm hT
  | .obj _ _, _, e, _ => absurd e.symm hT
section
variable {X : Cx} {Wx : WX} {e : Expr} {es : List Expr} {ma : M R} {mr : M (List R)} {pos p : Pos} {x : Str} {id : String} {r : List V → Hp → VK → Prop} {g : List R → M R}
theorem of_cb {K : PySem.W.Frag} (hg : CallOk K r g) : ∀ σ H Q, bvE K Wx (mCallB g mr) σ H Q → tCB r (bvA K Wx mr) σ H Q := fun σ H Q ⟨F, B, L, as, wf, s, h⟩ =>
  ⟨F, B, L, as, wf, s, (End.bind h).imp fun rs L1 h1 vs F1 H1 asr as1 g1 s1 r1 => hg Wx σ F1 B H1 L1 as1 asr rs vs Q g1.wf s1 r1 (h1.behind g1 fun r L3 h3 v F' H' asr' as' g' s' r' => h3 v F' H' asr' as' (g1.trans g') s' r')⟩
theorem be_callB (hc : CallR X (.builtin id) r) (hok : CallOk X.K r g) (hg : Gl X x) (hm : X.mg x = none) (hv : bootBuiltins x = some (.builtin id)) (ha : PA X (e :: es) (bvA X.K Wx mr)) (hn : x ≠ "__name__" := by decide) (hdb : (x == ("__debug__" : Str)) = false := by decide)
    (he : starEach (e :: es) X.env = (false, eval e X.env) :: starEach es X.env := by rfl) (hpl : (backTo pos (starEach es X.env)).any (·.1) = false := by rfl) : PE X (.Call (.Name x p) (e :: es) [] pos) (bvE X.K Wx (mCallB g mr)) :=
  pe_imp (pe_callB hc hg hm hv ha hn hdb he hpl) (of_cb hok)
theorem be_callTy {T : String} (hc : CallR X (.type T) r) (hok : CallOk X.K r g) (hg : Gl X x) (hm : X.mg x = none) (hv : bootBuiltins x = some (.type T)) (ha : PA X (e :: es) (bvA X.K Wx mr)) (hn : x ≠ "__name__" := by decide) (hdb : (x == ("__debug__" : Str)) = false := by decide)
    (he : starEach (e :: es) X.env = (false, eval e X.env) :: starEach es X.env := by rfl) (hpl : (backTo pos (starEach es X.env)).any (·.1) = false := by rfl) : PE X (.Call (.Name x p) (e :: es) [] pos) (bvE X.K Wx (mCallB g mr)) :=
  pe_imp (pe_callTy hc hg hm hv ha hn hdb he hpl) (of_cb hok)
variable {o : Expr} {apos cpos : Pos} {T : String} {name : Str} {rm : V → List V → Hp → VK → Prop} {gm : R → List R → M R}
theorem be_bm0 (hT : T ≠ "") (pa : PlainAttrs T) (slot : Slot T name id) (hty : typeOf (.builtin id) = pure (.type "method_descriptor")) (hm : MtR X id rm) (hok : MtOk X.K rm gm) (ho : PE X o (bvE X.K Wx ma))
    (hbase : attributeBase o name X.env (eval o X.env) = eval o X.env := by rfl) (hline : (apos.endLine == cpos.line) = true := by rfl) : PE X (.Call (.Attribute o name apos) [] [] cpos) (bvE X.K Wx (mBM T gm ma mNil)) := by
  refine pe_imp (pe_bm0 pa slot hty hm ho hbase hline) fun σ H Q ⟨F, B, L, as, wf, s, h⟩ => ?_
  refine ⟨F, B, L, as, wf, s, (End.bind h).imp fun x L1 h1 v F1 H1 asr as1 g1 s1 r1 => ?_⟩
  split at h1
  · rename_i w ew
    by_cases ht : tyD w.rd = T
    · rw [if_pos ht] at h1
      have sF := g1.wf.f
      refine ⟨tyD_ok hT ht (r1.rd g1.wf.f g1.wf.b s1 ew), hok Wx σ F1 B H1 L1 as1 asr [] x v [] [] Q g1.wf s1 r1 ⟨rfl, rfl⟩ ?_⟩
      exact h1.behind g1 fun r L3 h3 v F' H' asr' as' g' s' r' => h3 v F' H' asr' as' (g1.trans g') s' r'
    · rw [if_neg ht] at h1
      exact h1.elim
  · exact h1.elim
theorem be_bm (hT : T ≠ "") (pa : PlainAttrs T) (slot : Slot T name id) (hty : typeOf (.builtin id) = pure (.type "method_descriptor")) (hm : MtR X id rm) (hok : MtOk X.K rm gm) (ho : PE X o (bvE X.K Wx ma)) (ha : PA X (e :: es) (bvA X.K Wx mr))
    (hbase : attributeBase o name X.env (eval o X.env) = eval o X.env := by rfl)
    (hfew : ((backTo cpos (starEach (e :: es) X.env)).all (fun x => !x.1) && (backToKw cpos (keywordEach [] X.env)).all (fun x => x.1.isSome)
      && decide ((e :: es).length + ([] : List Keyword).length + (if ([] : List Keyword).isEmpty then 0 else 1) < 30)) = true := by rfl)
    (hline : (apos.endLine == cpos.line) = true := by rfl) (hs : starEach (e :: es) X.env = (false, eval e X.env) :: starEach es X.env := by rfl) (hplain : (backTo cpos (starEach es X.env)).any (·.1) = false := by rfl) :
    PE X (.Call (.Attribute o name apos) (e :: es) [] cpos) (bvE X.K Wx (mBM T gm ma mr)) := by
  refine pe_imp (pe_bm pa slot hty hm ho ha hbase hfew hline hs hplain) fun σ H Q ⟨F, B, L, as, wf, s, h⟩ => ?_
  refine ⟨F, B, L, as, wf, s, (End.bind h).imp fun x L1 h1 v F1 H1 asr as1 g1 s1 r1 => ?_⟩
  split at h1
  · rename_i w ew
    by_cases ht : tyD w.rd = T
    · rw [if_pos ht] at h1
      refine ⟨tyD_ok hT ht (r1.rd g1.wf.f g1.wf.b s1 ew), F1, B, L1, as1, g1.wf.sub (le_r _ _), s1, (End.bind h1).behind (g1.sub (le_r _ _)) fun rs L2 h2 vs F2 H2 asr2 as2 g2 s2 r2 => ?_⟩
      obtain ⟨g3, k3⟩ := framed g1 g2
      refine hok Wx σ F2 B H2 L2 as2 asr asr2 x v rs vs Q g3.wf s2 (r1.frame g2.ext k3) r2 (h2.behind g3 fun r L3 h3 v F' H' asr' as' g' s' r' => ?_)
      exact h3 v F' H' asr' as' (g3.trans g') s' r'
    · rw [if_neg ht] at h1
      exact h1.elim
  · exact h1.elim
end
end BV

namespace BV
open PySem PySem.Spec PyProof.Rows L2

/-! ### statements -/
inductive SRes where
  | next (L : Lc) | ret (w : W) (L : Lc) | brk (L : Lc) | cnt (L : Lc) | exc (x : Ex) (L : Lc) | bad
abbrev MS := Lc → SRes
/-- fl: which slots stay (the parameters that the caller gets back) -/
def Pin (fl : List Bool) (σ σ' : L2.St) : Prop := σ'.length = σ.length ∧ ∀ j : Nat, fl[j]? = some true → σ'[j]? = σ[j]?
theorem Pin.refl (fl : List Bool) (σ : L2.St) : Pin fl σ σ := ⟨rfl, fun _ _ => rfl⟩
theorem Pin.trans {fl : List Bool} {σ σ1 σ2 : L2.St} (h : Pin fl σ σ1) (k : Pin fl σ1 σ2) : Pin fl σ σ2 := ⟨k.1.trans h.1, fun j e => (k.2 j e).trans (h.2 j e)⟩
section
variable (K : PySem.W.Frag) (Wx : WX) (fl : List Bool)
def okN (F B H : Hp) (as : List Addr) (σ : L2.St) (Q : L2.St → Hp → Prop) (L : Lc) : Prop := ∀ σ' F' H' as', Go F B H as F' H' as' → SRel K F' B H' σ' L as' → Pin fl σ σ' → Q σ' H'
def EndS (F B H : Hp) (as : List Addr) (σ : L2.St) (T : Ends) : SRes → Prop
  | .next L => okN K fl F B H as σ T.nx L
  | .brk L => okN K fl F B H as σ T.bk L
  | .cnt L => okN K fl F B H as σ T.ct L
  | .ret w L => ∀ v σ' F' H' asw as', Go F B H as F' H' (asw ++ as') → SRel K F' B H' σ' L as' → Pin fl σ σ' → RepW K F' B H' w v asw → T.rt v H'
  | .exc x L => ∀ cls d σ' F' H' as', Go F B H as F' H' as' → SRel K F' B H' σ' L as' → Pin fl σ σ' → ExRel K F' x cls d → Wx cls d σ' H'
  | .bad => False
def bvS (m : MS) : TS := fun T σ H => ∃ F B L as, WF F B H as ∧ SRel K F B H σ L as ∧ EndS K Wx fl F B H as σ T (m L)
end
section
variable {K : PySem.W.Frag} {Wx : WX} {fl : List Bool} {F B H F1 H1 : Hp} {as as1 : List Addr} {σ σ1 : L2.St} {T : Ends}
theorem okN.behind {Q : L2.St → Hp → Prop} {L : Lc} (g : Go F B H as F1 H1 as1) (p : Pin fl σ σ1) (h : okN K fl F B H as σ Q L) : okN K fl F1 B H1 as1 σ1 Q L := fun σ' F' H' as' g' s' p' => h σ' F' H' as' (g.trans g') s' (p.trans p')
theorem EndS.behind {r : SRes} (g : Go F B H as F1 H1 as1) (p : Pin fl σ σ1) (h : EndS K Wx fl F B H as σ T r) : EndS K Wx fl F1 B H1 as1 σ1 T r := by
  cases r with
  | next L => exact okN.behind g p h
  | brk L => exact okN.behind g p h
  | cnt L => exact okN.behind g p h
  | ret w L => exact fun v σ' F' H' asw as' g' s' p' r' => h v σ' F' H' asw as' (g.trans g') s' (p.trans p') r'
  | exc x L => exact fun cls d σ' F' H' as' g' s' p' r' => h cls d σ' F' H' as' (g.trans g') s' (p.trans p') r'
  | bad => exact h
/-- an expression's reading, then a statement's end -/
def Res.thenS {α : Type} (r : Res α) (f : α → Lc → SRes) : SRes := match r with
  | .ok a L => f a L
  | .exc x L => .exc x L
  | .bad => .bad
theorem EndS.thenS {α : Type} {r : Res α} {f : α → Lc → SRes} (h : EndS K Wx fl F B H as σ T (r.thenS f)) : End K Wx F B H as σ (fun a L => EndS K Wx fl F B H as σ T (f a L)) r := by
  cases r with
  | ok a L => exact h
  | exc x L => exact fun cls d F' H' as' g s r' => h cls d σ F' H' as' g s (Pin.refl _ _) r'
  | bad => exact h
theorem toF_endS {r : R} {L : Lc} {f : D → Lc → SRes} (h : EndS K Wx fl F B H as σ T ((toF r L).thenS f)) : ∃ d L', toF r L = .ok d L' ∧ EndS K Wx fl F B H as σ T (f d L') := toF_end (EndS.thenS h)
end
def sNil : MS := fun L => .next L
def sSeq (a b : MS) : MS := fun L => match a L with
  | .next L1 => b L1
  | r => r
def sBrk : MS := fun L => .brk L
def sCnt : MS := fun L => .cnt L
def sExp (m : M R) : MS := fun L => (m L).thenS fun _ L1 => .next L1
/-- what is put into slot i -/
def asgn (fl : List Bool) (i : Nat) (r : R) (L : Lc) : SRes := if fl[i]? = some true then .bad else match r with
  | .val w => .next (L.set i (some w))
  | .al j => (toF (.al j) L).thenS fun d L1 => .next (L1.set i (some (.frz d)))
def sSet (fl : List Bool) (i : Nat) (m : M R) : MS := fun L => (m L).thenS fun r L1 => asgn fl i r L1
/-- a result is handed back: slot i's own object is moved out -/
def handed (r : R) (L : Lc) : SRes := match r with
  | .val w => .ret w L
  | .al i => match L[i]? with
    | some (some w) => .ret w (L.set i none)
    | _ => .bad
def sRet (m : M R) : MS := fun L => (m L).thenS handed
def sRetN : MS := fun L => .ret (.frz .non) L
def sIf (c : M Bool) (a b : MS) : MS := fun L => (c L).thenS fun k L1 => if k = true then a L1 else b L1
section
variable {X : Cx} {Wx : WX} {fl : List Bool} {st : Stmt} {rest : List Stmt} {a b : MS} {pos : Pos}
theorem bss_nil : PSs X [] (bvS X.K Wx fl sNil) := pss_imp pss_nil fun D σ H ⟨F, B, L, as, wf, s, h⟩ => h σ F H as (Go.refl wf) s (Pin.refl _ _)
theorem bs_pass : PS X (.Pass pos) (bvS X.K Wx fl sNil) := ps_imp ps_pass fun D σ H ⟨F, B, L, as, wf, s, h⟩ => h σ F H as (Go.refl wf) s (Pin.refl _ _)
theorem bs_break : PS X (.Break pos) (bvS X.K Wx fl sBrk) := ps_imp ps_break fun D σ H ⟨F, B, L, as, wf, s, h⟩ => h σ F H as (Go.refl wf) s (Pin.refl _ _)
theorem bs_continue : PS X (.Continue pos) (bvS X.K Wx fl sCnt) := ps_imp ps_continue fun D σ H ⟨F, B, L, as, wf, s, h⟩ => h σ F H as (Go.refl wf) s (Pin.refl _ _)
theorem seq_end {K : PySem.W.Frag} {F B H : Hp} {as : List Addr} {σ : L2.St} {T : Ends} {L : Lc} (h : EndS K Wx fl F B H as σ T (sSeq a b L)) : EndS K Wx fl F B H as σ { T with nx := bvS K Wx fl b T } (a L) := by
  unfold sSeq at h
  split at h
  · rename_i L1 e
    rw [e]
    exact fun σ' F' H' as' g s p => ⟨F', B, L1, as', g.wf, s, EndS.behind g p h⟩
  · rename_i r hr
    cases e : a L with
    | next L1 => exact absurd e (hr L1)
    | brk L1 => rw [e] at h; exact h
    | cnt L1 => rw [e] at h; exact h
    | ret w L1 => rw [e] at h; exact h
    | exc x L1 => rw [e] at h; exact h
    | bad => rw [e] at h; exact h
theorem bss_cons (h1 : PS X st (bvS X.K Wx fl a)) (h2 : PSs X rest (bvS X.K Wx fl b)) : PSs X (st :: rest) (bvS X.K Wx fl (sSeq a b)) :=
  pss_imp (pss_cons h1 h2) fun D σ H ⟨F, B, L, as, wf, s, h⟩ => ⟨F, B, L, as, wf, s, seq_end h⟩
theorem bss_one (h1 : PS X st (bvS X.K Wx fl a)) : PSs X [st] (bvS X.K Wx fl a) := pss_one h1
variable {e : Expr} {m : M R} {i : Nat} {x : Str} {pos' : Pos}
theorem bs_expr (he : PE X e (bvE X.K Wx m)) (hs : swapsWith e none pos.line X.env = pure false := by rfl) : PS X (.Expr e pos) (bvS X.K Wx fl (sExp m)) :=
  ps_imp (ps_expr he hs) fun D σ H ⟨F, B, L, as, wf, s, h⟩ => ⟨F, B, L, as, wf, s, (EndS.thenS h).imp fun r L1 h1 v F' H' asr as' g' s' r' => h1 σ F' H' as' (g'.sub (le_r _ _)) s' (Pin.refl _ _)⟩
theorem pin_set {fl : List Bool} {σ : L2.St} {i : Nat} {v : Option V} (h : ¬ fl[i]? = some true) : Pin fl σ (σ.set i v) := ⟨List.length_set, fun j e => by
  have ne : i ≠ j := fun z => h (by rw [z]; exact e)
  rw [List.getElem?_set_ne ne]⟩
/-- the slot's store -/
theorem set_ok {K : PySem.W.Frag} {F B H : Hp} {as asr : List Addr} {σ : L2.St} {T : Ends} {L : Lc} {r : R} {v : V} (wf : WF F B H (asr ++ as)) (s : SRel K F B H σ L as) (rr : RepR K F B H σ r v asr)
    (h : EndS K Wx fl F B H (asr ++ as) σ T (asgn fl i r L)) : T.nx (σ.set i (some v)) H := by
  unfold asgn at h
  by_cases hp : fl[i]? = some true
  · rw [if_pos hp] at h; exact h.elim
  · rw [if_neg hp] at h
    have put : ∀ {F B H : Hp} {as asr : List Addr} {L : Lc} {w : W}, WF F B H (asr ++ as) → SRel K F B H σ L as → RepW K F B H w v asr → ∃ as', Go F B H (asr ++ as) F H as' ∧ SRel K F B H (σ.set i (some v)) (L.set i (some w)) as' := by
      intro F B H as asr L w wf s rw'
      by_cases hi : i < L.length
      · obtain ⟨s', pre, a1, post, h1, h2, ea, k⟩ := SRel.at s (List.getElem?_eq_getElem hi)
        subst ea
        exact ⟨pre ++ (asr ++ post), (Go.refl wf).sub fun p => by simp only [List.count_append]; omega, k F B H (some v) (some w) asr (Same.refl _) (Same.refl _) (fun _ _ _ z => z) ⟨v, rfl, rw'⟩⟩
      · refine ⟨as, (Go.refl wf).sub (le_r _ _), ?_⟩
        have hl := s.len
        rw [List.set_eq_of_length_le (show σ.length ≤ i by omega), List.set_eq_of_length_le (show L.length ≤ i by omega)]
        exact s
    cases r with
    | val w =>
      obtain ⟨as', g, s'⟩ := put wf s rr
      exact h _ F H as' g s' (pin_set hp)
    | al j =>
      obtain ⟨d, L1, e1, h1⟩ := toF_endS h
      obtain ⟨F1, as1, g1, s1, q1⟩ := toF_ok wf s rr e1
      obtain ⟨as', g, s'⟩ := put (asr := []) (w := .frz d) g1.wf s1 ⟨q1, rfl⟩
      exact h1 _ F1 H as' (g1.trans g) s' (pin_set hp)
theorem bs_set (hN : X.N.Nodup) (hi : X.N[i]? = some x) (hx : L2.Loc X.env.scope x) (he : PE X e (bvE X.K Wx m)) (hs : swapsWith e (some (.Name x pos')) pos.line X.env = pure false := by rfl)
    (hf : X.fn x = true ∨ X.env.scope.names.lookup x = some .local := by first | exact .inl rfl | exact .inr rfl | assumption) : PS X (.Assign [.Name x pos'] e pos) (bvS X.K Wx fl (sSet fl i m)) := by
  refine ps_imp (ps_set hN hi hx he hs hf) fun T σ H ⟨F, B, L, as, wf, s, h⟩ => ?_
  refine ⟨F, B, L, as, wf, s, (EndS.thenS h).imp fun r L1 h1 v F' H' asr as' g' s' r' => ?_⟩
  exact set_ok g'.wf s' r' (EndS.behind g' (Pin.refl _ _) h1)
theorem bs_ret (he : PE X e (bvE X.K Wx m)) : PS X (.Return (some e) pos) (bvS X.K Wx fl (sRet m)) := by
  refine ps_imp (ps_ret he) fun T σ H ⟨F, B, L, as, wf, s, h⟩ => ?_
  refine ⟨F, B, L, as, wf, s, (EndS.thenS h).imp fun r L1 h1 v F' H' asr as' g' s' r' => ?_⟩
  unfold handed at h1
  cases r with
  | val w => exact h1 v σ F' H' asr as' g' s' (Pin.refl _ _) r'
  | al j =>
    obtain ⟨hv, rfl⟩ := r'
    dsimp only at h1
    split at h1
    · rename_i w ew
      obtain ⟨s0, pre, a1, post, q1, ⟨v', e1, q2⟩, ea, k⟩ := SRel.at s' ew
      subst e1 ea
      rw [hv] at q1
      cases q1
      have s2 := k F' B H' (some v) none [] (Same.refl _) (Same.refl _) (fun _ _ _ z => z) rfl
      rw [set_same hv] at s2
      exact h1 v σ F' H' a1 (pre ++ ([] ++ post)) (g'.sub fun p => by simp only [List.count_append, List.count_nil]; omega) s2 (Pin.refl _ _) q2
    · exact h1.elim
theorem bs_retN : PS X (.Return none pos) (bvS X.K Wx fl sRetN) := ps_imp ps_retN fun T σ H ⟨F, B, L, as, wf, s, h⟩ => h .non σ F H [] as (Go.refl wf) s (Pin.refl _ _) ⟨rfl, rfl⟩
theorem bs_if {c : Expr} {mc : M Bool} {sa sb : List Stmt} (hc : PT X c (bvT X.K Wx mc)) (ha : PSs X sa (bvS X.K Wx fl a)) (hb : PSs X sb (bvS X.K Wx fl b)) : PS X (.If c sa sb pos) (bvS X.K Wx fl (sIf mc a b)) := by
  refine ps_imp (ps_if hc ha hb) fun T σ H ⟨F, B, L, as, wf, s, h⟩ => ?_
  refine ⟨F, B, L, as, wf, s, (EndS.thenS h).imp fun k L1 h1 F' H' as' g' s' => ?_⟩
  cases k with
  | true => exact iteT ⟨F', B, L1, as', g'.wf, s', EndS.behind g' (Pin.refl _ _) h1⟩
  | false => exact iteF ⟨F', B, L1, as', g'.wf, s', EndS.behind g' (Pin.refl _ _) (h1 : EndS X.K Wx fl F B H as σ T (b L1))⟩
end
/-! ### tests -/
section
variable {X : Cx} {Wx : WX} {e a b : Expr} {m : M R} {ma mb : M Bool} {rest : List Expr} {pos : Pos}
def tru : D → Option Bool
  | .non => some false
  | .bl b => some b
  | .int i => some (i != 0)
  | .str y => if y.length ≤ sizeLine then some ((y.length : Int) != 0) else none
  | .lst xs => some (!xs.isEmpty)
  | .lok xs => some (!xs.isEmpty)
  | .tup xs => some (!xs.isEmpty)
  | .dct xs => some (!xs.isEmpty)
  | _ => none
def mTru (m : M R) : M Bool := fun L => (m L).bind fun r L1 => match r.get L1 with
  | some w => match tru w.rd with
    | some k => .ok k L1
    | none => .bad
  | none => .bad
theorem emp_of {K : PySem.W.Frag} {F : Hp} : ∀ {xs : List D} {vs : List V}, Reps K F xs vs → (!xs.isEmpty) = !vs.isEmpty
  | [], _, h => by rw [show _ = [] from h]; rfl
  | _ :: _, _, ⟨v, r, e, _, _⟩ => by rw [e]; rfl
theorem empK_of {K : PySem.W.Frag} {F : Hp} : ∀ {xs : List (Key × D)} {vs : List (Key × V)}, RepK K F xs vs → (!xs.isEmpty) = !vs.isEmpty
  | [], _, h => by rw [show _ = [] from h]; rfl
  | (_, _) :: _, _, ⟨v, r, e, _, _⟩ => by rw [e]; rfl
theorem tru_of {K : PySem.W.Frag} {H : Hp} : ∀ {d : D} {v : V} {k : Bool}, tru d = some k → Rep K H d v → TruV K v H k
  | .non, _, _, e, h => by cases h; cases e; exact rfl
  | .bl _, _, _, e, h => by cases h; cases e; exact rfl
  | .int _, _, _, e, h => by cases h; cases e; exact rfl
  | .str y, _, _, e, h => by
    cases h
    have e' : (if y.length ≤ sizeLine then some ((y.length : Int) != 0) else none) = some _ := e
    split at e'
    · rename_i hy; cases e'; exact ⟨hy, rfl⟩
    · cases e'
  | .lst xs, _, _, e, ⟨a, vs, e1, q, r⟩ => by subst e1; cases e; exact .inl ⟨vs, .inl (.inl q), emp_of r⟩
  | .lok xs, _, _, e, ⟨a, vs, e1, q, r⟩ => by subst e1; cases e; exact .inl ⟨vs, q, emp_of r⟩
  | .tup xs, _, _, e, ⟨a, vs, e1, q, r⟩ => by subst e1; cases e; exact .inr (.inl ⟨vs, q, emp_of r⟩)
  | .dct xs, _, _, e, ⟨a, vs, e1, q, r⟩ => by subst e1; cases e; exact .inr (.inr ⟨vs, q, empK_of r⟩)
  | .ty _, _, _, e, _ => nomatch e
  | .adr _, _, _, e, _ => nomatch e
  | .dcT _, _, _, e, _ => nomatch e
  | .obj _ _, _, _, e, _ => nomatch e
theorem bt_tru (he : PE X e (bvE X.K Wx m)) (hw : ∀ whole, isTrue e X.env whole = (do let v ← whole; standAt e.pos; holding [v] (truthy v)) := by intro _; rfl) : PT X e (bvT X.K Wx (mTru m)) := by
  refine pt_imp (pt_truth he hw) fun σ H Q ⟨F, B, L, as, wf, s, h⟩ => ?_
  refine ⟨F, B, L, as, wf, s, (End.bind h).imp fun r L1 h1 v F' H' asr as' g' s' r' => ?_⟩
  split at h1
  · rename_i w ew
    split at h1
    · rename_i k ek
      exact ⟨k, tru_of ek (r'.rd g'.wf.f g'.wf.b s' ew), h1 F' H' as' (g'.sub (le_r _ _)) s'⟩
    · exact h1.elim
  · exact h1.elim
/-- an expression that gives True or False -/
def mBl (m : M R) : M Bool := fun L => (m L).bind fun r L1 => match r with
  | .val (.frz (.bl b)) => .ok b L1
  | _ => .bad
theorem of_bl {K : PySem.W.Frag} {t : TE} (ht : ∀ σ H Q, bvE K Wx m σ H Q → t σ H Q) : ∀ σ H Q, bvT K Wx (mBl m) σ H Q → t σ H (fun x H' => ∃ k, x = .bl k ∧ Q k H') := fun σ H Q ⟨F, B, L, as, wf, s, h⟩ => by
  refine ht σ H _ ⟨F, B, L, as, wf, s, (End.bind h).imp fun r L1 h1 v F' H' asr as' g' s' r' => ?_⟩
  split at h1
  · rename_i b
    exact ⟨b, r'.1, h1 F' H' as' (g'.sub (le_r _ _)) s'⟩
  · exact h1.elim
theorem bt_val (he : PE X e (bvE X.K Wx m)) (hw : ∀ whole, isTrue e X.env whole = (do let v ← whole; standAt e.pos; holding [v] (truthy v)) := by intro _; rfl) : PT X e (bvT X.K Wx (mBl m)) :=
  pt_imp (pt_val he hw) (of_bl fun _ _ _ h => h)
theorem bt_cmp {op : CmpOp} {r : R2} {g : R → R → M R} {mx my : M R} (ho : OpR X (compareOp op) r) (hg : OpOk X.K r g) (ha : PE X a (bvE X.K Wx mx)) (hb : PE X b (bvE X.K Wx my)) (hm : behindInMarks op b = false) : PT X (.Compare a [op] [b] pos) (bvT X.K Wx (mBl (mOp g mx my))) :=
  pt_imp (pt_cmpR ho ha hb hm) (of_bl (op2 hg))
def mNot (m : M Bool) : M Bool := fun L => (m L).bind fun k L1 => .ok (!k) L1
def mAnd (a b : M Bool) : M Bool := fun L => (a L).bind fun k L1 => if k = true then b L1 else .ok false L1
def mOr (a b : M Bool) : M Bool := fun L => (a L).bind fun k L1 => if k = true then .ok true L1 else b L1
theorem bt_not (ha : PT X a (bvT X.K Wx ma)) : PT X (.UnaryOp .Not a pos) (bvT X.K Wx (mNot ma)) :=
  pt_imp (pt_not ha) fun σ H Q ⟨F, B, L, as, wf, s, h⟩ => ⟨F, B, L, as, wf, s, (End.bind h).imp fun k L1 h1 F' H' as' g' s' => h1 F' H' as' g' s'⟩
theorem bw_and1 (ha : PT X a (bvT X.K Wx ma)) : PW X (.BoolOp .And [a] pos) (bvT X.K Wx ma) := pw_and1 ha
theorem bw_or1 (ha : PT X a (bvT X.K Wx ma)) : PW X (.BoolOp .Or [a] pos) (bvT X.K Wx ma) := pw_or1 ha
theorem bw_and (ha : PT X a (bvT X.K Wx ma)) (hb : PW X (.BoolOp .And (b :: rest) pos) (bvT X.K Wx mb)) : PW X (.BoolOp .And (a :: b :: rest) pos) (bvT X.K Wx (mAnd ma mb)) :=
  pw_imp (pw_and ha hb) fun σ H Q ⟨F, B, L, as, wf, s, h⟩ => ⟨F, B, L, as, wf, s, (End.bind h).imp fun k L1 h1 F' H' as' g' s' => by
    cases k with
    | true => exact iteT ⟨F', B, L1, as', g'.wf, s', (show End X.K Wx F B H as σ (okT X.K F B H as σ Q) (mb L1) from h1).behind g' fun k2 L2 h2 F2 H2 as2 g2 s2 => h2 F2 H2 as2 (g'.trans g2) s2⟩
    | false => exact iteF (h1 F' H' as' g' s')⟩
theorem bw_or (ha : PT X a (bvT X.K Wx ma)) (hb : PW X (.BoolOp .Or (b :: rest) pos) (bvT X.K Wx mb)) : PW X (.BoolOp .Or (a :: b :: rest) pos) (bvT X.K Wx (mOr ma mb)) :=
  pw_imp (pw_or ha hb) fun σ H Q ⟨F, B, L, as, wf, s, h⟩ => ⟨F, B, L, as, wf, s, (End.bind h).imp fun k L1 h1 F' H' as' g' s' => by
    cases k with
    | false => exact iteF ⟨F', B, L1, as', g'.wf, s', (show End X.K Wx F B H as σ (okT X.K F B H as σ Q) (mb L1) from h1).behind g' fun k2 L2 h2 F2 H2 as2 g2 s2 => h2 F2 H2 as2 (g'.trans g2) s2⟩
    | true => exact iteT (h1 F' H' as' g' s')⟩
end
end BV

namespace BV
open PySem PySem.Spec PyProof.Rows L2

/-! ### and, or, not, if as values; chains -/
def mAndV (a b : M R) : M R := fun L => (mBl a L).bind fun k L1 => if k = true then b L1 else .ok (sc (.bl false)) L1
def mOrV (a b : M R) : M R := fun L => (mBl a L).bind fun k L1 => if k = true then .ok (sc (.bl true)) L1 else b L1
def mNotV (a : M R) : M R := fun L => (mBl a L).bind fun k L1 => .ok (sc (.bl (!k))) L1
def mIfE (c : M Bool) (a b : M R) : M R := fun L => (c L).bind fun k L1 => if k = true then a L1 else b L1
section
variable {X : Cx} {Wx : WX} {a b c : Expr} {ma mb mc : M R} {rest : List Expr} {pos : Pos}
theorem mBl_end {K : PySem.W.Frag} {F B H : Hp} {as : List Addr} {σ : L2.St} {p : Bool → Lc → Prop} {m : M R} {L : Lc} (h : End K Wx F B H as σ p (mBl m L)) :
    End K Wx F B H as σ (fun r L1 => ∃ k, r = sc (.bl k) ∧ p k L1) (m L) := by
  refine (End.bind h).imp fun r L1 h1 => ?_
  split at h1
  · rename_i k; exact ⟨k, rfl, h1⟩
  · exact h1.elim
theorem be_one {op} (h : PE X a (bvE X.K Wx ma)) : PE X (.BoolOp op [a] pos) (bvE X.K Wx ma) := pe_one h
theorem be_and (ha : PE X a (bvE X.K Wx ma)) (hb : PE X (.BoolOp .And (b :: rest) pos) (bvE X.K Wx mb)) : PE X (.BoolOp .And (a :: b :: rest) pos) (bvE X.K Wx (mAndV ma mb)) :=
  pe_imp (pe_and ha hb) fun σ H Q ⟨F, B, L, as, wf, s, h⟩ => ⟨F, B, L, as, wf, s, (mBl_end (p := fun k L1 => End X.K Wx F B H as σ (okE X.K F B H as σ Q) (if k = true then mb L1 else .ok (sc (.bl false)) L1)) (by
      cases e : mBl ma L with
      | ok k L1 => have h' := h; unfold mAndV at h'; rw [e] at h'; exact h'
      | exc x L1 => have h' := h; unfold mAndV at h'; rw [e] at h'; exact h'
      | bad => have h' := h; unfold mAndV at h'; rw [e] at h'; exact h')).imp fun r L1 h1 v F' H' asr as' g' s' r' => by
    obtain ⟨k, rfl, h1⟩ := h1
    obtain rfl : v = .bl k := r'.1
    have g := g'.sub (le_r asr as')
    refine ⟨k, rfl, ?_⟩
    cases k with
    | true => exact iteT ⟨F', B, L1, as', g.wf, s', (show End X.K Wx F B H as σ (okE X.K F B H as σ Q) (mb L1) from h1).behind g fun r2 L2 h2 v2 F2 H2 asr2 as2 g2 s2 r2' => h2 v2 F2 H2 asr2 as2 (g.trans g2) s2 r2'⟩
    | false => exact iteF ((show okE X.K F B H as σ Q (sc (.bl false)) L1 from h1) (.bl false) F' H' [] as' g s' ⟨rfl, rfl⟩)⟩
theorem be_or (ha : PE X a (bvE X.K Wx ma)) (hb : PE X (.BoolOp .Or (b :: rest) pos) (bvE X.K Wx mb)) : PE X (.BoolOp .Or (a :: b :: rest) pos) (bvE X.K Wx (mOrV ma mb)) :=
  pe_imp (pe_or ha hb) fun σ H Q ⟨F, B, L, as, wf, s, h⟩ => ⟨F, B, L, as, wf, s, (mBl_end (p := fun k L1 => End X.K Wx F B H as σ (okE X.K F B H as σ Q) (if k = true then .ok (sc (.bl true)) L1 else mb L1)) (by
      cases e : mBl ma L with
      | ok k L1 => have h' := h; unfold mOrV at h'; rw [e] at h'; exact h'
      | exc x L1 => have h' := h; unfold mOrV at h'; rw [e] at h'; exact h'
      | bad => have h' := h; unfold mOrV at h'; rw [e] at h'; exact h')).imp fun r L1 h1 v F' H' asr as' g' s' r' => by
    obtain ⟨k, rfl, h1⟩ := h1
    obtain rfl : v = .bl k := r'.1
    have g := g'.sub (le_r asr as')
    refine ⟨k, rfl, ?_⟩
    cases k with
    | false => exact iteF ⟨F', B, L1, as', g.wf, s', (show End X.K Wx F B H as σ (okE X.K F B H as σ Q) (mb L1) from h1).behind g fun r2 L2 h2 v2 F2 H2 asr2 as2 g2 s2 r2' => h2 v2 F2 H2 asr2 as2 (g.trans g2) s2 r2'⟩
    | true => exact iteT ((show okE X.K F B H as σ Q (sc (.bl true)) L1 from h1) (.bl true) F' H' [] as' g s' ⟨rfl, rfl⟩)⟩
theorem be_not (ha : PE X a (bvE X.K Wx ma)) : PE X (.UnaryOp .Not a pos) (bvE X.K Wx (mNotV ma)) :=
  pe_imp (pe_not ha) fun σ H Q ⟨F, B, L, as, wf, s, h⟩ => ⟨F, B, L, as, wf, s, (mBl_end (End.bind h)).imp fun r L1 ⟨k, e, h1⟩ v F' H' asr as' g' s' r' => by
    subst e
    obtain rfl : v = .bl k := r'.1
    exact ⟨k, rfl, h1 (.bl (!k)) F' H' [] as' (g'.sub (le_r asr as')) s' ⟨rfl, rfl⟩⟩⟩
theorem be_ifExp {mt : M Bool} (hc : PT X c (bvT X.K Wx mt)) (ha : PE X a (bvE X.K Wx ma)) (hb : PE X b (bvE X.K Wx mb)) : PE X (.IfExp c a b pos) (bvE X.K Wx (mIfE mt ma mb)) :=
  pe_imp (pe_ifExp hc ha hb) fun σ H Q ⟨F, B, L, as, wf, s, h⟩ => ⟨F, B, L, as, wf, s, (End.bind h).imp fun k L1 h1 F' H' as' g s' => by
    have fin : ∀ {m : M R}, End X.K Wx F B H as σ (okE X.K F B H as σ Q) (m L1) → bvE X.K Wx m σ H' Q := fun {m} h2 => ⟨F', B, L1, as', g.wf, s', h2.behind g fun r2 L2 h2 v2 F2 H2 asr2 as2 g2 s2 r2' => h2 v2 F2 H2 asr2 as2 (g.trans g2) s2 r2'⟩
    cases k with
    | true => exact iteT (fin h1)
    | false => exact iteF (fin (m := mb) h1)⟩
/-- a op b op' c, b a scalar -/
def mChain (g g' : R → R → M R) (a b c : M R) : M R := fun L => (a L).bind fun x L1 => (b L1).bind fun y L2 => match y with
  | .val (.frz d) => (g x y L2).bind fun z L3 => match z with
    | .val (.frz (.bl k)) => if k = true then (c L3).bind fun u L4 => g' (sc d) u L4 else .ok (sc (.bl false)) L3
    | _ => .bad
  | _ => .bad
theorem of_chain {K : PySem.W.Frag} {r r' : R2} {g g' : R → R → M R} (hg : OpOk K r g) (hg' : OpOk K r' g') : ∀ σ H Q, bvE K Wx (mChain g g' ma mb mc) σ H Q → tChain r r' (bvE K Wx ma) (bvE K Wx mb) (bvE K Wx mc) σ H Q := fun σ H Q ⟨F, B, L, as, wf, s, h⟩ => by
  refine ⟨F, B, L, as, wf, s, (End.bind h).imp fun x L1 h1 v1 F1 H1 asr as1 g1 s1 r1 => ?_⟩
  refine ⟨F1, B, L1, as1, g1.wf.sub (le_r _ _), s1, (End.bind h1).behind (g1.sub (le_r _ _)) fun y L2 h2 v2 F2 H2 asr2 as2 g2 s2 r2 => ?_⟩
  obtain ⟨g3, k3⟩ := framed g1 g2
  split at h2
  · rename_i d
    obtain ⟨rd, rfl⟩ := r2
    refine hg Wx σ F2 B H2 L2 as2 asr [] x (sc d) v1 v2 _ g3.wf s2 (r1.frame g2.ext k3) ⟨rd, rfl⟩ ((End.bind h2).behind g3 fun z L3 h3 vz F3 H3 asz as3 g4 s3 rz => ?_)
    split at h3
    · rename_i k
      obtain rfl : vz = .bl k := rz.1
      have g5 := (g3.trans g4).sub (le_r asz as3)
      refine ⟨k, rfl, ?_⟩
      cases k with
      | false => exact iteF ((show okE K F B H as σ Q (sc (.bl false)) L3 from h3) (.bl false) F3 H3 [] as3 g5 s3 ⟨rfl, rfl⟩)
      | true =>
        refine iteT ⟨F3, B, L3, as3, g5.wf, s3, (End.bind (show End K Wx F B H as σ (okE K F B H as σ Q) ((mc L3).bind fun u L4 => g' (sc d) u L4) from h3)).behind g5 fun u L4 h4 vu F4 H4 asu as4 g6 s4 ru => ?_⟩
        refine hg' Wx σ F4 B H4 L4 as4 [] asu (sc d) u v2 vu Q g6.wf s4 ⟨(rd.mono g4.ext).mono g6.ext, rfl⟩ ru (h4.behind (g5.trans g6) fun r' L5 h5 v F' H' asr' as' g' s' r'' => h5 v F' H' asr' as' ((g5.trans g6).trans g') s' r'')
    · exact h3.elim
  · exact h2.elim
theorem be_chain {r r' : R2} {g g' : R → R → M R} {op op' : CmpOp} (ho : OpR X (compareOp op) r) (hg : OpOk X.K r g) (ho' : OpR X (compareOp op') r') (hg' : OpOk X.K r' g') (ha : PE X a (bvE X.K Wx ma)) (hb : PE X b (bvE X.K Wx mb)) (hc : PE X c (bvE X.K Wx mc))
    (hq : ∀ σ H Q, bvE X.K Wx (mChain g g' ma mb mc) σ H Q → tChain r r' (bvE X.K Wx ma) (bvE X.K Wx mb) (bvE X.K Wx mc) σ H Q) (hp : PE X (.Compare a [op, op'] [b, c] pos) (tChain r r' (bvE X.K Wx ma) (bvE X.K Wx mb) (bvE X.K Wx mc))) : PE X (.Compare a [op, op'] [b, c] pos) (bvE X.K Wx (mChain g g' ma mb mc)) := pe_imp hp hq
end

/-! ### items -/
def mkB (d : D) : W := if d.scal = true then .frz d else .brw d
theorem repW_mkB {K : PySem.W.Frag} {F B H : Hp} {d : D} {v : V} (h : Rep K B d v) : RepW K F B H (mkB d) v [] := by
  unfold mkB
  split
  · rename_i hs; exact ⟨h.scal hs, rfl⟩
  · exact ⟨h, rfl⟩
def W.no : W → Bool
  | .frz _ => true
  | .brw _ => true
  | _ => false
theorem no_nil {K : PySem.W.Frag} {F B H : Hp} {w : W} {v : V} {as : List Addr} (hn : w.no = true) (h : RepW K F B H w v as) : as = [] := by
  cases w with
  | frz d => exact h.2
  | brw d => exact h.2
  | _ => cases hn
theorem nos_nil {K : PySem.W.Frag} {F B H : Hp} : ∀ {ws : List W} {vs : List V} {as : List Addr}, ws.all W.no = true → RepWs K F B H ws vs as → as = []
  | [], _, _, _, h => h.2
  | w :: ws, _, _, hn, ⟨v, r, a1, a2, e, ea, h, t⟩ => by
    rw [List.all_cons, Bool.and_eq_true] at hn
    rw [ea, no_nil hn.1 h, nos_nil hn.2 t]
    rfl
/-- the items of a list or a tuple, none of them owned -/
def W.seq : W → Option (List W)
  | .frz (.lst ds) => some (ds.map .frz)
  | .frz (.lok ds) => some (ds.map .frz)
  | .frz (.tup ds) => some (ds.map .frz)
  | .brw (.lst ds) => some (ds.map mkB)
  | .brw (.lok ds) => some (ds.map mkB)
  | .brw (.tup ds) => some (ds.map mkB)
  | .olst ws => if ws.all W.no = true then some ws else none
  | .otup ws => if ws.all W.no = true then some ws else none
  | _ => none
theorem reps_brw {K : PySem.W.Frag} {F B H : Hp} : ∀ {ds : List D} {vs : List V}, Reps K B ds vs → RepWs K F B H (ds.map mkB) vs []
  | [], _, h => ⟨h, rfl⟩
  | _ :: _, _, ⟨v, r, e, h, t⟩ => ⟨v, r, [], [], e, rfl, repW_mkB h, reps_brw t⟩
theorem seq_ok {K : PySem.W.Frag} {F B H : Hp} (sF : Same F H) (sB : Same B H) {w : W} {v : V} {as : List Addr} {ws : List W} (h : RepW K F B H w v as) (e : w.seq = some ws) :
    ∃ a vs, v = .ref a ∧ (SqL K H a vs ∨ SqT K H a vs) ∧ RepWs K F B H ws vs [] := by
  cases w with
  | frz d => cases d with
    | lst ds => cases e; obtain ⟨⟨a, vs, e1, q, r⟩, _⟩ := h; exact ⟨a, vs, e1, .inl (.inl (.inl (sF _ _ q))), reps_frz r⟩
    | lok ds => cases e; obtain ⟨⟨a, vs, e1, q, r⟩, _⟩ := h; exact ⟨a, vs, e1, .inl (sF.seq q), reps_frz r⟩
    | tup ds => cases e; obtain ⟨⟨a, vs, e1, q, r⟩, _⟩ := h; exact ⟨a, vs, e1, .inr (sameSqT sF q), reps_frz r⟩
    | _ => cases e
  | brw d => cases d with
    | lst ds => cases e; obtain ⟨⟨a, vs, e1, q, r⟩, _⟩ := h; exact ⟨a, vs, e1, .inl (.inl (.inl (sB _ _ q))), reps_brw r⟩
    | lok ds => cases e; obtain ⟨⟨a, vs, e1, q, r⟩, _⟩ := h; exact ⟨a, vs, e1, .inl (sB.seq q), reps_brw r⟩
    | tup ds => cases e; obtain ⟨⟨a, vs, e1, q, r⟩, _⟩ := h; exact ⟨a, vs, e1, .inr (sameSqT sB q), reps_brw r⟩
    | _ => cases e
  | olst us =>
    have e' : (if us.all W.no = true then some us else none) = some ws := e
    split at e'
    · rename_i hn
      cases e'
      obtain ⟨a, vs, bs, e1, q, ea, r⟩ := h
      have := nos_nil hn r
      subst this
      exact ⟨a, vs, e1, .inl (.inl (.inl q)), r⟩
    · cases e'
  | otup us =>
    have e' : (if us.all W.no = true then some us else none) = some ws := e
    split at e'
    · rename_i hn
      cases e'
      obtain ⟨a, vs, bs, e1, q, ea, r⟩ := h
      have := nos_nil hn r
      subst this
      exact ⟨a, vs, e1, .inr (.inl (.inl q)), r⟩
    · cases e'
  | _ => cases e
/-- what slot i or a value of its own holds -/
theorem get_ok {K : PySem.W.Frag} {F B H : Hp} {σ : L2.St} {L : Lc} {as asr : List Addr} {r : R} {v : V} {w : W} (s : SRel K F B H σ L as) (h : RepR K F B H σ r v asr) (g : r.get L = some w) : ∃ bs, RepW K F B H w v bs := by
  cases r with
  | val w' => cases g; exact ⟨_, h⟩
  | al i =>
    have g0 : (match L[i]? with
      | some o => o
      | none => none) = some w := g
    cases e : L[i]? with
    | none => rw [e] at g0; cases g0
    | some o =>
      rw [e] at g0
      have g' : o = some w := g0
      subst g'
      obtain ⟨s', pre, a1, post, h1, ⟨v', e1, h2⟩, _⟩ := SRel.at s e
      rw [h.1] at h1
      cases h1
      cases e1
      exact ⟨_, h2⟩
theorem RepWs.len {K : PySem.W.Frag} {F B H : Hp} : ∀ {ws : List W} {vs : List V} {as : List Addr}, RepWs K F B H ws vs as → vs.length = ws.length
  | [], _, _, h => by rw [h.1]; rfl
  | _ :: _, _, _, ⟨v, r, a1, a2, e, ea, h, t⟩ => by rw [e, List.length_cons, List.length_cons, t.len]
theorem RepWs.get {K : PySem.W.Frag} {F B H : Hp} : ∀ {ws : List W} {vs : List V} {i : Nat} {w : W}, RepWs K F B H ws vs [] → ws[i]? = some w → ∃ v, vs[i]? = some v ∧ RepW K F B H w v []
  | [], _, _, _, _, h => by cases h
  | w :: ws, _, 0, _, ⟨v, r, a1, a2, e, ea, h, t⟩, hi => by
    cases hi
    obtain ⟨rfl, rfl⟩ := List.append_eq_nil_iff.mp ea.symm
    exact ⟨v, by rw [e]; rfl, h⟩
  | w :: ws, _, i + 1, _, ⟨v, r, a1, a2, e, ea, h, t⟩, hi => by
    obtain ⟨rfl, rfl⟩ := List.append_eq_nil_iff.mp ea.symm
    obtain ⟨u, h1, h2⟩ := RepWs.get t (show ws[i]? = some _ from hi)
    exact ⟨u, by rw [e]; exact h1, h2⟩
theorem repws_nil {K : PySem.W.Frag} {F B H : Hp} {ws : List W} {vs : List V} : ∀ {w : W} {v : V}, RepWs K F B H (w :: ws) (v :: vs) [] → RepW K F B H w v [] ∧ RepWs K F B H ws vs [] := fun {w v} ⟨v', r, a1, a2, e, ea, h, t⟩ => by
  obtain ⟨rfl, rfl⟩ := List.append_eq_nil_iff.mp ea.symm
  cases e
  exact ⟨h, t⟩
/-- a read that gives an item -/
def mkK (g : W → W → Option W) : R → R → M R := fun x y L => match x.get L, y.get L with
  | some a, some b => match g a b with
    | some w => .ok (.val w) L
    | none => .bad
  | _, _ => .bad
theorem OpOk.kid {K : PySem.W.Frag} {r : R2} {g : W → W → Option W} (hg : ∀ F B H w1 w2 v1 v2 b1 b2 w Q, Same F H → Same B H → RepW K F B H w1 v1 b1 → RepW K F B H w2 v2 b2 → g w1 w2 = some w → (∀ v, RepW K F B H w v [] → Q v H) → r v1 v2 H Q) : OpOk K r (mkK g) :=
  fun Wx σ F B H L as as1 as2 rx ry v1 v2 Q wf s p1 p2 h => by
    unfold mkK at h
    split at h
    · rename_i w1 w2 e1 e2
      split at h
      · rename_i w ew
        obtain ⟨b1, q1⟩ := get_ok s p1 e1
        obtain ⟨b2, q2⟩ := get_ok s p2 e2
        exact hg F B H w1 w2 v1 v2 b1 b2 w Q wf.f wf.b q1 q2 ew fun v hv => h v F H [] as (go_drop2 wf) s hv
      · exact h.elim
    · exact h.elim
def W.str? : W → Option Str
  | .frz (.str z) => some z
  | _ => none
def W.int? : W → Option Int
  | .frz (.int i) => some i
  | _ => none
theorem str_of {w : W} {z : Str} (h : w.str? = some z) : w = .frz (.str z) := by
  unfold W.str? at h
  split at h
  · cases h; rfl
  · cases h
theorem int_of {w : W} {z : Int} (h : w.int? = some z) : w = .frz (.int z) := by
  unfold W.int? at h
  split at h
  · cases h; rfl
  · cases h
def ixW (w u : W) : Option W := match u.int? with
  | some i => match w.str? with
    | some z => if z.length ≤ sizeLine then (atI z.cps.toList i).map fun c => .frz (.str ⟨#[c]⟩) else none
    | none => w.seq.bind fun ws => atI ws i
  | none => none
theorem atI_rel {K : PySem.W.Frag} {F B H : Hp} {ws : List W} {vs : List V} {i : Int} {w : W} (h : RepWs K F B H ws vs []) (e : atI ws i = some w) : ∃ v, atI vs i = some v ∧ RepW K F B H w v [] := by
  unfold atI at e ⊢
  rw [h.len]
  cases q : ixN ws.length i with
  | none => rw [q] at e; cases e
  | some j =>
    rw [q] at e
    exact h.get e
theorem bind_some {α β : Type} {x : Option α} {f : α → Option β} {y : β} (h : x.bind f = some y) : ∃ z, x = some z ∧ f z = some y := by
  cases x with
  | none => cases h
  | some z => exact ⟨z, rfl, h⟩
theorem ok_ix {K : PySem.W.Frag} : OpOk K (rIx K) (mkK ixW) := .kid fun F B H w1 w2 v1 v2 b1 b2 w Q sF sB r1 r2 e q => by
  unfold ixW at e
  split at e
  · rename_i i ei
    have := int_of ei
    subst this
    have e2 : v2 = .int i := r2.1
    split at e
    · rename_i z ez
      have := str_of ez
      subst this
      split at e
      · rename_i hz
        obtain ⟨c, hc, rfl⟩ := map_some e
        exact .inr (.inr ⟨z, i, c, r1.1, e2, hz, hc, q _ ⟨rfl, rfl⟩⟩)
      · cases e
    · obtain ⟨ws, es, ea⟩ := bind_some e
      obtain ⟨a, vs, e1, hq, rs⟩ := seq_ok sF sB r1 es
      obtain ⟨v, hv, rv⟩ := atI_rel rs ea
      rcases hq with hq | hq
      · exact .inl ⟨a, vs, i, v, e1, e2, hq, hv, q v rv⟩
      · exact .inr (.inl ⟨a, vs, i, v, e1, e2, hq, hv, q v rv⟩)
  · cases e
section
variable {X : Cx} {Wx : WX} {a b : Expr} {ma mb : M R} {pos : Pos}
theorem be_ix (ha : PE X a (bvE X.K Wx ma)) (hb : PE X b (bvE X.K Wx mb)) (hs : PlainIx b) : PE X (.Subscript a b pos) (bvE X.K Wx (mOp (mkK ixW) ma mb)) := pe_imp (pe_ix ix_seq ha hb hs) (op2 ok_ix)
end
end BV

namespace BV
open PySem PySem.Spec PyProof.Rows L2

/-! ### defs -/
inductive FRes where
  | ok (w : W) (os : List W) | exc (x : Ex) (os : List W) | bad
abbrev Fn := List W → FRes
/-- what the caller gets back of its own objects (fl: which parameters) -/
def RepOs (K : PySem.W.Frag) (F B H : Hp) : List Bool → List V → List W → List Addr → Prop
  | true :: fl, v :: vs, os, as => ∃ o r a1 a2, os = o :: r ∧ as = a1 ++ a2 ∧ RepW K F B H o v a1 ∧ RepOs K F B H fl vs r a2
  | false :: fl, _ :: vs, os, as => RepOs K F B H fl vs os as
  | _, _, os, as => os = [] ∧ as = []
def outs : List Bool → Lc → Option (List W)
  | [], _ => some []
  | true :: fl, some w :: L => (outs fl L).map (w :: ·)
  | false :: fl, _ :: L => outs fl L
  | _, _ => none
mutual
/-- nothing borrowed within -/
def W.nb : W → Bool
  | .frz _ => true
  | .brw _ => false
  | .olst ws => nbs ws
  | .otup ws => nbs ws
  | .odct kvs => nbK kvs
  | .odcT kvs => nbT kvs
  | .oobj _ fs => nbF fs
def nbs : List W → Bool
  | [] => true
  | w :: ws => w.nb && nbs ws
def nbK : List (Key × W) → Bool
  | [] => true
  | (_, w) :: ws => w.nb && nbK ws
def nbT : List (List Key × W) → Bool
  | [] => true
  | (_, w) :: ws => w.nb && nbT ws
def nbF : List (Str × W) → Bool
  | [] => true
  | (_, w) :: ws => w.nb && nbF ws
end
/-- the reading of a def's body, as a function -/
def runF (n : Nat) (fl : List Bool) (m : MS) : Fn := fun ws =>
  match m (ws.map some ++ List.replicate (n - ws.length) none) with
  | .ret w L => match outs fl L with
    | some os => .ok w os
    | none => .bad
  | .next L => match outs fl L with
    | some os => .ok (.frz .non) os
    | none => .bad
  | .exc x L => match outs fl L with
    | some os => .exc x os
    | none => .bad
  | _ => .bad
def spBV (K : PySem.W.Frag) (fl : List Bool) (f : Fn) : Sp := fun vs H Q E => vs.length = fl.length ∧ ∃ F B ws as, WF F B H as ∧ RepWs K F B H ws vs as ∧ match f ws with
  | .ok w os => ∀ v F' H' asw as', Go F B H as F' H' (asw ++ as') → RepW K F' B H' w v asw → RepOs K F' B H' fl vs os as' → Q v H'
  | .exc x os => ∀ cls d F' H' as', Go F B H as F' H' as' → RepOs K F' B H' fl vs os as' → ExRel K F' x cls d → E cls d H'
  | .bad => False

section
variable {K : PySem.W.Frag} {F B H : Hp}
theorem srel_start : ∀ {ws : List W} {vs : List V} {as : List Addr} (n : Nat), RepWs K F B H ws vs as → SRel K F B H (vs.map some ++ List.replicate n none) (ws.map some ++ List.replicate n none) as
  | [], _, _, n, ⟨e1, e2⟩ => by
    subst e1 e2
    induction n with
    | zero => exact ⟨rfl, rfl⟩
    | succ n ih => exact ⟨none, _, [], [], rfl, rfl, rfl, ih⟩
  | w :: ws, _, _, n, ⟨v, r, a1, a2, e, ea, h, t⟩ => by
    subst e ea
    exact ⟨some v, _, a1, a2, rfl, rfl, ⟨v, rfl, h⟩, srel_start n t⟩
/-- the kept parameters' objects -/
theorem outs_ok : ∀ {fl : List Bool} {vs : List V} {σ : L2.St} {L : Lc} {as : List Addr} {os : List W}, vs.length = fl.length → SRel K F B H σ L as → (∀ j : Nat, fl[j]? = some true → σ[j]? = (vs[j]?).map some) → outs fl L = some os →
    ∃ as', (∀ p, List.count p as' ≤ List.count p as) ∧ RepOs K F B H fl vs os as'
  | [], [], _, _, _, os, _, _, _, e => by
    have e' : some ([] : List W) = some os := e
    cases e'
    exact ⟨[], fun p => by rw [List.count_nil]; omega, rfl, rfl⟩
  | [], _ :: _, _, _, _, _, h, _, _, _ => by cases h
  | _ :: _, [], _, _, _, _, h, _, _, _ => by cases h
  | true :: fl, v :: vs, σ, [], as, os, hl, s, hp, e => by cases e
  | true :: fl, v :: vs, σ, none :: L, as, os, hl, s, hp, e => by cases e
  | true :: fl, v :: vs, σ, some w :: L, as, os, hl, ⟨s0, r, a1, a2, e1, ea, ⟨v', ev, h⟩, t⟩, hp, e => by
    subst e1 ea
    obtain ⟨os', eo, rfl⟩ := map_some (f := (w :: ·)) e
    have h0 := hp 0 rfl
    have h0' : s0 = some v := Option.some.inj h0
    rw [h0'] at ev
    cases ev
    obtain ⟨as', k, q⟩ := outs_ok (Nat.succ.inj hl) t (fun j hj => hp (j + 1) hj) eo
    exact ⟨a1 ++ as', fun p => by have := k p; simp only [List.count_append]; omega, w, os', a1, as', rfl, rfl, h, q⟩
  | false :: fl, v :: vs, σ, [], as, os, hl, s, hp, e => by cases e
  | false :: fl, v :: vs, σ, o :: L, as, os, hl, ⟨s0, r, a1, a2, e1, ea, h, t⟩, hp, e => by
    subst e1 ea
    obtain ⟨as', k, q⟩ := outs_ok (os := os) (Nat.succ.inj hl) t (fun j hj => hp (j + 1) hj) e
    exact ⟨as', fun p => by have := k p; simp only [List.count_append]; omega, q⟩
end
/-- what a rule wants of the body that it stands in -/
structure Bd (X : Cx) (Wx : WX) (k : Nat) : Prop where
  calm : X.calm = true
  nd : X.N.Nodup
  tk : Takes X Wx
  hp : PassesOwn (model X.prog X.w) X.A X.env X.xe
  hr : Room k X.A
section
variable {P : Program} {w : World} {K : PySem.W.Frag} {mg : Str → Option Value} {base : Heap}
theorem fn_bv {x qual : Str} {st : Stmt} {f : Addr} {fd : FuncData} {N ps : List Str} {k : Nat} {fl : List Bool} {m : MS} (FF : Fun K x qual st f fd) (S : FnScope N ps (defScope st)) (hfl : fl.length = ps.length)
    (hbody : ∀ (cdv : Value) (A : Around) (outer : List Env) (s : Shared) (H : Hp) (E : XK), Bd (cxOf (L2.CX P w) P w K mg base N qual (defScope st) f cdv A outer s H E) (fun cls d _ H => E cls d H) k →
      PSs (cxOf (L2.CX P w) P w K mg base N qual (defScope st) f cdv A outer s H E) (defBody st) (bvS K (fun cls d _ H => E cls d H) fl m)) :
    FnOk P w K mg base (L2.CX P w) (k + 1) f fd ps (spBV K fl (runF N.length fl m)) := by
  refine FF.okX S (fun vs H Q E h => by rw [h.1, hfl]) fun cdv A outer s H vs Q E hr h => ?_
  refine ⟨_, hbody cdv A outer s H E ⟨rfl, S.nd, takes_of rfl rfl rfl rfl, passes_of rfl, hr⟩, ?_⟩
  obtain ⟨hl, F, B, ws, as, wf, rw', h⟩ := h
  have s0 := srel_start (N.length - vs.length) rw'
  have hle : vs.length = ws.length := rw'.len
  refine ⟨F, B, ws.map some ++ List.replicate (N.length - ws.length) none, as, wf, by rw [← hle]; exact s0, ?_⟩
  have pin0 : ∀ {σ' : L2.St}, Pin fl (L2.start N vs) σ' → ∀ j : Nat, fl[j]? = some true → σ'[j]? = (vs[j]?).map some := fun {σ'} p j hj => by
    rw [p.2 j hj]
    have hj2 : j < vs.length := by
      rw [hl]
      exact (List.getElem?_eq_some_iff.mp hj).1
    unfold L2.start
    rw [List.getElem?_append_left (by rw [List.length_map]; exact hj2), List.getElem?_map]
  unfold runF at h
  cases e : m (ws.map some ++ List.replicate (N.length - ws.length) none) with
  | ret w L =>
    rw [e] at h
    dsimp only at h
    cases eo : outs fl L with
    | none => rw [eo] at h; exact h.elim
    | some os =>
      rw [eo] at h
      intro v σ' F' H' asw as' g s' p r'
      obtain ⟨as2, k2, q2⟩ := outs_ok hl s' (pin0 p) eo
      exact h v F' H' asw as2 (g.sub fun p => by have := k2 p; simp only [List.count_append]; omega) r' q2
  | next L =>
    rw [e] at h
    dsimp only at h
    cases eo : outs fl L with
    | none => rw [eo] at h; exact h.elim
    | some os =>
      rw [eo] at h
      intro σ' F' H' as' g s' p
      obtain ⟨as2, k2, q2⟩ := outs_ok hl s' (pin0 p) eo
      exact h .non F' H' [] as2 (g.sub fun p => by have := k2 p; simp only [List.nil_append]; omega) ⟨rfl, rfl⟩ q2
  | exc x L =>
    rw [e] at h
    dsimp only at h
    cases eo : outs fl L with
    | none => rw [eo] at h; exact h.elim
    | some os =>
      rw [eo] at h
      intro cls d σ' F' H' as' g s' p r'
      obtain ⟨as2, k2, q2⟩ := outs_ok hl s' (pin0 p) eo
      exact h cls d F' H' as2 (g.sub k2) q2 r'
  | brk L => rw [e] at h; exact h.elim
  | cnt L => rw [e] at h; exact h.elim
  | bad => rw [e] at h; exact h.elim
end

/-! ### a call's arguments -/
def prep : List Bool → List R → M (List W × List Nat)
  | [], [], L => .ok ([], []) L
  | true :: fl, .al i :: rs, L => match L[i]? with
    | some (some w) => (prep fl rs (L.set i none)).bind fun p L1 => .ok (w :: p.1, i :: p.2) L1
    | _ => .bad
  | true :: fl, .val w :: rs, L => (prep fl rs L).bind fun p L1 => .ok (w :: p.1, L.length :: p.2) L1
  | false :: fl, r :: rs, L => (toF r L).bind fun d L1 => (prep fl rs L1).bind fun p L2 => .ok (.frz d :: p.1, p.2) L2
  | _, _, _ => .bad
def back : List Nat → List W → Lc → Option Lc
  | [], [], L => some L
  | i :: is, w :: ws, L => back is ws (L.set i (some w))
  | _, _, _ => none
/-- the values of the slots that were lent -/
def IsRel (σ : L2.St) : List Bool → List V → List Nat → Prop
  | true :: fl, v :: vs, is => ∃ i r, is = i :: r ∧ (σ[i]? = some (some v) ∨ σ.length ≤ i) ∧ IsRel σ fl vs r
  | false :: fl, _ :: vs, is => IsRel σ fl vs is
  | _, _, is => is = []
theorem toF_nexc {r : R} {L L' : Lc} {x : Ex} (e : toF r L = .exc x L') : False := by
  unfold toF at e
  split at e <;> split at e
  · cases e
  · cases e
  · split at e <;> cases e
  · cases e
theorem bind_ok {α β : Type} {r : Res α} {f : α → Lc → Res β} {b : β} {L : Lc} (h : r.bind f = .ok b L) : ∃ a L1, r = .ok a L1 ∧ f a L1 = .ok b L := by
  cases r with
  | ok a L1 => exact ⟨a, L1, rfl, h⟩
  | exc x L1 => cases h
  | bad => cases h
theorem bind_exc {α β : Type} {r : Res α} {f : α → Lc → Res β} {x : Ex} {L : Lc} (h : r.bind f = .exc x L) : r = .exc x L ∨ ∃ a L1, r = .ok a L1 ∧ f a L1 = .exc x L := by
  cases r with
  | ok a L1 => exact .inr ⟨a, L1, rfl, h⟩
  | exc y L1 => cases h; exact .inl rfl
  | bad => cases h
theorem prep_nexc : ∀ {fl : List Bool} {rs : List R} {L L' : Lc} {x : Ex}, prep fl rs L = .exc x L' → False
  | [], [], _, _, _, h => by cases h
  | [], _ :: _, _, _, _, h => by cases h
  | true :: _, [], _, _, _, h => by cases h
  | false :: _, [], _, _, _, h => by cases h
  | true :: fl, .val w :: rs, L, L', x, h => by
    unfold prep at h
    rcases bind_exc h with e | ⟨p, L1, e, e2⟩
    · exact prep_nexc e
    · cases e2
  | true :: fl, .al i :: rs, L, L', x, h => by
    unfold prep at h
    split at h
    · rcases bind_exc h with e | ⟨p, L1, e, e2⟩
      · exact prep_nexc e
      · cases e2
    · cases h
  | false :: fl, r :: rs, L, L', x, h => by
    unfold prep at h
    rcases bind_exc h with e | ⟨d, L1, e, e2⟩
    · exact toF_nexc e
    · rcases bind_exc e2 with e | ⟨p, L2, e, e3⟩
      · exact prep_nexc e
      · cases e3
section
variable {K : PySem.W.Frag} {σ : L2.St}
theorem prep_ok : ∀ {fl : List Bool} {rs : List R} {F B H : Hp} {as asr : List Addr} {L L' : Lc} {ws : List W} {is : List Nat} {vs : List V}, WF F B H (asr ++ as) → SRel K F B H σ L as → RepRs K F B H σ rs vs asr → prep fl rs L = .ok (ws, is) L' →
    ∃ F' asw as', Go F B H (asr ++ as) F' H (asw ++ as') ∧ SRel K F' B H σ L' as' ∧ RepWs K F' B H ws vs asw ∧ vs.length = fl.length ∧ IsRel σ fl vs is
  | [], [], F, B, H, as, asr, L, L', ws, is, vs, wf, s, ⟨e1, e2⟩, e => by
    cases e
    subst e1 e2
    exact ⟨F, [], as, Go.refl wf, s, ⟨rfl, rfl⟩, rfl, rfl⟩
  | [], _ :: _, _, _, _, _, _, _, _, _, _, _, _, _, _, e => by cases e
  | true :: _, [], _, _, _, _, _, _, _, _, _, _, _, _, _, e => by cases e
  | false :: _, [], _, _, _, _, _, _, _, _, _, _, _, _, _, e => by cases e
  | true :: fl, .val w :: rs, F, B, H, as, asr, L, L', ws, is, vs, wf, s, ⟨v, t, a1, a2, e1, e2, h, hr⟩, e => by
    subst e1 e2
    unfold prep at e
    obtain ⟨p, L1, ep, eq⟩ := bind_ok e
    cases eq
    have wf1 : WF F B H (a1 ++ (a2 ++ as)) := wf.sub fun p => by simp only [List.count_append]; omega
    obtain ⟨F', asw, as', g, s', rw', hl, ir⟩ := prep_ok (wf1.sub (le_r _ _)) s hr ep
    have g' := g.frame wf1
    have kb := g.kept wf1
    have h' : RepW K F B H w v a1 := h
    refine ⟨F', a1 ++ asw, as', ((g'.sup fun p => by simp only [List.count_append]; omega).sub fun p => by simp only [List.count_append]; omega), s', ⟨v, t, a1, asw, rfl, rfl, RepW.frame g.ext (Same.refl _) kb h', rw'⟩, by rw [List.length_cons, List.length_cons, hl], L.length, p.2, rfl, .inr (Nat.le_of_eq s.len), ir⟩
  | true :: fl, .al i :: rs, F, B, H, as, asr, L, L', ws, is, vs, wf, s, ⟨v, t, a1, a2, e1, e2, ⟨hv, h0⟩, hr⟩, e => by
    subst e1 e2 h0
    unfold prep at e
    split at e
    · rename_i w ew
      obtain ⟨p, L1, ep, eq⟩ := bind_ok e
      cases eq
      obtain ⟨s0, pre, b1, post, q1, ⟨v', ev, q2⟩, ea, k⟩ := SRel.at s ew
      subst ev ea
      rw [hv] at q1
      cases q1
      have s1 := k F B H (some v) none [] (Same.refl _) (Same.refl _) (fun _ _ _ z => z) rfl
      rw [set_same hv] at s1
      have wf1 : WF F B H (b1 ++ (a2 ++ (pre ++ ([] ++ post)))) := wf.sub fun p => by simp only [List.count_append, List.count_nil]; omega
      obtain ⟨F', asw, as', g, s', rw', hl, ir⟩ := prep_ok (wf1.sub (le_r _ _)) s1 hr ep
      have g' := g.frame wf1
      have kb := g.kept wf1
      refine ⟨F', b1 ++ asw, as', ((g'.sup fun p => by simp only [List.count_append, List.count_nil]; omega).sub fun p => by simp only [List.count_append]; omega), s', ⟨v, t, b1, asw, rfl, rfl, RepW.frame g.ext (Same.refl _) kb q2, rw'⟩, by rw [List.length_cons, List.length_cons, hl], i, p.2, rfl, .inl hv, ir⟩
    · cases e
  | false :: fl, r :: rs, F, B, H, as, asr, L, L', ws, is, vs, wf, s, ⟨v, t, a1, a2, e1, e2, h, hr⟩, e => by
    subst e1 e2
    unfold prep at e
    obtain ⟨d, L1, ed, e⟩ := bind_ok e
    obtain ⟨p, L2, ep, eq⟩ := bind_ok e
    cases eq
    have wf1 : WF F B H (a1 ++ as) := wf.sub fun p => by simp only [List.count_append]; omega
    obtain ⟨F1, as1, g1, s1, q1⟩ := toF_ok wf1 s h ed
    have wf2 : WF F B H (a2 ++ (a1 ++ as)) := wf.sub fun p => by simp only [List.count_append]; omega
    have g1' := g1.frame wf2
    have k1 := g1.kept wf2
    obtain ⟨F2, asw, as2, g2, s2, rw', hl, ir⟩ := prep_ok g1'.wf s1 (hr.frame g1.ext k1) ep
    exact ⟨F2, asw, as2, (g1'.sup fun p => by simp only [List.count_append]; omega).trans g2, s2, ⟨v, t, [], asw, rfl, rfl, ⟨q1.mono g2.ext, rfl⟩, rw'⟩, by rw [List.length_cons, List.length_cons, hl], ir⟩
theorem back_ok {F B H : Hp} : ∀ {fl : List Bool} {vs : List V} {is : List Nat} {os : List W} {L L' : Lc} {as aso : List Addr}, SRel K F B H σ L as → IsRel σ fl vs is → RepOs K F B H fl vs os aso → back is os L = some L' →
    ∃ as', (∀ p, List.count p as' ≤ List.count p (aso ++ as)) ∧ SRel K F B H σ L' as'
  | [], vs, is, os, L, L', as, aso, s, ir, ⟨eo, ea⟩, e => by
    have ir' : is = [] := by cases vs <;> exact ir
    subst ir' eo ea
    cases e
    exact ⟨as, fun p => Nat.le_refl _, s⟩
  | true :: fl, [], is, os, L, L', as, aso, s, ir, ⟨eo, ea⟩, e => by
    have ir' : is = [] := ir
    subst ir' eo ea
    cases e
    exact ⟨as, fun p => Nat.le_refl _, s⟩
  | false :: fl, [], is, os, L, L', as, aso, s, ir, ⟨eo, ea⟩, e => by
    have ir' : is = [] := ir
    subst ir' eo ea
    cases e
    exact ⟨as, fun p => Nat.le_refl _, s⟩
  | false :: fl, v :: vs, is, os, L, L', as, aso, s, ir, ro, e => back_ok (fl := fl) (vs := vs) s ir ro e
  | true :: fl, v :: vs, is, os, L, L', as, aso, s, ⟨i, r, ei, hv, ir⟩, ⟨o, r', a1, a2, eo, ea, ho, ro⟩, e => by
    subst ei eo ea
    have e' : back r r' (L.set i (some o)) = some L' := e
    rcases hv with hv | hge
    case inr =>
      rw [List.set_eq_of_length_le (show L.length ≤ i by rw [← s.len]; exact hge)] at e'
      obtain ⟨as', k', s'⟩ := back_ok s ir ro e'
      exact ⟨as', fun p => by have := k' p; simp only [List.count_append] at this ⊢; omega, s'⟩
    have hi : i < L.length := by rw [← s.len]; exact (List.getElem?_eq_some_iff.mp hv).1
    obtain ⟨s0, pre, b1, post, q1, q2, ea2, k⟩ := SRel.at s (List.getElem?_eq_getElem hi)
    subst ea2
    have s1 := k F B H (some v) (some o) a1 (Same.refl _) (Same.refl _) (fun _ _ _ z => z) ⟨v, rfl, ho⟩
    rw [set_same hv] at s1
    obtain ⟨as', k', s'⟩ := back_ok s1 ir ro e'
    exact ⟨as', fun p => by have := k' p; simp only [List.count_append] at this ⊢; omega, s'⟩
end
/-- a call of a def by its reading -/
def called (fn : Fn) (ws : List W) (is : List Nat) (L : Lc) : Res R := match fn ws with
  | .ok w os => match back is os L with
    | some L1 => .ok (.val w) L1
    | none => .bad
  | .exc x os => match back is os L with
    | some L1 => .exc x L1
    | none => .bad
  | .bad => .bad
def callR (fl : List Bool) (fn : Fn) (rs : List R) (L : Lc) : Res R := (prep fl rs L).bind fun p L1 => called fn p.1 p.2 L1
def mCall (fl : List Bool) (fn : Fn) (m : M (List R)) : M R := fun L => (m L).bind fun rs L1 => callR fl fn rs L1
/-- the promise at a call -/
theorem call_sp {K : PySem.W.Frag} {Wx : WX} {fl : List Bool} {fn : Fn} {F B H : Hp} {as asr : List Addr} {σ : L2.St} {L : Lc} {rs : List R} {vs : List V} {Q : VK} (wf : WF F B H (asr ++ as)) (s : SRel K F B H σ L as) (rr : RepRs K F B H σ rs vs asr)
    (h : End K Wx F B H (asr ++ as) σ (okE K F B H (asr ++ as) σ Q) (callR fl fn rs L)) : spBV K fl fn vs H Q (fun cls d H' => Wx cls d σ H') := by
  unfold callR at h
  cases ep : prep fl rs L with
  | exc x L1 => exact (prep_nexc ep).elim
  | bad => rw [ep] at h; exact h.elim
  | ok p L1 =>
    rw [ep] at h
    have h1 : End K Wx F B H (asr ++ as) σ (okE K F B H (asr ++ as) σ Q) (called fn p.1 p.2 L1) := h
    obtain ⟨F1, asw, as1, g1, s1, rw1, hl, ir⟩ := prep_ok wf s rr ep
    have wf1 : WF F1 B H (as1 ++ asw) := g1.wf.sub fun p => by simp only [List.count_append]; omega
    refine ⟨hl, F1, B, p.1, asw, wf1.sub (le_r _ _), rw1, ?_⟩
    unfold called at h1
    cases ef : fn p.1 with
    | bad => rw [ef] at h1; exact h1.elim
    | ok w os =>
      rw [ef] at h1
      dsimp only at h1 ⊢
      intro v F' H' asv aso g2 rv ro
      cases eb : back p.2 os L1 with
      | none => rw [eb] at h1; exact h1.elim
      | some L2 =>
        rw [eb] at h1
        have g3 := g2.frame wf1
        have k3 := g2.kept wf1
        obtain ⟨as2, k2, s2⟩ := back_ok (SRel.frame g2.ext (Same.refl _) k3 s1) ir ro eb
        refine h1 v F' H' asv as2 (g1.trans ((g3.sup fun p => by simp only [List.count_append]; omega).sub fun p => ?_)) s2 rv
        have := k2 p
        simp only [List.count_append] at this ⊢
        omega
    | exc x os =>
      rw [ef] at h1
      dsimp only at h1 ⊢
      intro cls d F' H' aso g2 ro rx
      cases eb : back p.2 os L1 with
      | none => rw [eb] at h1; exact h1.elim
      | some L2 =>
        rw [eb] at h1
        have g3 := g2.frame wf1
        have k3 := g2.kept wf1
        obtain ⟨as2, k2, s2⟩ := back_ok (SRel.frame g2.ext (Same.refl _) k3 s1) ir ro eb
        refine h1 cls d F' H' as2 (g1.trans ((g3.sup fun p => by simp only [List.count_append]; omega).sub fun p => ?_)) s2 rx
        have := k2 p
        simp only [List.count_append] at this ⊢
        omega
section
variable {X : Cx} {Wx : WX} {k j : Nat} {f : Addr} {fd : FuncData} {ps : List Str} {fl : List Bool} {fn : Fn} {x : Str} {p pos : Pos} {e : Expr} {es : List Expr} {mr : M (List R)}
/-- f(e, ..), f a def of the text -/
theorem be_call (c : Bd X Wx j) (FO : FnOk X.prog X.w X.K X.mg X.base (L2.CX X.prog X.w) k f fd ps (spBV X.K fl fn)) (hk : k ≤ j) (hm : X.mg x = some (.ref f)) (hkp : PySem.W.keepIn X.K (.ref f) = true) (hb : Binds X.K fd ps [])
    (hg : Gl X x) (ha : PA X (e :: es) (bvA X.K Wx mr)) (hdb : (x == ("__debug__" : Str)) = false := by decide) (he : starEach (e :: es) X.env = (false, eval e X.env) :: starEach es X.env := by rfl) (hpl : (backTo pos (starEach es X.env)).any (·.1) = false := by rfl) :
    PE X (.Call (.Name x p) (e :: es) [] pos) (bvE X.K Wx (mCall fl fn mr)) := by
  refine pe_imp (pe_callSD FO (c.hr.mono hk) hg hm hkp hb .nil (fun σ => passAt c.tk σ) ha hdb he hpl) fun σ H Q ⟨F, B, L, as, wf, s, h⟩ => ?_
  refine ⟨F, B, L, as, wf, s, (End.bind h).imp fun rs L1 h1 vs F1 H1 asr as1 g1 s1 r1 => ?_⟩
  show spBV X.K fl fn (vs ++ []) H1 Q _
  rw [List.append_nil]
  exact call_sp g1.wf s1 r1 (h1.behind g1 fun r L3 h3 v F' H' asr' as' g' s' r' => h3 v F' H' asr' as' (g1.trans g') s' r')
/-- f() -/
theorem be_call0 (c : Bd X Wx j) (FO : FnOk X.prog X.w X.K X.mg X.base (L2.CX X.prog X.w) k f fd [] (spBV X.K [] fn)) (hk : k ≤ j) (hm : X.mg x = some (.ref f)) (hkp : PySem.W.keepIn X.K (.ref f) = true) (hb : Binds X.K fd [] []) (hg : Gl X x) (hdb : (x == ("__debug__" : Str)) = false := by decide) :
    PE X (.Call (.Name x p) [] [] pos) (bvE X.K Wx (mCall [] fn mNil)) := by
  refine ⟨fun pins s σ H Q I ⟨F, B, L, as, wf, sr, h⟩ => ?_⟩
  refine wpAny_Call_Name_kw (ld_glob I hg hm ?_ hdb)
  refine PySem.W.callWith_K0 I.kIn hkp (run_fnSD (us := []) (vs := []) FO (c.hr.mono hk) hb .nil (passAt c.tk σ) I .nil ?_)
  exact call_sp (asr := []) (rs := []) wf sr ⟨rfl, rfl⟩ h
end
end BV

namespace BV
open PySem PySem.Spec PyProof.Rows L2

/-! ### targets -/
abbrev MG := R → MS
section
variable (K : PySem.W.Frag) (Wx : WX) (fl : List Bool)
def EndG (F B H : Hp) (as : List Addr) (σ : L2.St) (Q : L2.St → Hp → Prop) : SRes → Prop
  | .next L => okN K fl F B H as σ Q L
  | _ => False
def bvG (g : MG) : TG := fun v σ H Q => ∃ F B L as asr r, WF F B H (asr ++ as) ∧ SRel K F B H σ L as ∧ RepR K F B H σ r v asr ∧ EndG K fl F B H (asr ++ as) σ Q (g r L)
def bvGs (g : List W → MS) : TGs := fun vs σ H Q => ∃ F B L as ws, WF F B H as ∧ SRel K F B H σ L as ∧ RepWs K F B H ws vs [] ∧ EndG K fl F B H as σ Q (g ws L)
end
section
variable {K : PySem.W.Frag} {fl : List Bool} {F B H F1 H1 : Hp} {as as1 : List Addr} {σ σ1 : L2.St} {Q : L2.St → Hp → Prop}
theorem EndG.behind {r : SRes} (g : Go F B H as F1 H1 as1) (p : Pin fl σ σ1) (h : EndG K fl F B H as σ Q r) : EndG K fl F1 B H1 as1 σ1 Q r := by
  cases r with
  | next L => exact okN.behind g p h
  | _ => exact h.elim
theorem EndG.toS {Wx : WX} {T : Ends} {r : SRes} (h : EndG K fl F B H as σ T.nx r) : EndS K Wx fl F B H as σ T r := by
  cases r with
  | next L => exact h
  | _ => exact h.elim
end
def gNm (fl : List Bool) (i : Nat) : MG := fun r L => asgn fl i r L
def gsNil : List W → MS := fun ws L => match ws with
  | [] => .next L
  | _ => .bad
def gsCons (g : MG) (gs : List W → MS) : List W → MS := fun ws L => match ws with
  | [] => .bad
  | w :: r => match g (.val w) L with
    | .next L1 => gs r L1
    | _ => .bad
/-- a tuple or a list of that length, taken apart -/
def gTp (n : Nat) (gs : List W → MS) : MG := fun r L => match r.get L with
  | some w => match w.seq with
    | some ws => if ws.length = n then gs ws L else .bad
    | none => .bad
  | none => .bad
section
variable {X : Cx} {fl : List Bool} {i : Nat} {x : Str} {pos : Pos}
theorem pg_imp {e : Expr} {t u : TG} (h : PG X e t) (q : ∀ v σ H Q, u v σ H Q → t v σ H Q) : PG X e u := ⟨fun pins s σ H v u' Q I r w => h.run pins s σ H v u' Q I r (q _ _ _ _ w)⟩
theorem bg_name (hN : X.N.Nodup) (hi : X.N[i]? = some x) (hx : L2.Loc X.env.scope x) (hf : X.fn x = true ∨ X.env.scope.names.lookup x = some .local := by first | exact .inl rfl | exact .inr rfl | assumption) : PG X (.Name x pos) (bvG X.K fl (gNm fl i)) :=
  pg_imp (pg_name hN hi hx hf) fun v σ H Q ⟨F, B, L, as, asr, r, wf, s, rr, h⟩ => set_ok (Wx := fun _ _ _ _ => False) (T := { nx := Q, rt := fun _ _ => False }) wf s rr h.toS
theorem bgs_nil : PGs X [] (bvGs X.K fl gsNil) := by
  refine ⟨fun pins s σ H vs us Q I r ⟨F, B, L, as, ws, wf, sr, rw', h⟩ => (pgs_nil (X := X)).run pins s σ H vs us Q I r ?_⟩
  unfold gsNil at h
  cases ws with
  | nil => exact ⟨rw'.1, h σ F H as (Go.refl wf) sr (Pin.refl _ _)⟩
  | cons w ws => exact h.elim
theorem gs_rel {g : MG} {gs : List W → MS} : ∀ vs σ H Q, bvGs X.K fl (gsCons g gs) vs σ H Q → gCons (bvG X.K fl g) (bvGs X.K fl gs) vs σ H Q := fun vs σ H Q ⟨F, B, L, as, ws, wf, sr, rw', h⟩ => by
  unfold gsCons at h
  cases ws with
  | nil => exact h.elim
  | cons w ws =>
    obtain ⟨v, r, a1, a2, e, ea, h1, t⟩ := rw'
    obtain ⟨rfl, rfl⟩ := List.append_eq_nil_iff.mp ea.symm
    subst e
    refine ⟨v, r, rfl, F, B, L, as, [], .val w, wf, sr, h1, ?_⟩
    dsimp only at h
    cases eg : g (.val w) L with
    | next L1 =>
      rw [eg] at h
      intro σ' F' H' as' g' s' p'
      exact ⟨F', B, L1, as', ws, g'.wf, s', RepWs.frame g'.ext (Same.refl _) (fun p i => (in_nil i).elim) t, EndG.behind g' p' h⟩
    | _ => rw [eg] at h; exact h.elim
theorem bg_tup {es : List Expr} {kk n : Nat} {gs : List W → MS} (hc : X.calm = true) (h : PGs X es (bvGs X.K fl gs)) (hn : (assignEach es X.env).length = n := by rfl) (hst : (assignEach es X.env).findIdx? (·.1) = none := by rfl) : PG X (.Tuple es kk pos) (bvG X.K fl (gTp n gs)) := by
  refine ⟨fun pins s σ H v u Q I r ⟨F, B, L, as, asr, rx, wf, sr, rr, hh⟩ => ?_⟩
  unfold gTp at hh
  split at hh
  · rename_i w ew
    split at hh
    · rename_i ws es'
      by_cases hl : ws.length = n
      · rw [if_pos hl] at hh
        obtain ⟨bs, rw'⟩ := get_ok sr rr ew
        obtain ⟨a, vs, ev, hq, rs⟩ := seq_ok wf.f wf.b rw' es'
        have z : bvGs X.K fl gs vs σ H Q := ⟨F, B, L, as, ws, wf.sub (le_r _ _), sr, rs, EndG.behind ((Go.refl wf).sub (le_r _ _)) (Pin.refl _ _) hh⟩
        rcases hq with hq | hq
        · exact (pg_lst hc h hn hst).run pins s σ H v u Q I r ⟨a, vs, ev, hq, by rw [rs.len, hl], z⟩
        · exact (pg_tup hc h hn hst).run pins s σ H v u Q I r ⟨a, vs, ev, hq, by rw [rs.len, hl], z⟩
      · rw [if_neg hl] at hh; exact hh.elim
    · exact hh.elim
  · exact hh.elim
def sAsg (g : MG) (m : M R) : MS := fun L => (m L).thenS fun r L1 => g r L1
theorem bs_asg {tg e : Expr} {m : M R} {g : MG} {Wx : WX} (he : PE X e (bvE X.K Wx m)) (hg : PG X tg (bvG X.K fl g)) (hG : ∀ r L, (∃ L', g r L = .next L') ∨ g r L = .bad) (hs : swapsWithSole [tg] e pos.line X.env = pure false := by rfl) (hw : swappedStores [tg] e X.env = pure none := by rfl) (h1 : (assignEach [tg] X.env).map (·.2) = [assign tg X.env] := by rfl) :
    PS X (.Assign [tg] e pos) (bvS X.K Wx fl (sAsg g m)) := by
  refine ps_imp (ps_asg he hg hs hw h1) fun T σ H ⟨F, B, L, as, wf, s, h⟩ => ?_
  refine ⟨F, B, L, as, wf, s, (EndS.thenS h).imp fun r L1 h1 v F' H' asr as' g' s' r' => ?_⟩
  refine ⟨F', B, L1, as', asr, r, g'.wf, s', r', ?_⟩
  rcases hG r L1 with ⟨L', e⟩ | e
  · rw [e] at h1 ⊢
    exact okN.behind g' (Pin.refl _ _) h1
  · rw [e] at h1; exact h1.elim
end
/-! targets never raise -/
def Calm (g : MG) : Prop := ∀ r L, (∃ L', g r L = .next L') ∨ g r L = .bad
def CalmS (g : List W → MS) : Prop := ∀ r L, (∃ L', g r L = .next L') ∨ g r L = .bad
theorem calm_nm {fl : List Bool} {i : Nat} : Calm (gNm fl i) := fun r L => by
  unfold gNm asgn
  split
  · exact .inr rfl
  · cases r with
    | val w => exact .inl ⟨_, rfl⟩
    | al j =>
      dsimp only
      cases e : toF (.al j) L with
      | ok d L1 => exact .inl ⟨_, rfl⟩
      | bad => exact .inr rfl
      | exc x L1 => exact (toF_nexc e).elim
theorem calms_nil : CalmS gsNil := fun r L => by
  cases r with
  | nil => exact .inl ⟨_, rfl⟩
  | cons _ _ => exact .inr rfl
theorem calms_cons {g : MG} {gs : List W → MS} (h1 : Calm g) (h2 : CalmS gs) : CalmS (gsCons g gs) := fun r L => by
  cases r with
  | nil => exact .inr rfl
  | cons w ws =>
    unfold gsCons
    dsimp only
    rcases h1 (.val w) L with ⟨L', e⟩ | e
    · rw [e]; exact h2 ws L'
    · rw [e]; exact .inr rfl
theorem calm_tp {n : Nat} {gs : List W → MS} (h : CalmS gs) : Calm (gTp n gs) := fun r L => by
  unfold gTp
  split
  · split
    · split
      · exact h _ _
      · exact .inr rfl
    · exact .inr rfl
  · exact .inr rfl

/-! ### a, b = x, y -/
def sPar (fl : List Bool) (i j : Nat) (m : M (List R)) : MS := fun L => (m L).thenS fun rs L1 => match rs with
  | [.val v, .val w] => if fl[i]? = some true ∨ fl[j]? = some true ∨ v.no = false ∨ w.no = false then .bad else .next ((L1.set i (some v)).set j (some w))
  | _ => .bad
section
variable {X : Cx} {Wx : WX} {fl : List Bool} {i j : Nat} {x y : Str} {a b : Expr} {m : M (List R)} {px py pt pos : Pos} {kt k2 : Nat} {pt2 : Pos}
theorem srel_set {K : PySem.W.Frag} {F B H : Hp} {as : List Addr} {σ : L2.St} {L : Lc} {w : W} {v : V} {i : Nat} (s : SRel K F B H σ L as) (h : RepW K F B H w v []) : ∃ as', (∀ p, List.count p as' ≤ List.count p as) ∧ SRel K F B H (σ.set i (some v)) (L.set i (some w)) as' := by
  by_cases hi : i < L.length
  · obtain ⟨s', pre, a1, post, h1, h2, ea, k⟩ := SRel.at s (List.getElem?_eq_getElem hi)
    subst ea
    exact ⟨pre ++ ([] ++ post), fun p => by simp only [List.count_append, List.count_nil]; omega, k F B H (some v) (some w) [] (Same.refl _) (Same.refl _) (fun _ _ _ z => z) ⟨v, rfl, h⟩⟩
  · have hl := s.len
    refine ⟨as, fun _ => Nat.le_refl _, ?_⟩
    rw [List.set_eq_of_length_le (show σ.length ≤ i by omega), List.set_eq_of_length_le (show L.length ≤ i by omega)]
    exact s
theorem par_rel : ∀ T σ H, bvS X.K Wx fl (sPar fl i j m) T σ H → tPar i j (bvA X.K Wx m) T σ H := fun T σ H ⟨F, B, L, as, wf, s, h⟩ => by
  refine ⟨F, B, L, as, wf, s, (EndS.thenS h).imp fun rs L1 h1 vs F' H' asr as' g' s' r' => ?_⟩
  split at h1
  · rename_i v w
    split at h1
    · exact h1.elim
    · rename_i hc
      have c1 : ¬ fl[i]? = some true := fun z => hc (.inl z)
      have c2 : ¬ fl[j]? = some true := fun z => hc (.inr (.inl z))
      have n1 : v.no = true := by cases e : v.no with
        | true => rfl
        | false => exact absurd (.inr (.inr (.inl e))) hc
      have n2 : w.no = true := by cases e : w.no with
        | true => rfl
        | false => exact absurd (.inr (.inr (.inr e))) hc
      obtain ⟨x1, t, a1, a2, e1, ea, q1, x2, t2, b1, b2, e2, eb, q2, e3, ec⟩ := r'
      subst e1 e2 e3
      have z1 := no_nil n1 q1
      have z2 := no_nil n2 q2
      subst z1 z2
      refine ⟨x1, x2, rfl, ?_⟩
      obtain ⟨as1, k1, s1⟩ := srel_set (i := i) s' (show RepW X.K F' B H' v x1 [] from q1)
      obtain ⟨as2, k2, s2⟩ := srel_set (i := j) s1 (show RepW X.K F' B H' w x2 [] from q2)
      exact h1 _ F' H' as2 (g'.sub fun p => by have := k1 p; have := k2 p; simp only [List.count_append]; omega) s2 ((pin_set c1).trans (pin_set c2))
  · exact h1.elim
end

/-! ### what is walked -/
/-- J walks ws -/
def ItOk (K : PySem.W.Frag) (F B : Hp) (J : It) (ws : List W) : Prop :=
  ∀ (i : Nat) (F1 H1 : Hp) (as1 : List Addr), Same F F1 → WF F1 B H1 as1 → (∀ w, ws[i]? = some w → J.go i H1 ∧ ∀ x H2, J.yld i H1 x H2 → ∃ F2 asx, Go F1 B H1 as1 F2 H2 (asx ++ as1) ∧ Kept as1 H1 H2 ∧ RepW K F2 B H2 w x asx) ∧ (i = ws.length → J.stop i H1)
def bvI (K : PySem.W.Frag) (Wx : WX) (m : M (List W)) : TI := fun σ H R => ∃ F B L as, WF F B H as ∧ SRel K F B H σ L as ∧ End K Wx F B H as σ (fun ws L' => ∀ J F' H' as', Go F B H as F' H' as' → SRel K F' B H' σ L' as' → ItOk K F' B J ws → R J H') (m L)
def forL (g : MG) (body : MS) : List W → MS
  | [], L => .next L
  | w :: ws, L => match g (.val w) L with
    | .next L1 => match body L1 with
      | .next L2 => forL g body ws L2
      | .cnt L2 => forL g body ws L2
      | .brk L2 => .next L2
      | .ret v L2 => .ret v L2
      | .exc x L2 => .exc x L2
      | .bad => .bad
    | _ => .bad
def sFor (mi : M (List W)) (g : MG) (body : MS) : MS := fun L => (mi L).thenS fun ws L1 => forL g body ws L1
section
variable {X : Cx} {Wx : WX} {fl : List Bool} {pos : Pos} {tg iter : Expr} {body : List Stmt} {mi : M (List W)} {g : MG} {mb : MS}
theorem drop_cons {α : Type} {l : List α} {i : Nat} {a : α} (h : l[i]? = some a) : l.drop i = a :: l.drop (i + 1) := by
  obtain ⟨hi, rfl⟩ := List.getElem?_eq_some_iff.mp h
  rw [List.drop_eq_getElem_cons hi]
theorem for_rel : ∀ T σ H, bvS X.K Wx fl (sFor mi g mb) T σ H → tFor (bvI X.K Wx mi) (bvG X.K fl g) (bvS X.K Wx fl mb) T σ H := fun T σ H ⟨F, B, L, as, wf, s, h⟩ => by
  refine ⟨F, B, L, as, wf, s, (EndS.thenS h).imp fun ws L1 h1 J F1 H1 as1 g1 s1 ij => ?_⟩
  refine ⟨fun i m σ' H' => m = ws.length - i ∧ i ≤ ws.length ∧ ∃ F2 L2 as2, Same F1 F2 ∧ WF F2 B H' as2 ∧ SRel X.K F2 B H' σ' L2 as2 ∧ EndS X.K Wx fl F2 B H' as2 σ' T (forL g mb (ws.drop i) L2), ⟨ws.length, by omega, Nat.zero_le _, F1, L1, as1, Same.refl _, g1.wf, s1, EndS.behind g1 (Pin.refl _ _) h1⟩, ?_⟩
  rintro i m σ' H' ⟨rfl, hi, F2, L2, as2, sF, wf2, s2, h2⟩
  obtain ⟨it1, it2⟩ := ij i F2 H' as2 sF wf2
  cases ei : ws[i]? with
  | none =>
    have hl : ws.length ≤ i := List.getElem?_eq_none_iff.mp ei
    rw [List.drop_eq_nil_of_le hl] at h2
    exact .inl ⟨it2 (by omega), h2 σ' F2 H' as2 (Go.refl wf2) s2 (Pin.refl _ _)⟩
  | some w =>
    have hlt : i < ws.length := (List.getElem?_eq_some_iff.mp ei).1
    obtain ⟨go, yl⟩ := it1 w ei
    rw [drop_cons ei] at h2
    unfold forL at h2
    refine .inr ⟨go, fun σ3 H3 => ∃ F3 L3 as3, Same F1 F3 ∧ WF F3 B H3 as3 ∧ SRel X.K F3 B H3 σ3 L3 as3 ∧ EndS X.K Wx fl F3 B H3 as3 σ3 T (forL g mb (ws.drop (i + 1)) L3), fun σ3 H3 ⟨F3, L3, as3, q1, q2, q3, q4⟩ => ⟨_, by omega, rfl, hlt, F3, L3, as3, q1, q2, q3, q4⟩, fun x H3 hy => ?_⟩
    obtain ⟨F3, asx, g3, k3, r3⟩ := yl x H3 hy
    have s3 : SRel X.K F3 B H3 σ' L2 as2 := SRel.frame g3.ext (Same.refl _) k3 s2
    cases eg : g (.val w) L2 with
    | next L3 =>
      rw [eg] at h2
      dsimp only at h2
      refine ⟨F3, B, L2, as2, asx, .val w, g3.wf, s3, r3, ?_⟩
      rw [eg]
      intro σ4 F4 H4 as4 g4 s4 p4
      have g5 := g3.trans g4
      refine ⟨F4, B, L3, as4, g4.wf, s4, ?_⟩
      have cont : ∀ {L4 : Lc}, EndS X.K Wx fl F2 B H' as2 σ' T (forL g mb (ws.drop (i + 1)) L4) → okN X.K fl F4 B H4 as4 σ4 (fun σ3 H3 => ∃ F3 L3 as3, Same F1 F3 ∧ WF F3 B H3 as3 ∧ SRel X.K F3 B H3 σ3 L3 as3 ∧ EndS X.K Wx fl F3 B H3 as3 σ3 T (forL g mb (ws.drop (i + 1)) L3)) L4 :=
        fun {L4} h3 σ6 F6 H6 as6 g6 s6 p6 => ⟨F6, L4, as6, (sF.trans g5.ext).trans g6.ext, g6.wf, s6, EndS.behind (g5.trans g6) (p4.trans p6) h3⟩
      cases eb : mb L3 with
      | next L4 => rw [eb] at h2; exact cont h2
      | cnt L4 => rw [eb] at h2; exact cont h2
      | brk L4 => rw [eb] at h2; exact okN.behind g5 p4 h2
      | ret v L4 =>
        rw [eb] at h2
        exact EndS.behind (r := .ret v L4) (T := { T with nx := T.nx }) g5 p4 h2
      | exc y L4 =>
        rw [eb] at h2
        exact EndS.behind (r := .exc y L4) (T := T) g5 p4 h2
      | bad => rw [eb] at h2; exact h2.elim
    | _ => rw [eg] at h2; exact h2.elim
theorem bs_for {k : Nat} (c : Bd X Wx k) (hi : PI X tg iter (bvI X.K Wx mi)) (hg : PG X tg (bvG X.K fl g)) (hb : PSs X body (bvS X.K Wx fl mb)) (hp : PS X (.For tg iter body [] pos) (tFor (bvI X.K Wx mi) (bvG X.K fl g) (bvS X.K Wx fl mb))) : PS X (.For tg iter body [] pos) (bvS X.K Wx fl (sFor mi g mb)) := ps_imp hp for_rel
end

/-! ### while: by fuel -/
def whileL (c : M Bool) (body : MS) : Nat → MS
  | 0, _ => .bad
  | n + 1, L => (c L).thenS fun k L1 => if k = true then match body L1 with
      | .next L2 => whileL c body n L2
      | .cnt L2 => whileL c body n L2
      | .brk L2 => .next L2
      | .ret v L2 => .ret v L2
      | .exc x L2 => .exc x L2
      | .bad => .bad
    else .next L1
def sWhile (fuel : Lc → Nat) (c : M Bool) (body : MS) : MS := fun L => whileL c body (fuel L) L
section
variable {X : Cx} {Wx : WX} {fl : List Bool} {pos : Pos} {test : Expr} {body : List Stmt} {mc : M Bool} {mb : MS} {fuel : Lc → Nat}
theorem while_rel : ∀ T σ H, bvS X.K Wx fl (sWhile fuel mc mb) T σ H → tWhile (bvT X.K Wx mc) (bvS X.K Wx fl mb) T σ H := fun T σ H ⟨F, B, L, as, wf, s, h⟩ => by
  refine ⟨fun n σ' H' => ∃ F2 L2 as2, WF F2 B H' as2 ∧ SRel X.K F2 B H' σ' L2 as2 ∧ EndS X.K Wx fl F2 B H' as2 σ' T (whileL mc mb n L2), ⟨fuel L, F, L, as, wf, s, h⟩, ?_⟩
  rintro n σ' H' ⟨F2, L2, as2, wf2, s2, h2⟩
  cases n with
  | zero => exact h2.elim
  | succ n =>
    refine ⟨F2, B, L2, as2, wf2, s2, (EndS.thenS h2).imp fun k L3 h3 F3 H3 as3 g3 s3 => ?_⟩
    cases k with
    | false => exact iteF (h3 σ' F3 H3 as3 g3 s3 (Pin.refl _ _))
    | true =>
      refine iteT ⟨fun σ4 H4 => ∃ F4 L4 as4, WF F4 B H4 as4 ∧ SRel X.K F4 B H4 σ4 L4 as4 ∧ EndS X.K Wx fl F4 B H4 as4 σ4 T (whileL mc mb n L4), fun σ4 H4 q => ⟨n, Nat.lt_succ_self _, q⟩, F3, B, L3, as3, g3.wf, s3, ?_⟩
      have h4 : EndS X.K Wx fl F2 B H' as2 σ' T (match mb L3 with
        | .next L2 => whileL mc mb n L2
        | .cnt L2 => whileL mc mb n L2
        | .brk L2 => .next L2
        | .ret v L2 => .ret v L2
        | .exc x L2 => .exc x L2
        | .bad => .bad) := h3
      have cont : ∀ {L4 : Lc}, EndS X.K Wx fl F2 B H' as2 σ' T (whileL mc mb n L4) → okN X.K fl F3 B H3 as3 σ' (fun σ4 H4 => ∃ F4 L4 as4, WF F4 B H4 as4 ∧ SRel X.K F4 B H4 σ4 L4 as4 ∧ EndS X.K Wx fl F4 B H4 as4 σ4 T (whileL mc mb n L4)) L4 :=
        fun {L4} h3 σ6 F6 H6 as6 g6 s6 p6 => ⟨F6, L4, as6, g6.wf, s6, EndS.behind (g3.trans g6) p6 h3⟩
      cases eb : mb L3 with
      | next L4 => rw [eb] at h4; exact cont h4
      | cnt L4 => rw [eb] at h4; exact cont h4
      | brk L4 => rw [eb] at h4; exact okN.behind g3 (Pin.refl _ _) h4
      | ret v L4 => rw [eb] at h4; exact EndS.behind (r := .ret v L4) (T := T) g3 (Pin.refl _ _) h4
      | exc y L4 => rw [eb] at h4; exact EndS.behind (r := .exc y L4) (T := T) g3 (Pin.refl _ _) h4
      | bad => rw [eb] at h4; exact h4.elim
theorem bs_while {k : Nat} (fuel : Lc → Nat) (c : Bd X Wx k) (hc : PT X test (bvT X.K Wx mc)) (hb : PSs X body (bvS X.K Wx fl mb)) : PS X (.While test body [] pos) (bvS X.K Wx fl (sWhile fuel mc mb)) := ps_imp (ps_while c.hp hc hb) while_rel
end
section
variable {X : Cx} {Wx : WX} {fl : List Bool} {pos : Pos} {tg iter : Expr} {body : List Stmt} {mi : M (List W)} {g : MG} {mb : MS}
theorem bs_forr {k : Nat} (c : Bd X Wx k) (hi : PI X tg iter (bvI X.K Wx mi)) (hg : PG X tg (bvG X.K fl g)) (hb : PSs X body (bvS X.K Wx fl mb)) (hs : ∀ x, foldedSetIterable iter X.env x = pure x := by intro _; rfl) : PS X (.For tg iter body [] pos) (bvS X.K Wx fl (sFor mi g mb)) :=
  ps_imp (ps_for c.hp c.calm hi hg hb hs) for_rel
variable {i j : Nat} {x y : Str} {a b : Expr} {m : M (List R)} {px py pt : Pos} {kt k2 : Nat} {pt2 : Pos}
theorem bs_par {k : Nat} (c : Bd X Wx k) (hi : X.N[i]? = some x) (hj : X.N[j]? = some y) (hij : i ≠ j) (hx : X.env.scope.names.lookup x = some .local) (hy : X.env.scope.names.lookup y = some .local) (ha : PA X [a, b] (bvA X.K Wx m))
    (hw : swappedStores [.Tuple [.Name x px, .Name y py] kt pt] (.Tuple [a, b] k2 pt2) X.env = pure (some [x, y])) (hs : swapsWithSole [.Tuple [.Name x px, .Name y py] kt pt] (.Tuple [a, b] k2 pt2) pos.line X.env = pure false := by rfl) :
    PS X (.Assign [.Tuple [.Name x px, .Name y py] kt pt] (.Tuple [a, b] k2 pt2) pos) (bvS X.K Wx fl (sPar fl i j m)) := ps_imp (ps_par c.calm c.nd hi hj hij hx hy ha hw hs) par_rel
end
end BV

namespace BV
open PySem PySem.Spec PyProof.Rows L2

/-! ### fields -/
theorem look_cons {α : Type} (f g : Str) (y : α) (fs : List (Str × α)) : ((g, y) :: fs).lookup f = if f = g then some y else fs.lookup f := by
  by_cases h : f = g
  · subst h; simp [List.lookup]
  · have e : (f == g) = false := by simpa using h
    rw [if_neg h]
    simp [List.lookup, e]
theorem RepF.get {K : PySem.W.Frag} {F : Hp} {f : Str} : ∀ {fs : List (Str × D)} {ws : List (Str × V)} {d : D}, RepF K F fs ws → fs.lookup f = some d → ∃ v, ws.lookup f = some v ∧ Rep K F d v
  | [], _, _, _, e => by cases e
  | (g, x) :: fs, _, d, ⟨v, r, e1, h, t⟩, e => by
    subst e1
    rw [look_cons] at e ⊢
    by_cases q : f = g
    · rw [if_pos q] at e ⊢; cases e; exact ⟨v, rfl, h⟩
    · rw [if_neg q] at e ⊢; exact RepF.get t e
theorem RepF.none {K : PySem.W.Frag} {F : Hp} {f : Str} : ∀ {fs : List (Str × D)} {ws : List (Str × V)}, RepF K F fs ws → fs.lookup f = none → ws.lookup f = none
  | [], _, h, _ => by rw [show _ = [] from h]; rfl
  | (g, x) :: fs, _, ⟨v, r, e1, h, t⟩, e => by
    subst e1
    rw [look_cons] at e ⊢
    by_cases q : f = g
    · rw [if_pos q] at e; cases e
    · rw [if_neg q] at e ⊢; exact RepF.none t e
theorem RepWF.get {K : PySem.W.Frag} {F B H : Hp} {f : Str} : ∀ {fs : List (Str × W)} {ws : List (Str × V)} {as : List Addr} {w : W}, RepWF K F B H fs ws as → fs.lookup f = some w → w.no = true → ∃ v, ws.lookup f = some v ∧ RepW K F B H w v []
  | [], _, _, _, _, e, _ => by cases e
  | (g, x) :: fs, _, _, w, ⟨v, r, a1, a2, e1, ea, h, t⟩, e, hn => by
    subst e1
    rw [look_cons] at e ⊢
    by_cases q : f = g
    · rw [if_pos q] at e ⊢; cases e
      have z := no_nil hn h
      subst z
      exact ⟨v, rfl, h⟩
    · rw [if_neg q] at e ⊢; exact RepWF.get t e hn
theorem RepWF.none {K : PySem.W.Frag} {F B H : Hp} {f : Str} : ∀ {fs : List (Str × W)} {ws : List (Str × V)} {as : List Addr}, RepWF K F B H fs ws as → fs.lookup f = none → ws.lookup f = none
  | [], _, _, h, _ => by rw [h.1]; rfl
  | (g, x) :: fs, _, _, ⟨v, r, a1, a2, e1, ea, h, t⟩, e => by
    subst e1
    rw [look_cons] at e ⊢
    by_cases q : f = g
    · rw [if_pos q] at e; cases e
    · rw [if_neg q] at e ⊢; exact RepWF.none t e
/-- the class of what is read -/
def W.cls : W → Option Addr
  | .frz (.obj C _) => some C
  | .brw (.obj C _) => some C
  | .oobj C _ => some C
  | _ => none
def W.fld (w : W) (f : Str) : Option W := match w with
  | .frz (.obj _ fs) => (fs.lookup f).map .frz
  | .brw (.obj _ fs) => (fs.lookup f).map mkB
  | .oobj _ fs => match fs.lookup f with
    | some u => if u.no = true then some u else none
    | none => none
  | _ => none
/-- no field of that name -/
def W.nofld (w : W) (f : Str) : Bool := match w with
  | .frz (.obj _ fs) => (fs.lookup f).isNone
  | .brw (.obj _ fs) => (fs.lookup f).isNone
  | .oobj _ fs => (fs.lookup f).isNone
  | _ => false
theorem cls_ok {K : PySem.W.Frag} {F B H : Hp} (sF : Same F H) (sB : Same B H) {w : W} {v : V} {as : List Addr} {C : Addr} (h : RepW K F B H w v as) (e : w.cls = some C) :
    ∃ a dx ws, v = .ref a ∧ H a = some (.ins C dx ws) ∧ (∀ f u, w.fld f = some u → ∃ z, ws.lookup f = some z ∧ RepW K F B H u z []) ∧ ∀ f, w.nofld f = true → ws.lookup f = none := by
  cases w with
  | frz d => cases d with
    | obj C' fs =>
      cases e
      obtain ⟨⟨a, dx, ws, e1, q, r⟩, _⟩ := h
      refine ⟨a, dx, ws, e1, sF _ _ q, fun f u eu => ?_, fun f en => RepF.none r (Option.isNone_iff_eq_none.mp en)⟩
      obtain ⟨d, ed, rfl⟩ := map_some eu
      obtain ⟨z, ez, rz⟩ := RepF.get r ed
      exact ⟨z, ez, rz, rfl⟩
    | _ => cases e
  | brw d => cases d with
    | obj C' fs =>
      cases e
      obtain ⟨⟨a, dx, ws, e1, q, r⟩, _⟩ := h
      refine ⟨a, dx, ws, e1, sB _ _ q, fun f u eu => ?_, fun f en => RepF.none r (Option.isNone_iff_eq_none.mp en)⟩
      obtain ⟨d, ed, rfl⟩ := map_some eu
      obtain ⟨z, ez, rz⟩ := RepF.get r ed
      exact ⟨z, ez, repW_mkB rz⟩
    | _ => cases e
  | oobj C' fs =>
    cases e
    obtain ⟨a, dx, ws, bs, e1, q, ea, r⟩ := h
    refine ⟨a, dx, ws, e1, q, fun f u eu => ?_, fun f en => RepWF.none r (Option.isNone_iff_eq_none.mp en)⟩
    have eu' : (match fs.lookup f with
      | some u => if u.no = true then some u else none
      | none => none) = some u := eu
    cases el : fs.lookup f with
    | none => rw [el] at eu'; cases eu'
    | some u2 =>
      rw [el] at eu'
      dsimp only at eu'
      split at eu'
      · rename_i hn
        cases eu'
        exact RepWF.get r el hn
      · cases eu'
  | _ => cases e
def mFld (cs : List Addr) (f : Str) (m : M R) : M R := fun L => (m L).bind fun r L1 => match r.get L1 with
  | some w => match w.cls with
    | some C => if C ∈ cs then match w.fld f with
        | some u => .ok (.val u) L1
        | none => .bad
      else .bad
    | none => .bad
  | none => .bad
section
variable {X : Cx} {Wx : WX} {e : Expr} {m : M R} {f : Str} {pos : Pos}
theorem be_fld (cs : List Addr) (hcs : ∀ C ∈ cs, Cls X.K C ∧ NoAttr X.K C f) (he : PE X e (bvE X.K Wx m)) (hb : attributeBase e f X.env (eval e X.env) = eval e X.env) : PE X (.Attribute e f pos) (bvE X.K Wx (mFld cs f m)) := by
  refine pe_imp (pe_fld he hb) fun σ H Q ⟨F, B, L, as, wf, s, h⟩ => ?_
  refine ⟨F, B, L, as, wf, s, (End.bind h).imp fun r L1 h1 v F' H' asr as' g' s' r' => ?_⟩
  split at h1
  · rename_i w ew
    split at h1
    · rename_i C eC
      split at h1
      · rename_i hC
        split at h1
        · rename_i u eu
          obtain ⟨bs, rw'⟩ := get_ok s' r' ew
          obtain ⟨a, dx, ws, ev, ea, hf, _⟩ := cls_ok g'.wf.f g'.wf.b rw' eC
          obtain ⟨z, ez, rz⟩ := hf f u eu
          exact ⟨a, C, dx, ws, z, ev, ea, (hcs C hC).1, (hcs C hC).2, ez, h1 z F' H' [] as' (g'.sub (le_r _ _)) s' rz⟩
        · exact h1.elim
      · exact h1.elim
    · exact h1.elim
  · exact h1.elim
end

/-! ### methods -/
/-- what a method's name means by the class -/
abbrev Disp := Addr → Option (List Bool × Fn)
def mMeth (ds : Disp) (m : Str) (ma : M R) (mr : M (List R)) : M R := fun L => (ma L).bind fun r L1 => match r.get L1 with
  | some w => match w.cls with
    | some C => if w.nofld m = true then match ds C with
        | some p => (mr L1).bind fun rs L2 => callR p.1 p.2 (r :: rs) L2
        | none => .bad
      else .bad
    | none => .bad
  | none => .bad
/-- the classes' methods keep their readings -/
structure MethOk (X : Cx) (k : Nat) (m : Str) (C : Addr) (fl : List Bool) (fn : Fn) : Prop where
  cls : Cls X.K C
  ex : ∃ (f : Addr) (fd : FuncData) (ps : List Str), Meth X.K C m f ∧ FnOk X.prog X.w X.K X.mg X.base (L2.CX X.prog X.w) k f fd ps (spBV X.K fl fn) ∧ Binds X.K fd ps []
section
variable {X : Cx} {Wx : WX} {j k : Nat} {ds : Disp} {m : Str} {o e : Expr} {es : List Expr} {apos pos : Pos} {ma : M R} {mr : M (List R)} {pl : Sem Bool}
theorem be_meth (c : Bd X Wx j) (hk : k ≤ j) (hd : ∀ C fl fn, ds C = some (fl, fn) → MethOk X k m C fl fn) (he : PE X o (bvE X.K Wx ma)) (ha : PA X (e :: es) (bvA X.K Wx mr))
    (hst : starEach (e :: es) X.env = (false, eval e X.env) :: starEach es X.env := by rfl) (hpl : (backTo pos (starEach es X.env)).any (·.1) = false := by rfl)
    (ht : eval (.Call (.Attribute o m apos) (e :: es) [] pos) X.env = (eval o X.env >>= fun ov => standAt apos.atName >>= fun _ => holding [ov] (getMethod ov m pl) >>= fun q => callWith pos q.1 q.2 (backTo pos (starEach (e :: es) X.env)) (backToKw pos (keywordEach [] X.env))) := by rfl) :
    PE X (.Call (.Attribute o m apos) (e :: es) [] pos) (bvE X.K Wx (mMeth ds m ma mr)) := by
  refine ⟨fun pins s σ H Q I ⟨F, B, L, as, wf, sr, h⟩ => PySem.W.methodCall_KW (pl := pl) (thn (he.run pins s σ H (fun x H1 => ∃ a C dx fs fl fn, x = .ref a ∧ H1 a = some (.ins C dx fs) ∧ fs.lookup m = none ∧ MethOk X k m C fl fn ∧
      bvA X.K Wx mr σ H1 fun vs H2 => spBV X.K fl fn (.ref a :: vs) H2 Q fun cls d H' => Wx cls d σ H') I ⟨F, B, L, as, wf, sr, (End.bind h).imp fun r L1 h1 v F1 H1 asr as1 g1 s1 r1 => ?_⟩) ?_) ht⟩
  · split at h1
    · rename_i w ew
      split at h1
      · rename_i C eC
        split at h1
        · rename_i hno
          split at h1
          · rename_i p ep
            obtain ⟨bs, rw'⟩ := get_ok s1 r1 ew
            obtain ⟨a, dx, ws, ev, ea, _, hn⟩ := cls_ok g1.wf.f g1.wf.b rw' eC
            subst ev
            refine ⟨a, C, dx, ws, p.1, p.2, rfl, ea, hn m hno, hd C p.1 p.2 ep, F1, B, L1, as1, g1.wf.sub (le_r _ _), s1, (End.bind h1).behind (g1.sub (le_r _ _)) fun rs L2 h2 vs F2 H2 asr2 as2 g2 s2 r2 => ?_⟩
            obtain ⟨g3, k3⟩ := framed g1 g2
            refine call_sp (asr := asr ++ asr2) (as := as2) (rs := r :: rs) (L := L2) (σ := σ) (F := F2) (B := B) (g3.wf.sub fun p => by simp only [List.count_append]; omega) s2 ⟨.ref a, vs, asr, asr2, rfl, rfl, r1.frame g2.ext k3, r2⟩ ?_
            have g4 : Go F B H as F2 H2 ((asr ++ asr2) ++ as2) := g3.sub fun p => by simp only [List.count_append]; omega
            exact h2.behind g4 fun r L3 h3 v F' H' asr' as' g' s' r' => h3 v F' H' asr' as' (g4.trans g') s' r'
          · exact h1.elim
        · exact h1.elim
      · exact h1.elim
    · exact h1.elim
  · rintro u s1 ⟨x, H1, I1, rx, a, C, dx, fs, fl, fn, rfl, ea, hl, ⟨cl, f, fd, ps, hm, FO, hb⟩, q⟩
    obtain rfl : u = Value.ref a := rx
    refine getmeth_ok I1 ea cl hm hl (PySem.W.callWith_K (first := [.ref a]) (h₀ := X.base) I.ok.mod.kin hm.kp (thn (ha.run pos pins s1 σ H1 _ I1 q) fun us s2 ⟨vs, H2, I2, r, q2⟩ => ⟨I2.kIn, ?_⟩) hst hpl)
    exact run_fnSD (E := fun σ cls d H => Wx cls d σ H) (us := .ref a :: us) (vs := .ref a :: vs) FO (c.hr.mono hk) hb .nil (passAt c.tk σ) I2 (.cons rfl r) (by rw [List.append_nil]; exact q2)
theorem be_meth0 (c : Bd X Wx j) (hk : k ≤ j) (hd : ∀ C fl fn, ds C = some (fl, fn) → MethOk X k m C fl fn) (he : PE X o (bvE X.K Wx ma))
    (ht : eval (.Call (.Attribute o m apos) [] [] pos) X.env = (eval o X.env >>= fun ov => standAt apos.atName >>= fun _ => holding [ov] (getMethod ov m pl) >>= fun q => callWith pos q.1 q.2 (backTo pos (starEach [] X.env)) (backToKw pos (keywordEach [] X.env))) := by rfl) :
    PE X (.Call (.Attribute o m apos) [] [] pos) (bvE X.K Wx (mMeth ds m ma mNil)) := by
  refine ⟨fun pins s σ H Q I ⟨F, B, L, as, wf, sr, h⟩ => PySem.W.methodCall_KW (pl := pl) (thn (he.run pins s σ H (fun x H1 => ∃ a C dx fs fl fn, x = .ref a ∧ H1 a = some (.ins C dx fs) ∧ fs.lookup m = none ∧ MethOk X k m C fl fn ∧
      spBV X.K fl fn [.ref a] H1 Q fun cls d H' => Wx cls d σ H') I ⟨F, B, L, as, wf, sr, (End.bind h).imp fun r L1 h1 v F1 H1 asr as1 g1 s1 r1 => ?_⟩) ?_) ht⟩
  · split at h1
    · rename_i w ew
      split at h1
      · rename_i C eC
        split at h1
        · rename_i hno
          split at h1
          · rename_i p ep
            obtain ⟨bs, rw'⟩ := get_ok s1 r1 ew
            obtain ⟨a, dx, ws, ev, ea, _, hn⟩ := cls_ok g1.wf.f g1.wf.b rw' eC
            subst ev
            refine ⟨a, C, dx, ws, p.1, p.2, rfl, ea, hn m hno, hd C p.1 p.2 ep, ?_⟩
            refine call_sp (asr := asr) (as := as1) (rs := [r]) (L := L1) (σ := σ) (F := F1) (B := B) g1.wf s1 ⟨.ref a, [], asr, [], rfl, by simp, r1, rfl, rfl⟩ ?_
            exact (show End X.K Wx F B H as σ (okE X.K F B H as σ Q) (callR p.1 p.2 [r] L1) from h1).behind g1 fun r L3 h3 v F' H' asr' as' g' s' r' => h3 v F' H' asr' as' (g1.trans g') s' r'
          · exact h1.elim
        · exact h1.elim
      · exact h1.elim
    · exact h1.elim
  · rintro u s1 ⟨x, H1, I1, rx, a, C, dx, fs, fl, fn, rfl, ea, hl, ⟨cl, f, fd, ps, hm, FO, hb⟩, q⟩
    obtain rfl : u = Value.ref a := rx
    refine getmeth_ok I1 ea cl hm hl (PySem.W.callWith_K0 (first := [.ref a]) I1.kIn hm.kp ?_)
    exact run_fnSD (E := fun σ cls d H => Wx cls d σ H) (us := [.ref a]) (vs := [.ref a]) FO (c.hr.mono hk) hb .nil (passAt c.tk σ) I1 (.cons rfl .nil) q
end

/-! ### self.f = e -/
def putW (f : Str) (w : W) : List (Str × W) → List (Str × W)
  | [] => [(f, w)]
  | (g, x) :: r => if g = f then (g, w) :: r else (g, x) :: putW f w r
theorem putW_ok {K : PySem.W.Frag} {F B H : Hp} {f : Str} {w : W} {y : V} (h : RepW K F B H w y []) : ∀ {fs : List (Str × W)} {ws : List (Str × V)} {as : List Addr}, RepWF K F B H fs ws as → ∃ as', (∀ p, List.count p as' ≤ List.count p as) ∧ RepWF K F B H (putW f w fs) (putF f y ws) as'
  | [], _, _, ⟨e1, e2⟩ => by
    subst e1 e2
    exact ⟨[], fun _ => Nat.le_refl _, y, [], [], [], rfl, rfl, h, rfl, rfl⟩
  | (g, x) :: fs, _, _, ⟨v, r, a1, a2, e1, ea, h1, t⟩ => by
    subst e1 ea
    unfold putW putF
    by_cases q : g = f
    · rw [if_pos q, if_pos q]
      exact ⟨a2, fun p => by rw [List.count_append]; omega, y, r, [], a2, rfl, rfl, h, t⟩
    · rw [if_neg q, if_neg q]
      obtain ⟨as', k, t'⟩ := putW_ok h t
      exact ⟨a1 ++ as', fun p => by have := k p; simp only [List.count_append]; omega, v, _, a1, as', rfl, rfl, h1, t'⟩
theorem RepWF.len {K : PySem.W.Frag} {F B H : Hp} : ∀ {fs : List (Str × W)} {ws : List (Str × V)} {as : List Addr}, RepWF K F B H fs ws as → ws.length = fs.length
  | [], _, _, h => by rw [h.1]; rfl
  | (_, _) :: _, _, _, ⟨v, r, a1, a2, e, ea, h, t⟩ => by rw [e, List.length_cons, List.length_cons, t.len]
/-- slot i's own object gets a field -/
def sFldSet (cs : List Addr) (i : Nat) (f : Str) (m : M R) : MS := fun L => (m L).thenS fun r L1 => (toF r L1).thenS fun d L2 => match L2[i]? with
  | some (some (.oobj C fs)) => if C ∈ cs ∧ fs.length < 1000 then .next (L2.set i (some (.oobj C (putW f (.frz d) fs)))) else .bad
  | _ => .bad
section
variable {X : Cx} {Wx : WX} {fl : List Bool} {i : Nat} {x f : Str} {e : Expr} {m : M R} {pos pos' px : Pos}
/-- another content of slot i's own object -/
theorem own_write {K : PySem.W.Frag} {F B H : Hp} {as : List Addr} {σ : L2.St} {L : Lc} {pre a1 post : List Addr} {v : V} {a : Addr} : True := trivial
theorem bs_fld (cs : List Addr) (hcs : ∀ C ∈ cs, Cls X.K C ∧ NoAttr X.K C f) (hN : X.N[i]? = some x) (hv : Vis X.env.scope x) (hd : (x == ("__debug__" : Str)) = false) (hcd : (x == ("__classdict__" : Str)) = false)
    (he : PE X e (bvE X.K Wx m)) (hs : swapsWith e (some (.Attribute (.Name x px) f pos')) pos.line X.env = pure false := by rfl) : PS X (.Assign [.Attribute (.Name x px) f pos'] e pos) (bvS X.K Wx fl (sFldSet cs i f m)) := by
  refine ps_imp (ps_fld (pe_var hN hv hd hcd) he hs) fun T σ H ⟨F, B, L, as, wf, s, h⟩ => ?_
  refine ⟨F, B, L, as, wf, s, (EndS.thenS h).imp fun r L1 h1 y F1 H1 asr as1 g1 s1 r1 => ?_⟩
  obtain ⟨d, L2, e2, h2⟩ := toF_endS h1
  obtain ⟨F2, as2, g2, s2, q2⟩ := toF_ok g1.wf s1 r1 e2
  split at h2
  · rename_i C fs eL
    split at h2
    · rename_i hC
      obtain ⟨s0, pre, a1, post, k1, ⟨v, ev, rw'⟩, ea, k⟩ := SRel.at s2 eL
      subst ev ea
      obtain ⟨a, dx, ws, bs, e1, q, eb, r⟩ := rw'
      subst e1 eb
      have nb : Kept bs H1 (upd H1 a (.ins C dx (putF f y ws))) := fun p ip o ep => by
        have := g2.wf.nd a
        rw [upd_ne (fun z => by subst z; have ip' : 0 < List.count p bs := ip; simp only [List.count_append, List.count_cons_self] at this; omega)]
        exact ep
      have nk : Kept (pre ++ post) H1 (upd H1 a (.ins C dx (putF f y ws))) := fun p ip o ep => by
        have := g2.wf.nd a
        rw [upd_ne (fun z => by subst z; have ip' : 0 < List.count p (pre ++ post) := ip; simp only [List.count_append, List.count_cons_self] at this ip'; omega)]
        exact ep
      have r2 := RepWF.frame (Same.refl F2) (Same.refl B) nb r
      obtain ⟨bs', kb, r3⟩ := putW_ok (f := f) (show RepW X.K F2 B (upd H1 a (.ins C dx (putF f y ws))) (.frz d) y [] from ⟨q2, rfl⟩) r2
      have g3 := Go.write (F := F2) (B := B) (p := a) g2.wf (by unfold In; simp only [List.count_append, List.count_cons_self]; omega) (.ins C dx (putF f y ws))
      refine ⟨.ref a, k1, a, C, dx, ws, rfl, q, (hcs C hC.1).1, (hcs C hC.1).2, by rw [r.len]; exact hC.2, ?_⟩
      have s3 := k F2 B _ (some (.ref a)) (some (.oobj C (putW f (.frz d) fs))) (a :: bs') (Same.refl _) (Same.refl _) nk ⟨.ref a, rfl, a, dx, _, bs', rfl, upd_same, rfl, r3⟩
      rw [set_same k1] at s3
      exact h2 σ F2 _ _ (((g1.trans g2).trans g3).sub fun p => by have := kb p; simp only [List.count_append, List.count_cons]; omega) s3 (Pin.refl _ _)
    · exact h2.elim
  · exact h2.elim
end

/-! ### C(..): a new instance -/
def madeR (C : Addr) (fl : List Bool) (fn : Fn) (rs : List R) (L : Lc) : Res R := (prep fl rs L).bind fun p L1 => match fn (.oobj C [] :: p.1) with
  | .ok (.frz .non) (o :: os) => match back p.2 os L1 with
    | some L2 => .ok (.val o) L2
    | none => .bad
  | .exc x (_ :: os) => match back p.2 os L1 with
    | some L2 => .exc x L2
    | none => .bad
  | _ => .bad
def mMake (C : Addr) (fl : List Bool) (fn : Fn) (mr : M (List R)) : M R := fun L => (mr L).bind fun rs L1 => madeR C fl fn rs L1
theorem make_sp {K : PySem.W.Frag} {Wx : WX} {C : Addr} {fl : List Bool} {fn : Fn} {F B H : Hp} {as asr : List Addr} {σ : L2.St} {L : Lc} {rs : List R} {vs : List V} {Q : VK} (wf : WF F B H (asr ++ as)) (s : SRel K F B H σ L as) (rr : RepRs K F B H σ rs vs asr)
    (h : End K Wx F B H (asr ++ as) σ (okE K F B H (asr ++ as) σ Q) (madeR C fl fn rs L)) {x dx : Addr} (nx : H x = none) (ndx : H dx = none) (ne : dx ≠ x) :
    spBV K (true :: fl) fn (.ref x :: vs) (upd (upd H dx (.own x)) x (.ins C dx [])) (fun v H2 => v = .non ∧ Q (.ref x) H2) (fun cls d H' => Wx cls d σ H') := by
  unfold madeR at h
  cases ep : prep fl rs L with
  | exc x L1 => exact (prep_nexc ep).elim
  | bad => rw [ep] at h; exact h.elim
  | ok p L1 =>
    rw [ep] at h
    obtain ⟨F1, asw, as1, g1, s1, rw1, hl, ir⟩ := prep_ok wf s rr ep
    -- the two new objects
    have g2 := Go.alloc g1.wf ndx (.own x)
    have nx2 : upd H dx (.own x) x = none := by rw [upd_ne (Ne.symm ne)]; exact nx
    have g3 := Go.alloc g2.wf nx2 (.ins C dx [])
    have sm : Same H (upd (upd H dx (.own x)) x (.ins C dx [])) := fun q o e => by
      rw [upd_ne (fun z => by rw [z, nx] at e; cases e), upd_ne (fun z => by rw [z, ndx] at e; cases e)]; exact e
    have gA := (g1.trans g2).trans g3
    have wf1 : WF F1 B (upd (upd H dx (.own x)) x (.ins C dx [])) (as1 ++ (x :: asw)) := g3.wf.sub fun p => by simp only [List.count_append, List.count_cons]; omega
    have s1' := SRel.frame (Same.refl F1) (Same.refl B) (fun q _ o e => sm q o e) s1
    have rw1' := RepWs.frame (Same.refl F1) (Same.refl B) (fun q _ o e => sm q o e) rw1
    refine ⟨by rw [List.length_cons, List.length_cons, hl], F1, B, .oobj C [] :: p.1, x :: asw, wf1.sub (le_r _ _), ⟨.ref x, vs, [x], asw, rfl, rfl, ⟨x, dx, [], [], rfl, upd_same, rfl, rfl, rfl⟩, rw1'⟩, ?_⟩
    have h1 : End K Wx F B H (asr ++ as) σ (okE K F B H (asr ++ as) σ Q) (match fn (.oobj C [] :: p.1) with
      | .ok (.frz .non) (o :: os) => match back p.2 os L1 with
        | some L2 => .ok (.val o) L2
        | none => .bad
      | .exc x (_ :: os) => match back p.2 os L1 with
        | some L2 => .exc x L2
        | none => .bad
      | _ => .bad) := h
    cases ef : fn (.oobj C [] :: p.1) with
    | bad => rw [ef] at h1; exact h1.elim
    | ok w os =>
      rw [ef] at h1
      dsimp only at h1 ⊢
      intro v F' H' asv aso g4 rv ro
      obtain ⟨o, os', a1, a2, eo, eas, rob, ro'⟩ := ro
      subst eo eas
      cases w with
      | frz d => cases d with
        | non =>
          refine ⟨rv.1, ?_⟩
          dsimp only at h1
          cases eb : back p.2 os' L1 with
          | none => rw [eb] at h1; exact h1.elim
          | some L2 =>
            rw [eb] at h1
            have g5 := g4.frame wf1
            have k5 := g4.kept wf1
            obtain ⟨as2, k2, s2⟩ := back_ok (SRel.frame g4.ext (Same.refl _) k5 s1') ir ro' eb
            refine h1 (.ref x) F' H' a1 as2 (gA.trans ((g5.sup fun p => by simp only [List.count_append, List.count_cons]; omega).sub fun p => ?_)) s2 rob
            have := k2 p
            simp only [List.count_append] at this ⊢
            omega
        | _ => exact h1.elim
      | _ => exact h1.elim
    | exc y os =>
      rw [ef] at h1
      dsimp only at h1 ⊢
      intro cls d F' H' aso g4 ro rx
      obtain ⟨o, os', a1, a2, eo, eas, rob, ro'⟩ := ro
      subst eo eas
      dsimp only at h1
      cases eb : back p.2 os' L1 with
      | none => rw [eb] at h1; exact h1.elim
      | some L2 =>
        rw [eb] at h1
        have g5 := g4.frame wf1
        have k5 := g4.kept wf1
        obtain ⟨as2, k2, s2⟩ := back_ok (SRel.frame g4.ext (Same.refl _) k5 s1') ir ro' eb
        refine h1 cls d F' H' as2 (gA.trans ((g5.sup fun p => by simp only [List.count_append, List.count_cons]; omega).sub fun p => ?_)) s2 rx
        have := k2 p
        simp only [List.count_append] at this ⊢
        omega
section
variable {X : Cx} {Wx : WX} {j k : Nat} {C f : Addr} {fd : FuncData} {ps : List Str} {fl : List Bool} {fn : Fn} {x : Str} {p pos : Pos} {e : Expr} {es : List Expr} {mr : M (List R)}
theorem be_make (c : Bd X Wx j) (MK : Mk X.K C f) (FO : FnOk X.prog X.w X.K X.mg X.base (L2.CX X.prog X.w) k f fd ps (spBV X.K (true :: fl) fn)) (hk : k + 1 ≤ j) (hm : X.mg x = some (.ref C)) (hb : Binds X.K fd ps [])
    (hg : Gl X x) (ha : PA X (e :: es) (bvA X.K Wx mr)) (hdb : (x == ("__debug__" : Str)) = false := by decide) (he : starEach (e :: es) X.env = (false, eval e X.env) :: starEach es X.env := by rfl) (hpl : (backTo pos (starEach es X.env)).any (·.1) = false := by rfl) :
    PE X (.Call (.Name x p) (e :: es) [] pos) (bvE X.K Wx (mMake C fl fn mr)) := by
  refine ⟨fun pins s σ H Q I ⟨F, B, L, as, wf, sr, h⟩ => wpAny_Call_Name_kw (ld_glob I hg hm ?_ hdb)⟩
  refine PySem.W.callWith_K (h₀ := X.base) I.ok.mod.kin MK.kp (thn (ha.run pos pins s σ H (fun vs H1 => ∀ y dy, H1 y = none → H1 dy = none → dy ≠ y → spBV X.K (true :: fl) fn (.ref y :: vs) (upd (upd H1 dy (.own y)) y (.ins C dy [])) (fun v H2 => v = .non ∧ Q (.ref y) H2) (fun cls d H' => Wx cls d σ H')) I
    ⟨F, B, L, as, wf, sr, (End.bind h).imp fun rs L1 h1 vs F1 H1 asr as1 g1 s1 r1 y dy n1 n2 n3 => ?_⟩) fun us s1 ⟨vs, H1, I1, r, q⟩ => ⟨I1.kIn, ?_⟩) he hpl
  · exact make_sp g1.wf s1 r1 (h1.behind g1 fun r L3 h3 v F' H' asr' as' g' s' r' => h3 v F' H' asr' as' (g1.trans g') s' r') n1 n2 n3
  · have hq := q (s1.heap.objs.size + 1) s1.heap.objs.size (I1.hok.fresh (Nat.le_succ _)) (I1.hok.fresh (Nat.le_refl _)) (Nat.ne_of_lt (Nat.lt_succ_self _))
    have J := Inv.made (C := C) I1
    have rv : Vals (V.ref (s1.heap.objs.size + 1) :: vs) (Value.ref (s1.heap.objs.size + 1) :: us) := .cons rfl r
    have hl : ((Value.ref (s1.heap.objs.size + 1) :: us) ++ []).length = ps.length := by
      rw [List.append_nil, ← Paired.length rv, FO.len _ _ _ _ hq]
    have hb' := hb _ (Value.ref (s1.heap.objs.size + 1) :: us) J.kIn hl
    rw [List.append_nil] at hb'
    refine wpAny_call (make_map (f := f) I1.kIn MK.makes MK.init (beq_iff_eq.mp MK.fn) (codeAny_mono (FO.run _ X.stack _ _ _ _ _ _ _ ((c.hr.mono hk).make C us []) (J.env0.make C us []) hb' rv hq) fun res s' hr => ?_))
    match res, hr with
    | .error ex, hr => exact passAt c.tk σ pins _ _ ex s' J hr
    | .ok (.ret u), hr =>
      obtain ⟨v, H', I3, rv3, ev, q3⟩ := J.after hr
      subst ev
      exact ⟨rv3, ⟨V.ref (s1.heap.objs.size + 1), H', I3, rfl, q3⟩⟩
    | .ok .next, hr => exact hr.elim
    | .ok .brk, hr => exact hr.elim
    | .ok .cont, hr => exact hr.elim
end
end BV

namespace BV
open PySem PySem.Spec PyProof.Rows L2

/-! ### what is walked: lists and tuples, ranges -/
def D.seq : D → Option (List D)
  | .lst ds => some ds
  | .lok ds => some ds
  | .tup ds => some ds
  | _ => none
/-- the items; an own list is frozen -/
def itemsOf (r : R) : M (List W) := fun L => match r with
  | .val (.brw d) => match d.seq with
    | some ds => .ok (ds.map mkB) L
    | none => .bad
  | r => (toF r L).bind fun d L2 => match d.seq with
    | some ds => .ok (ds.map .frz) L2
    | none => .bad
def mIter (m : M R) : M (List W) := fun L => (m L).bind itemsOf
def rSeq (K : PySem.W.Frag) (x : V) (R : It → Hp → Prop) (H : Hp) : Prop := ∃ a, x = .ref a ∧ (((∃ xs, SqL K H a xs) ∧ R (Itl K a) H) ∨ ((∃ xs, SqT K H a xs) ∧ R (Itt K a) H))
theorem repD_seq {K : PySem.W.Frag} {F : Hp} {d : D} {ds : List D} {v : V} (e : d.seq = some ds) (h : Rep K F d v) : ∃ a vs, v = .ref a ∧ (SqL K F a vs ∨ SqT K F a vs) ∧ Reps K F ds vs := by
  cases d with
  | lst xs => cases e; obtain ⟨a, vs, e1, q, r⟩ := h; exact ⟨a, vs, e1, .inl (.inl (.inl q)), r⟩
  | lok xs => cases e; obtain ⟨a, vs, e1, q, r⟩ := h; exact ⟨a, vs, e1, .inl q, r⟩
  | tup xs => cases e; obtain ⟨a, vs, e1, q, r⟩ := h; exact ⟨a, vs, e1, .inr q, r⟩
  | _ => cases e
theorem it_list {K : PySem.W.Frag} {F B G : Hp} {a : Addr} {ws : List W} {vs : List V} (hG : ∀ F1 H1 as1, Same F F1 → WF F1 B H1 as1 → Same G H1) (q : SqL K G a vs) (hl : ws.length = vs.length) (r : ∀ (i : Nat) w, ws[i]? = some w → ∃ v, vs[i]? = some v ∧ ∀ F1 H1, Same F F1 → RepW K F1 B H1 w v []) : ItOk K F B (Itl K a) ws := by
  intro i F1 H1 as1 sF wf
  have q1 : SqL K H1 a vs := (hG F1 H1 as1 sF wf).seq q
  refine ⟨fun w ew => ?_, fun hi => ⟨vs, q1, by omega⟩⟩
  obtain ⟨v, ev, rv⟩ := r i w ew
  refine ⟨⟨vs, v, q1, ev⟩, fun x H2 ⟨e2, hy⟩ => ?_⟩
  subst e2
  have := hy vs q1
  rw [ev] at this
  cases this
  exact ⟨F1, [], Go.refl wf, fun _ _ _ h => h, rv F1 H2 sF⟩
theorem it_tup {K : PySem.W.Frag} {F B G : Hp} {a : Addr} {ws : List W} {vs : List V} (hG : ∀ F1 H1 as1, Same F F1 → WF F1 B H1 as1 → Same G H1) (q : SqT K G a vs) (hl : ws.length = vs.length) (r : ∀ (i : Nat) w, ws[i]? = some w → ∃ v, vs[i]? = some v ∧ ∀ F1 H1, Same F F1 → RepW K F1 B H1 w v []) : ItOk K F B (Itt K a) ws := by
  intro i F1 H1 as1 sF wf
  have q1 : SqT K H1 a vs := sameSqT (hG F1 H1 as1 sF wf) q
  refine ⟨fun w ew => ?_, fun hi => ⟨vs, q1, by omega⟩⟩
  obtain ⟨v, ev, rv⟩ := r i w ew
  refine ⟨⟨vs, v, q1, ev⟩, fun x H2 ⟨e2, hy⟩ => ?_⟩
  subst e2
  have := hy vs q1
  rw [ev] at this
  cases this
  exact ⟨F1, [], Go.refl wf, fun _ _ _ h => h, rv F1 H2 sF⟩
theorem reps_get {K : PySem.W.Frag} {F : Hp} : ∀ {ds : List D} {vs : List V} {i : Nat} {d : D}, Reps K F ds vs → ds[i]? = some d → ∃ v, vs[i]? = some v ∧ Rep K F d v
  | [], _, _, _, _, h => by cases h
  | d :: ds, _, 0, _, ⟨v, r, e, h, t⟩, hi => by cases hi; exact ⟨v, by rw [e]; rfl, h⟩
  | d :: ds, _, i + 1, _, ⟨v, r, e, h, t⟩, hi => by
    obtain ⟨u, h1, h2⟩ := reps_get t (show ds[i]? = some _ from hi)
    exact ⟨u, by rw [e]; exact h1, h2⟩
/-- the sequence at a holds ws, whatever comes -/
def SeqIt (K : PySem.W.Frag) (F B : Hp) (a : Addr) (ws : List W) (vs : List V) : Prop :=
  ∃ G, (∀ F1 H1 as1, Same F F1 → WF F1 B H1 as1 → Same G H1) ∧ (SqL K G a vs ∨ SqT K G a vs) ∧ ws.length = vs.length ∧ ∀ (i : Nat) w, ws[i]? = some w → ∃ v, vs[i]? = some v ∧ ∀ F1 H1, Same F F1 → RepW K F1 B H1 w v []
/-- an expression's value handed to what walks it -/
theorem items_ok {K : PySem.W.Frag} {Wx : WX} {F B H : Hp} {as asr : List Addr} {σ : L2.St} {L : Lc} {r : R} {v : V} {p : List W → Lc → Prop} (wf : WF F B H (asr ++ as)) (s : SRel K F B H σ L as) (rr : RepR K F B H σ r v asr) (h : End K Wx F B H (asr ++ as) σ p (itemsOf r L)) :
    ∃ ws L' F' as', p ws L' ∧ Go F B H (asr ++ as) F' H as' ∧ SRel K F' B H σ L' as' ∧ ∃ a vs, v = .ref a ∧ SeqIt K F' B a ws vs := by
  have frzCase : ∀ {r : R}, RepR K F B H σ r v asr → End K Wx F B H (asr ++ as) σ p ((toF r L).bind fun d L2 => match d.seq with
      | some ds => .ok (ds.map .frz) L2
      | none => .bad) → ∃ ws L' F' as', p ws L' ∧ Go F B H (asr ++ as) F' H as' ∧ SRel K F' B H σ L' as' ∧ ∃ a vs, v = .ref a ∧ SeqIt K F' B a ws vs := fun {r} rr h => by
    obtain ⟨d, L2, e2, h2⟩ := toF_end (End.bind h)
    obtain ⟨F2, as2, g2, s2, q2⟩ := toF_ok wf s rr e2
    split at h2
    · rename_i ds ed
      obtain ⟨a, vs, e1, hq, rs⟩ := repD_seq ed q2
      have hl : (ds.map W.frz).length = vs.length := by rw [List.length_map, rs.len]
      have hr : ∀ (i : Nat) w, (ds.map W.frz)[i]? = some w → ∃ v, vs[i]? = some v ∧ ∀ F1 H1, Same F2 F1 → RepW K F1 B H1 w v [] := fun i w ew => by
        rw [List.getElem?_map] at ew
        obtain ⟨d, ed, rfl⟩ := map_some ew
        obtain ⟨v, ev, rv⟩ := reps_get rs ed
        exact ⟨v, ev, fun F1 H1 sF => ⟨rv.mono sF, rfl⟩⟩
      exact ⟨_, L2, F2, as2, h2, g2, s2, a, vs, e1, F2, fun F1 H1 as1 sF wf => sF.trans wf.f, hq, hl, hr⟩
    · exact h2.elim
  unfold itemsOf at h
  split at h
  · rename_i d
    obtain ⟨rd, rfl⟩ := rr
    split at h
    · rename_i ds ed
      obtain ⟨a, vs, e1, hq, rs⟩ := repD_seq ed rd
      have hl : (ds.map mkB).length = vs.length := by rw [List.length_map, rs.len]
      have hr : ∀ (i : Nat) w, (ds.map mkB)[i]? = some w → ∃ v, vs[i]? = some v ∧ ∀ F1 H1, Same F F1 → RepW K F1 B H1 w v [] := fun i w ew => by
        rw [List.getElem?_map] at ew
        obtain ⟨d, ed, rfl⟩ := map_some ew
        obtain ⟨v, ev, rv⟩ := reps_get rs ed
        exact ⟨v, ev, fun F1 H1 sF => repW_mkB rv⟩
      exact ⟨_, L, F, as, h, Go.refl wf, s, a, vs, e1, B, fun F1 H1 as1 sF wf => wf.b, hq, hl, hr⟩
    · exact h.elim
  · exact frzCase rr h
theorem iter_rel {K : PySem.W.Frag} {Wx : WX} {m : M R} : ∀ σ H R, bvI K Wx (mIter m) σ H R → bvE K Wx m σ H (fun x H1 => rSeq K x R H1) := fun σ H R ⟨F, B, L, as, wf, s, h⟩ => by
  refine ⟨F, B, L, as, wf, s, (End.bind h).imp fun r L1 h1 v F1 H1 asr as1 g1 s1 r1 => ?_⟩
  obtain ⟨ws, L2, F2, as2, h2, g2, s2, a, vs, ev, G, hG, hq, hl, hr⟩ := items_ok g1.wf s1 r1 (h1.behind g1 fun _ _ h => h)
  have sG := hG F2 H1 as2 (Same.refl _) g2.wf
  refine ⟨a, ev, ?_⟩
  rcases hq with q | q
  · exact .inl ⟨⟨vs, sG.seq q⟩, h2 _ F2 H1 as2 (g1.trans g2) s2 (it_list hG q hl hr)⟩
  · exact .inr ⟨⟨vs, sameSqT sG q⟩, h2 _ F2 H1 as2 (g1.trans g2) s2 (it_tup hG q hl hr)⟩
section
variable {X : Cx} {Wx : WX} {tg e : Expr} {m : M R}
theorem pi_seq {te : TE} (he : PE X e te) : PI X tg e (fun σ H R => te σ H fun x H1 => rSeq X.K x R H1) := by
  constructor
  intro pins s σ H R I h
  apply thn (he.run pins s σ H _ I h)
  rintro v s1 ⟨x, H1, J, rv, a, rfl, hh⟩
  cases rv
  have fp : ∀ b ∈ [s1.heap.objs.size], FpOk X pins H1 b := fun b hb => by
    obtain rfl : b = s1.heap.objs.size := by simpa using hb
    exact J.fpOk (Nat.le_refl _) (J.hok.fresh (Nat.le_refl _))
  rcases hh with ⟨⟨xs, hq⟩, q⟩ | ⟨⟨xs, hq⟩, q⟩
  · have ⟨its, rv, pl, hz⟩ := J.list hq
    apply wpAny_pyIter_list pl.isList
    exact ⟨_, _, _, _, H1, rfl, J.kept (t' := s1.toks) (fun b o e => Heap.get?_push_of_some _ e), turn_list a _, ⟨_, Heap.get?_push_size _ rfl, rfl, rfl⟩, fp, q⟩
  · have ⟨its, rv, pl, hz⟩ := J.tuple hq
    apply wpAny_pyIter_tuple (show s1.heap.IsTuple a its.toArray from pl)
    exact ⟨_, _, _, _, H1, rfl, J.kept (t' := s1.toks) (fun b o e => Heap.get?_push_of_some _ e), turn_tuple a _, ⟨_, Heap.get?_push_size _ rfl, rfl, rfl⟩, fp, q⟩
theorem pi_imp {t u : TI} (h : PI X tg e t) (q : ∀ σ H R, u σ H R → t σ H R) : PI X tg e u := ⟨fun pins s σ H R I w => h.run pins s σ H R I (q _ _ _ w)⟩
theorem bi_seq (he : PE X e (bvE X.K Wx m)) : PI X tg e (bvI X.K Wx (mIter m)) := pi_imp (pi_seq he) iter_rel
end
/-! ranges -/
def intsW (lo : Int) (n : Nat) : List W := (List.range n).map fun k => .frz (.int (lo + (k : Nat)))
def R.int? (L : Lc) (r : R) : Option Int := match r with
  | .val (.frz (.int i)) => some i
  | _ => none
def mRange1 (m : M (List R)) : M (List W) := fun L => (m L).bind fun rs L1 => match rs with
  | [.val (.frz (.int j))] => if -(2 ^ 62) ≤ j ∧ j < 2 ^ 62 then .ok (intsW 0 j.toNat) L1 else .bad
  | _ => .bad
def mRange2 (m : M (List R)) : M (List W) := fun L => (m L).bind fun rs L1 => match rs with
  | [.val (.frz (.int i)), .val (.frz (.int j))] => if -(2 ^ 62) ≤ i ∧ i < 2 ^ 62 ∧ -(2 ^ 62) ≤ j ∧ j < 2 ^ 62 then .ok (intsW i (j - i).toNat) L1 else .bad
  | _ => .bad
theorem it_range {K : PySem.W.Frag} {F B : Hp} {lo : Int} {n : Nat} : ItOk K F B (Itr lo n) (intsW lo n) := by
  intro i F1 H1 as1 sF wf
  unfold intsW
  refine ⟨fun w ew => ?_, fun hi => by rw [List.length_map, List.length_range] at hi; exact Nat.le_of_eq hi.symm⟩
  rw [List.getElem?_map] at ew
  obtain ⟨k, ek, rfl⟩ := map_some ew
  obtain ⟨hk, e2⟩ := List.getElem?_eq_some_iff.mp ek
  rw [List.getElem_range] at e2
  subst e2
  rw [List.length_range] at hk
  refine ⟨hk, fun x H2 ⟨e2, ex⟩ => ?_⟩
  subst e2
  exact ⟨F1, [], Go.refl wf, fun _ _ _ h => h, ex, rfl⟩
section
variable {X : Cx} {Wx : WX} {tg a b : Expr} {m : M (List R)} {p pos : Pos}
theorem bi_range1 (hg : Gl X "range") (hm : X.mg "range" = none) (ha : PA X [a] (bvA X.K Wx m)) (hs : starEach [a] X.env = [(false, eval a X.env)] := by rfl) : PI X tg (.Call (.Name "range" p) [a] [] pos) (bvI X.K Wx (mRange1 m)) := by
  refine pi_imp (pi_range1 hg hm ha hs) fun σ H R ⟨F, B, L, as, wf, s, h⟩ => ?_
  refine ⟨F, B, L, as, wf, s, (End.bind h).imp fun rs L1 h1 vs F1 H1 asr as1 g1 s1 r1 => ?_⟩
  split at h1
  · rename_i j
    obtain ⟨hc, h2⟩ := of_ite h1
    obtain ⟨v, t, a1, a2, ev, ea, ⟨rv, _⟩, et, _⟩ := r1
    subst ev et
    exact ⟨j, by rw [show v = .int j from rv], hc.1, hc.2, h2 _ F1 H1 as1 (g1.sub (le_r _ _)) s1 it_range⟩
  · exact h1.elim
theorem bi_range2 (hg : Gl X "range") (hm : X.mg "range" = none) (ha : PA X [a, b] (bvA X.K Wx m)) (hs : starEach [a, b] X.env = [(false, eval a X.env), (false, eval b X.env)] := by rfl) (hs2 : starEach [b] X.env = [(false, eval b X.env)] := by rfl) :
    PI X tg (.Call (.Name "range" p) [a, b] [] pos) (bvI X.K Wx (mRange2 m)) := by
  refine pi_imp (pi_range2 hg hm ha hs hs2) fun σ H R ⟨F, B, L, as, wf, s, h⟩ => ?_
  refine ⟨F, B, L, as, wf, s, (End.bind h).imp fun rs L1 h1 vs F1 H1 asr as1 g1 s1 r1 => ?_⟩
  split at h1
  · rename_i i j
    obtain ⟨hc, h2⟩ := of_ite h1
    obtain ⟨v, t, a1, a2, ev, ea, ⟨rv, _⟩, u, t2, b1, b2, eu, eb, ⟨ru, _⟩, et, _⟩ := r1
    subst ev eu et
    exact ⟨i, j, by rw [show v = .int i from rv, show u = .int j from ru], hc, h2 _ F1 H1 as1 (g1.sub (le_r _ _)) s1 it_range⟩
  · exact h1.elim
end

/-! ### list comprehensions -/
def wipeL (L : Lc) : List Nat → Lc
  | [] => L
  | v :: vs => (wipeL L vs).set v none
/-- kp: what the element makes stays its own -/
def toW (kp : Bool) (r : R) : M W := fun L => match kp, r with
  | true, .val w => .ok w L
  | _, r => (toF r L).bind fun d L1 => .ok (.frz d) L1
def lcL (kp : Bool) (vs : List Nat) (g : MG) (mt : M Bool) (me : M R) : List W → Lc → List W → Option (List W × Lc)
  | [], L, acc => some (acc, L)
  | w :: ws, L, acc => match g (.val w) L with
    | .next L1 => match mt L1 with
      | .ok true L2 => match me L2 with
        | .ok r L3 => match toW kp r L3 with
          | .ok u L4 => if acc.length < sizeLine then lcL kp vs g mt me ws (wipeL L4 vs) (acc ++ [u]) else none
          | _ => none
        | _ => none
      | .ok false L2 => lcL kp vs g mt me ws (wipeL L2 vs) acc
      | _ => none
    | _ => none
/-- fl: the slots that are none of the block's own -/
def mLc (kp : Bool) (fl : List Bool) (vs : List Nat) (mi : M (List W)) (g : MG) (mt : M Bool) (me : M R) : M R := fun L => (mi L).bind fun ws L1 =>
  if L1.length = fl.length ∧ (List.range fl.length).all (fun j => decide (j ∈ vs) || fl[j]? == some true) = true then match lcL kp vs g mt me ws (wipeL L1 vs) [] with
    | some (acc, L2) => .ok (.val (.olst acc)) L2
    | none => .bad
  else .bad
def mYes : M Bool := fun L => .ok true L
section
variable {K : PySem.W.Frag} {F B H : Hp}
theorem srel_wipe : ∀ {vs : List Nat} {σ : L2.St} {L : Lc} {as : List Addr}, SRel K F B H σ L as → ∃ as', (∀ p, List.count p as' ≤ List.count p as) ∧ SRel K F B H (wipe σ vs) (wipeL L vs) as'
  | [], _, _, as, s => ⟨as, fun _ => Nat.le_refl _, s⟩
  | v :: vs, σ, L, as, s => by
    obtain ⟨as1, k1, s1⟩ := srel_wipe (vs := vs) s
    unfold wipe wipeL
    by_cases hv : v < (wipeL L vs).length
    · obtain ⟨s', pre, a1, post, h1, h2, ea, k⟩ := SRel.at s1 (List.getElem?_eq_getElem hv)
      subst ea
      refine ⟨pre ++ ([] ++ post), fun p => ?_, k F B H none none [] (Same.refl _) (Same.refl _) (fun _ _ _ z => z) rfl⟩
      have := k1 p
      simp only [List.count_append, List.count_nil] at this ⊢
      omega
    · have hl := s1.len
      refine ⟨as1, k1, ?_⟩
      rw [List.set_eq_of_length_le (show (wipe σ vs).length ≤ v by omega), List.set_eq_of_length_le (show (wipeL L vs).length ≤ v by omega)]
      exact s1
theorem wipeL_none {L : Lc} {j : Nat} : ∀ {vs : List Nat}, j ∈ vs → j < L.length → (wipeL L vs)[j]? = some none
  | [], h, _ => by cases h
  | v :: vs, h, hj => by
    have hlen : ∀ (L : Lc) (vs : List Nat), (wipeL L vs).length = L.length := by
      intro L vs
      induction vs with
      | nil => rfl
      | cons v vs ih => unfold wipeL; rw [List.length_set, ih]
    unfold wipeL
    by_cases e : v = j
    · subst e
      rw [List.getElem?_set_self (by rw [hlen]; exact hj)]
    · rw [List.getElem?_set_ne e]
      rcases List.mem_cons.mp h with z | z
      · exact absurd z.symm e
      · exact wipeL_none z hj
theorem wipeL_len (L : Lc) : ∀ vs, (wipeL L vs).length = L.length
  | [] => rfl
  | v :: vs => by unfold wipeL; rw [List.length_set, wipeL_len L vs]
theorem wipe_ne {σ : L2.St} {j : Nat} : ∀ {vs : List Nat}, j ∉ vs → (wipe σ vs)[j]? = σ[j]?
  | [], _ => rfl
  | v :: vs, h => by
    unfold wipe
    rw [List.getElem?_set_ne (fun e => h (by rw [e]; exact List.mem_cons_self ..))]
    exact wipe_ne fun z => h (List.mem_cons_of_mem _ z)
theorem wipe_in {σ : L2.St} {j : Nat} : ∀ {vs : List Nat}, j ∈ vs → j < σ.length → (wipe σ vs)[j]? = some none
  | [], h, _ => by cases h
  | v :: vs, h, hj => by
    unfold wipe
    by_cases e : v = j
    · subst e; rw [List.getElem?_set_self (by rw [wipe_length]; exact hj)]
    · rw [List.getElem?_set_ne e]
      rcases List.mem_cons.mp h with z | z
      · exact absurd z.symm e
      · exact wipe_in z hj
/-- other values where the reading knows nothing -/
theorem srel_other : ∀ {L : Lc} {σ σ' : L2.St} {as : List Addr}, SRel K F B H σ L as → σ'.length = σ.length → (∀ j : Nat, j < L.length → L[j]? = some none ∨ σ'[j]? = σ[j]?) → SRel K F B H σ' L as
  | [], σ, σ', as, ⟨e1, e2⟩, hl, _ => by
    subst e1 e2
    cases σ' with
    | nil => exact ⟨rfl, rfl⟩
    | cons _ _ => cases hl
  | o :: L, σ, σ', as, ⟨s, r, a1, a2, e1, ea, h, t⟩, hl, hj => by
    subst e1 ea
    cases σ' with
    | nil => cases hl
    | cons s' r' =>
      refine ⟨s', r', a1, a2, rfl, rfl, ?_, srel_other t (Nat.succ.inj hl) fun j hlt => hj (j + 1) (Nat.succ_lt_succ hlt)⟩
      rcases hj 0 (Nat.succ_pos _) with z | z
      · cases z; exact h
      · have : s' = s := by simpa using z
        rw [this]; exact h
theorem RepWs.snoc {ws : List W} {vs : List V} {as bs : List Addr} {w : W} {v : V} (h : RepWs K F B H ws vs as) (q : RepW K F B H w v bs) : RepWs K F B H (ws ++ [w]) (vs ++ [v]) (as ++ bs) := by
  induction ws generalizing vs as with
  | nil =>
    obtain ⟨rfl, rfl⟩ := h
    exact ⟨v, [], bs, [], rfl, by simp, q, rfl, rfl⟩
  | cons u ws ih =>
    obtain ⟨x, r, a1, a2, rfl, rfl, h1, t⟩ := h
    exact ⟨x, r ++ [v], a1, a2 ++ bs, rfl, by rw [List.append_assoc], h1, ih t⟩
end
theorem toW_ok {K : PySem.W.Frag} {kp : Bool} {F B H : Hp} {as asr : List Addr} {σ : L2.St} {L L' : Lc} {r : R} {v : V} {u : W} (wf : WF F B H (asr ++ as)) (s : SRel K F B H σ L as) (rr : RepR K F B H σ r v asr) (e : toW kp r L = .ok u L') :
    ∃ F' bs as', Go F B H (asr ++ as) F' H (bs ++ as') ∧ SRel K F' B H σ L' as' ∧ RepW K F' B H u v bs := by
  unfold toW at e
  split at e
  · cases e
    exact ⟨F, asr, as, Go.refl wf, s, rr⟩
  · obtain ⟨d, L1, e1, e2⟩ := bind_ok e
    cases e2
    obtain ⟨F', as', g, s', q⟩ := toF_ok wf s rr e1
    exact ⟨F', [], as', g, s', q, rfl⟩
theorem end_opt {K : PySem.W.Frag} {Wx : WX} {F B H : Hp} {as : List Addr} {σ : L2.St} {p : R → Lc → Prop} {o : Option (List W × Lc)} (h : End K Wx F B H as σ p (match o with
    | some (acc, L2) => .ok (.val (.olst acc)) L2
    | none => .bad)) : ∃ acc L2, o = some (acc, L2) ∧ p (.val (.olst acc)) L2 := by
  cases o with
  | none => exact h.elim
  | some q => exact ⟨q.1, q.2, rfl, h⟩
abbrev W0 : WX := fun _ _ _ _ => False
theorem lc_rel {K : PySem.W.Frag} {Wx : WX} {kp : Bool} {fl : List Bool} {vs : List Nat} {mi : M (List W)} {g : MG} {mt : M Bool} {me : M R} : ∀ σ H Q, bvE K Wx (mLc kp fl vs mi g mt me) σ H Q → tLc (bvI K Wx mi) (bvG K fl g) (bvT K W0 mt) (bvE K W0 me) vs σ H Q := fun σ H Q ⟨F, B, L, as, wf, s, h⟩ => by
  refine ⟨F, B, L, as, wf, s, (End.bind h).imp fun ws L1 h1 J F1 H1 as1 g1 s1 ij A nA => ?_⟩
  by_cases hc : L1.length = fl.length ∧ (List.range fl.length).all (fun j => decide (j ∈ vs) || fl[j]? == some true) = true
  · rw [if_pos hc] at h1
    obtain ⟨acc, L2, el, hQ⟩ := end_opt h1
    obtain ⟨hlen, hfl⟩ := hc
    have hpin : ∀ j : Nat, j < fl.length → j ∉ vs → fl[j]? = some true := fun j hj hn => by
      have := List.all_eq_true.mp hfl j (List.mem_range.mpr hj)
      rcases Bool.or_eq_true _ _ ▸ this with z | z
      · exact absurd (of_decide_eq_true z) hn
      · exact beq_iff_eq.mp z
    have hσ := s1.len
    obtain ⟨as2, k2, s2⟩ := srel_wipe (vs := vs) s1
    have gA := Go.alloc g1.wf nA (.lst [])
    have s2' := SRel.frame (H' := upd H1 A (.lst [])) (Same.refl F1) (Same.refl B) (fun q _ o e => by rw [upd_ne (fun z => by rw [z, nA] at e; cases e)]; exact e) s2
    refine ⟨fun i m H' => m = ws.length - i ∧ i ≤ ws.length ∧ ∃ F2 L2' as2 acc' xs bs, Go F B H as F2 H' ((A :: bs) ++ as2) ∧ Same F1 F2 ∧ SRel K F2 B H' (wipe σ vs) L2' as2 ∧ (∀ j : Nat, j ∈ vs → j < L2'.length → L2'[j]? = some none) ∧ H' A = some (.lst xs) ∧ RepWs K F2 B H' acc' xs bs ∧ lcL kp vs g mt me (ws.drop i) L2' acc' = some (acc, L2),
      ⟨ws.length, by omega, Nat.zero_le _, F1, wipeL L1 vs, as2, [], [], [], (g1.trans gA).sub fun p => by have := k2 p; simp only [List.cons_append, List.nil_append, List.count_cons]; omega, Same.refl _, s2', fun j hj hlt => wipeL_none hj (by rw [wipeL_len] at hlt; exact hlt), upd_same, ⟨rfl, rfl⟩, el⟩, ?_⟩
    rintro i m H' ⟨rfl, hi, F2, L2', as2, acc', xs, bs, g2, sF, s2, hno, eA, ra, el⟩
    have wf2 := g2.wf
    obtain ⟨it1, it2⟩ := ij i F2 H' _ sF wf2
    cases ei : ws[i]? with
    | none =>
      have hl : ws.length ≤ i := List.getElem?_eq_none_iff.mp ei
      rw [List.drop_eq_nil_of_le hl] at el
      have el' : some (acc', L2') = some (acc, L2) := el
      cases el'
      refine .inl ⟨it2 (by omega), ?_⟩
      have s3 : SRel K F2 B H' σ L2 as2 := srel_other s2 (by rw [wipe_length]) fun j hj => by
        by_cases z : j ∈ vs
        · exact .inl (hno j z hj)
        · exact .inr (wipe_ne z).symm
      exact hQ (.ref A) F2 H' (A :: bs) as2 g2 s3 ⟨A, xs, bs, rfl, eA, rfl, ra⟩
    | some w =>
      have hlt : i < ws.length := (List.getElem?_eq_some_iff.mp ei).1
      obtain ⟨go, yl⟩ := it1 w ei
      rw [drop_cons ei] at el
      unfold lcL at el
      refine .inr ⟨go, fun H3 => ∃ F3 L3 as3 acc3 xs3 bs3, Go F B H as F3 H3 ((A :: bs3) ++ as3) ∧ Same F1 F3 ∧ SRel K F3 B H3 (wipe σ vs) L3 as3 ∧ (∀ j : Nat, j ∈ vs → j < L3.length → L3[j]? = some none) ∧ H3 A = some (.lst xs3) ∧ RepWs K F3 B H3 acc3 xs3 bs3 ∧ lcL kp vs g mt me (ws.drop (i + 1)) L3 acc3 = some (acc, L2),
        fun H3 ⟨F3, L3, as3, acc3, xs3, bs3, q⟩ => ⟨_, by omega, rfl, hlt, F3, L3, as3, acc3, xs3, bs3, q⟩, fun x H3 hy => ?_⟩
      obtain ⟨F3, asx, g3, k3, r3⟩ := yl x H3 hy
      have s3 : SRel K F3 B H3 (wipe σ vs) L2' as2 := SRel.frame g3.ext (Same.refl _) k3.r s2
      have ra3 : RepWs K F3 B H3 acc' xs bs := RepWs.frame g3.ext (Same.refl _) k3.l.t ra
      have eA3 : H3 A = some (.lst xs) := k3.l.h eA
      cases eg : g (.val w) L2' with
      | next L3 =>
        rw [eg] at el
        dsimp only at el
        refine ⟨F3, B, L2', as2, asx, .val w, g3.wf.sub (fun p => by simp only [List.cons_append, List.count_append, List.count_cons]; omega), s3, r3, ?_⟩
        rw [eg]
        intro σ4 F4 H4 as4 g4 s4 p4
        have wf3 : WF F3 B H3 ((A :: bs) ++ (asx ++ as2)) := g3.wf.sub fun p => by simp only [List.cons_append, List.count_append, List.count_cons]; omega
        have fr4 := (g4.frame wf3).sup (as2 := asx ++ ((A :: bs) ++ as2)) fun p => by simp only [List.cons_append, List.count_append, List.count_cons]; omega
        have kf4 := g4.kept wf3
        have hwl : wipe σ4 vs = wipe σ vs := by
          apply List.ext_getElem?
          intro j
          have l4 : σ4.length = σ.length := by rw [p4.1, wipe_length]
          by_cases z : j ∈ vs
          · by_cases hj : j < σ.length
            · rw [wipe_in z (by omega), wipe_in z hj]
            · rw [List.getElem?_eq_none (by rw [wipe_length]; omega), List.getElem?_eq_none (by rw [wipe_length]; omega)]
          · rw [wipe_ne z, wipe_ne z]
            by_cases hj : j < fl.length
            · rw [p4.2 j (hpin j hj z), wipe_ne z]
            · rw [List.getElem?_eq_none (by omega), List.getElem?_eq_none (by omega)]
        refine ⟨hwl, F4, B, L3, as4, g4.wf, s4, ?_⟩
        have g34 : Go F B H as F4 H4 ((A :: bs) ++ as4) := (g2.trans g3).trans fr4
        have ra4 : RepWs K F4 B H4 acc' xs bs := RepWs.frame g4.ext (Same.refl _) kf4.t ra3
        have eA4 : H4 A = some (.lst xs) := kf4.h eA3
        have sF4 : Same F1 F4 := (sF.trans g3.ext).trans g4.ext
        -- the next turn
        have next : ∀ {F5 H5 : Hp} {as5 bs5 : List Addr} {L5 : Lc} {acc5 : List W} {xs5 : List V}, Go F B H as F5 H5 ((A :: bs5) ++ as5) → Same F1 F5 → SRel K F5 B H5 σ4 L5 as5 → H5 A = some (.lst xs5) → RepWs K F5 B H5 acc5 xs5 bs5 →
            lcL kp vs g mt me (ws.drop (i + 1)) (wipeL L5 vs) acc5 = some (acc, L2) → ∃ F3 L3 as3 acc3 xs3 bs3, Go F B H as F3 H5 ((A :: bs3) ++ as3) ∧ Same F1 F3 ∧ SRel K F3 B H5 (wipe σ vs) L3 as3 ∧ (∀ j : Nat, j ∈ vs → j < L3.length → L3[j]? = some none) ∧ H5 A = some (.lst xs3) ∧ RepWs K F3 B H5 acc3 xs3 bs3 ∧ lcL kp vs g mt me (ws.drop (i + 1)) L3 acc3 = some (acc, L2) := by
          intro F5 H5 as5 bs5 L5 acc5 xs5 g5 sF5 s5 e5 r5 el5
          obtain ⟨as6, k6, s6⟩ := srel_wipe (vs := vs) s5
          rw [hwl] at s6
          exact ⟨F5, wipeL L5 vs, as6, acc5, xs5, bs5, g5.sub fun p => by have := k6 p; simp only [List.count_append]; omega, sF5, s6, fun j hj hlt => wipeL_none hj (by rw [wipeL_len] at hlt; exact hlt), e5, r5, el5⟩
        cases et : mt L3 with
        | bad => rw [et] at el; cases el
        | exc y L4 => rw [et] at el; cases el
        | ok k L4 =>
          rw [et] at el
          intro F5 H5 as5 g5 s5
          have g4f := g5.frame fr4.wf
          have k4f := g5.kept fr4.wf
          have g35 := g34.trans g4f
          have ra5 : RepWs K F5 B H5 acc' xs bs := RepWs.frame g5.ext (Same.refl _) k4f.t ra4
          have eA5 : H5 A = some (.lst xs) := k4f.h eA4
          cases k with
          | false => exact iteF (next g35 (sF4.trans g5.ext) s5 eA5 ra5 el)
          | true =>
            dsimp only at el
            refine iteT ⟨F5, B, L4, as5, g5.wf, s5, ?_⟩
            cases em : me L4 with
            | bad => rw [em] at el; cases el
            | exc y L5 => rw [em] at el; cases el
            | ok r L5 =>
              rw [em] at el
              dsimp only at el
              intro yv F6 H6 asr as6 g6 s6 r6
              have g5f := g6.frame g4f.wf
              have k5f := g6.kept g4f.wf
              have g36 := g35.trans g5f
              have ra6 : RepWs K F6 B H6 acc' xs bs := RepWs.frame g6.ext (Same.refl _) k5f.t ra5
              have eA6 : H6 A = some (.lst xs) := k5f.h eA5
              cases ew : toW kp r L5 with
              | bad => rw [ew] at el; cases el
              | exc y L6 => rw [ew] at el; cases el
              | ok u L6 =>
                rw [ew] at el
                dsimp only at el
                split at el
                · rename_i hsz
                  obtain ⟨F7, bs7, as7, g7, s7, r7⟩ := toW_ok g6.wf s6 r6 ew
                  have g6f := g7.frame g5f.wf
                  have k6f := g7.kept g5f.wf
                  have g37 := g36.trans g6f
                  have ra7 : RepWs K F7 B H6 acc' xs bs := RepWs.frame g7.ext (Same.refl _) k6f.t ra6
                  have hA : In A ((A :: bs) ++ (bs7 ++ as7)) := in_h
                  have gW := Go.write g37.wf hA (.lst (xs ++ [yv]))
                  have nA7 : ∀ (l : List Addr), (∀ p, List.count p (A :: l) ≤ List.count p ((A :: bs) ++ (bs7 ++ as7))) → Kept l H6 (upd H6 A (.lst (xs ++ [yv]))) := fun l hl p ip o e => by
                    have h1 := g37.wf.nd p
                    have h2 := hl p
                    rw [upd_ne (fun z => by
                      subst z
                      rw [List.count_cons_self] at h2
                      have ip' : 0 < List.count p l := ip
                      omega)]
                    exact e
                  refine ⟨xs, eA6, by rw [ra7.len]; exact hsz, next (bs5 := bs ++ bs7) (as5 := as7) ((g37.trans gW).sub fun p => by simp only [List.cons_append, List.count_append, List.count_cons]; omega) (((sF4.trans g5.ext).trans g6.ext).trans g7.ext) (SRel.frame (Same.refl _) (Same.refl _) (nA7 as7 fun p => by simp only [List.cons_append, List.count_append, List.count_cons]; omega) s7) upd_same
                    (RepWs.snoc (RepWs.frame (Same.refl _) (Same.refl _) (nA7 bs fun p => by simp only [List.cons_append, List.count_append, List.count_cons]; omega) ra7) (RepW.frame (Same.refl _) (Same.refl _) (nA7 bs7 fun p => by simp only [List.cons_append, List.count_append, List.count_cons]; omega) r7)) el⟩
                · cases el
      | _ => rw [eg] at el; cases el
  · rw [if_neg hc] at h1
    exact h1.elim
end BV

namespace BV
open PySem PySem.Spec PyProof.Rows L2

/-! ### zip and enumerate over lists, tuples, texts -/
inductive Od where
  | lst (a : Addr) | tup (a : Addr) | str (x : Str)
def Od.val : Od → V
  | .lst a => .ref a
  | .tup a => .ref a
  | .str x => .str x
section
variable (K : PySem.W.Frag) (H : Hp)
def Od.len (n : Nat) : Od → Prop
  | .lst a => ∃ xs, SqL K H a xs ∧ xs.length = n
  | .tup a => ∃ xs, SqT K H a xs ∧ xs.length = n
  | .str x => x.cps.size = n
def Od.only (i : Nat) (v : V) : Od → Prop
  | .lst a => ∀ xs, SqL K H a xs → xs[i]? = some v
  | .tup a => ∀ xs, SqT K H a xs → xs[i]? = some v
  | .str x => ∃ c, x.cps[i]? = some c ∧ v = .str ⟨#[c]⟩
end
def Od.st (it : Addr) (i : Nat) (h : Heap) : Od → Prop
  | .lst a => h.IsListIter it a i
  | .tup a => h.IsTupleIter it a i
  | .str x => ∃ t, h.IsStrIter it (strIterType x) x t i
section
variable {X : Cx} {pins : List (Addr × Obj)} {σ : L2.St} {H : Hp} {s : Shared}
theorem base_ne (I : Inv X pins σ H s) {a b : Addr} {o : Obj} (hk : X.K.lookup a = some o) (f : FpOk X pins H b) : a ≠ b := fun e => by
  subst e
  obtain ⟨_, _, _, f3, _, _⟩ := f
  have hb := I.ok.mod.kin a o hk
  rcases f3 with z | z
  · exact I.ok.noex a o hb z
  · exact absurd (Heap.lt_size (I.ok.bs a o hb).1) (Nat.not_lt.mpr z)
theorem sqL_ne (I : Inv X pins σ H s) {a b : Addr} {xs : List V} (q : SqL X.K H a xs) (f : FpOk X pins H b) : a ≠ b := by
  rcases q with (q | ⟨o, q⟩) | ⟨o, its, n, hk, _⟩
  · exact ne_of_none q f.1
  · exact ne_of_none q f.1
  · exact base_ne I hk f
theorem sqT_ne (I : Inv X pins σ H s) {a b : Addr} {xs : List V} (q : SqT X.K H a xs) (f : FpOk X pins H b) : a ≠ b := by
  rcases q with (q | ⟨o, q⟩) | ⟨o, its, n, hk, _⟩
  · exact ne_of_none q f.1
  · exact ne_of_none q f.1
  · exact base_ne I hk f
structure OdDraws (X : Cx) (pins : List (Addr × Obj)) (H : Hp) (h : Heap) (o : Od) (it : Addr) (n j : Nat) (fp : List Addr) (P : Nat → Value → Prop) (St : Nat → Heap → Prop) : Prop where
  mem : it ∈ fp
  apart : ∀ b ∈ fp, b = it ∨ ∀ c, FpOk X pins H c → b ≠ c
  draws : Draws X.prog X.w X.A.in1 it fp n P St
  now : St j h
  st : ∀ j h, St j h → o.st it j h
  val : ∀ i v, P i v → ∃ x, RelV x v ∧ o.only X.K H i x
theorem od_draws (I : Inv X pins σ H s) (hc : X.calm = true) {o : Od} {it : Addr} {n j : Nat} (hf : FpOk X pins H it) (hl : o.len X.K H n) (hs : o.st it j s.heap) : ∃ fp P St, OdDraws X pins H s.heap o it n j fp P St := by
  have hh : X.A.in1.handled = none := I.ok.hd hc
  cases o with
  | lst a =>
    obtain ⟨xs, q, hn⟩ := hl
    obtain ⟨its, rv, pl, _⟩ := I.list q
    have ne : a ≠ it := sqL_ne I q hf
    refine ⟨[it, a], fun i v => its.toArray[i]? = some v, fun i h => h.IsListIter it a i ∧ h.IsList a its.toArray, List.mem_cons_self .., fun b hb => ?_, by have D := Draws.list (prog := X.prog) (w := X.w) hh it a ne its.toArray; rw [List.size_toArray, ← rv.length, hn] at D; exact D, ⟨hs, pl.isList⟩, fun j h z => z.1, fun i v hv => ?_⟩
    · rcases List.mem_cons.mp hb with z | z
      · exact .inl z
      · rw [List.mem_singleton.mp z]; exact .inr fun c fc => sqL_ne I q fc
    · have hi : i < xs.length := by
        rw [rv.length]
        have := (Array.getElem?_eq_some_iff.mp hv).1
        simpa using this
      obtain ⟨u, hu, ru⟩ := rv.get (List.getElem?_eq_getElem hi)
      have : u = v := by
        have h2 : its[i]? = some v := by simpa using hv
        rw [hu] at h2
        exact Option.some.inj h2
      subst this
      exact ⟨_, ru, fun ys hy => by rw [I.list_inj hy q]; exact List.getElem?_eq_getElem hi⟩
  | tup a =>
    obtain ⟨xs, q, hn⟩ := hl
    obtain ⟨its, rv, pl, _⟩ := I.tuple q
    have ne : a ≠ it := sqT_ne I q hf
    refine ⟨[it, a], fun i v => its.toArray[i]? = some v, fun i h => h.IsTupleIter it a i ∧ h.IsTuple a its.toArray, List.mem_cons_self .., fun b hb => ?_, by have D := Draws.tuple (prog := X.prog) (w := X.w) hh it a ne its.toArray; rw [List.size_toArray, ← rv.length, hn] at D; exact D, ⟨hs, (show s.heap.IsTuple a its.toArray from pl)⟩, fun j h z => z.1, fun i v hv => ?_⟩
    · rcases List.mem_cons.mp hb with z | z
      · exact .inl z
      · rw [List.mem_singleton.mp z]; exact .inr fun c fc => sqT_ne I q fc
    · have hi : i < xs.length := by
        rw [rv.length]
        have := (Array.getElem?_eq_some_iff.mp hv).1
        simpa using this
      obtain ⟨u, hu, ru⟩ := rv.get (List.getElem?_eq_getElem hi)
      have : u = v := by
        have h2 : its[i]? = some v := by simpa using hv
        rw [hu] at h2
        exact Option.some.inj h2
      subst this
      exact ⟨_, ru, fun ys hy => by rw [I.tuple_inj hy q]; exact List.getElem?_eq_getElem hi⟩
  | str x =>
    obtain ⟨t, ht⟩ := hs
    have hn : x.cps.size = n := hl
    subst hn
    exact ⟨[it], fun i v => ∃ c u, x.cps[i]? = some c ∧ v = .str ⟨#[c]⟩ u, fun i h => h.IsStrIter it (strIterType x) x t i, List.mem_cons_self .., fun b hb => .inl (List.mem_singleton.mp hb), Draws.text hh it x t, ht, fun j h z => ⟨t, z⟩, fun i v ⟨c, u, hc, ev⟩ => ⟨.str ⟨#[c]⟩, ⟨u, ev⟩, c, hc, rfl⟩⟩
end
/-- the turns of zip -/
def ItZ (K : PySem.W.Frag) (o1 o2 : Od) : It :=
  ⟨fun i H => ∃ n1 n2, o1.len K H n1 ∧ o2.len K H n2 ∧ i < n1 ∧ i < n2, fun i H v H' => ∃ T x y, v = .ref T ∧ H T = none ∧ H' = upd H T (.tup [x, y]) ∧ o1.only K H i x ∧ o2.only K H i y, fun i H => ∃ n1 n2, o1.len K H n1 ∧ o2.len K H n2 ∧ i = min n1 n2⟩
/-- of enumerate -/
def ItE (K : PySem.W.Frag) (o : Od) : It :=
  ⟨fun i H => ∃ n, o.len K H n ∧ i < n, fun i H v H' => ∃ T x, v = .ref T ∧ H T = none ∧ H' = upd H T (.tup [.int (i : Nat), x]) ∧ o.only K H i x, fun i H => ∃ n, o.len K H n ∧ i = n⟩
theorem size_two : 2 ≤ sizeLine := by decide
theorem turn_z {P : Program} {w : World} {K : PySem.W.Frag} {elts : List Expr} {kk : Nat} {tpos : Pos} {o1 o2 : Od} {z TI TO i1 i2 : Addr} (hd : [z, TI, TO, i1, i2].Nodup) :
    Turn P w K (.Tuple elts kk tpos) (ItZ K o1 o2) [z, TI, TO, i1, i2] z (fun i h => IsZip h z TI TO .none ∧ IsTupOf2 h TI (.ref i1) (.ref i2) ∧ (∃ x y, IsTupOf2 h TO x y) ∧ o1.st i1 i h ∧ o2.st i2 i h) := by
  have sep : ∀ {X : Cx} {pins : List (Addr × Obj)} {H : Hp} {h : Heap} {n1 n2 j1 j2 : Nat} {fp1 fp2 : List Addr} {P1 P2 : Nat → Value → Prop} {S1 S2 : Nat → Heap → Prop}, (∀ b ∈ [z, TI, TO, i1, i2], FpOk X pins H b) → OdDraws X pins H h o1 i1 n1 j1 fp1 P1 S1 → OdDraws X pins H h o2 i2 n2 j2 fp2 P2 S2 → ZipSep2 z TI TO i1 i2 fp1 fp2 := by
    intro X pins H h n1 n2 j1 j2 fp1 fp2 P1 P2 S1 S2 hf D1 D2
    simp only [List.nodup_cons, List.mem_cons, List.not_mem_nil, or_false, not_or] at hd
    have nin : ∀ {fp : List Addr} {it c : Addr}, (∀ b ∈ fp, b = it ∨ ∀ c, FpOk X pins H c → b ≠ c) → c ≠ it → FpOk X pins H c → c ∉ fp := fun a ne f hm => by
      rcases a _ hm with e | e
      · exact ne e
      · exact e _ f rfl
    exact ⟨Ne.symm hd.1.1, Ne.symm hd.1.2.1, hd.2.1.1, hd.2.1.2.1, D1.mem, nin D1.apart hd.1.2.2.1 (hf _ (by simp)), nin D1.apart hd.2.2.1.1 (hf _ (by simp)), hd.2.1.2.2, D2.mem, nin D2.apart hd.1.2.2.2 (hf _ (by simp)), nin D2.apart hd.2.2.1.2 (hf _ (by simp)),
      nin D2.apart hd.2.2.2.1 (hf _ (by simp)), nin D1.apart (Ne.symm hd.2.2.2.1) (hf _ (by simp))⟩
  have live : ∀ {o : Od} {it : Addr} {i : Nat} {h : Heap}, o.st it i h → ∃ ob, h.get? it = some ob ∧ ∀ v, ob.data ≠ .cell v := by
    intro o it i h st
    cases o with
    | lst a => obtain ⟨ob, e, c, d⟩ := st; exact ⟨ob, e, fun v q => by rw [d] at q; cases q⟩
    | tup a => obtain ⟨ob, e, c, d⟩ := st; exact ⟨ob, e, fun v q => by rw [d] at q; cases q⟩
    | str x => obtain ⟨t, ob, e, c, d⟩ := st; exact ⟨ob, e, fun v q => by rw [d] at q; cases q⟩
  have stay : ∀ {o : Od} {it : Addr} {i : Nat} {h h' : Heap}, o.st it i h → (∀ ob, h.get? it = some ob → h'.get? it = some ob) → o.st it i h' := by
    intro o it i h h' st k
    cases o with
    | lst a => exact st.at k
    | tup a => exact st.at k
    | str x => obtain ⟨t, ob, e, c, d⟩ := st; exact ⟨t, ob, k ob e, c, d⟩
  constructor
  · simp
  · rintro i h ⟨hz, hTI, ⟨x, y, hTO⟩, h1, h2⟩ b hb
    have e' : b = z ∨ b = TI ∨ b = TO ∨ b = i1 ∨ b = i2 := by simpa using hb
    rcases e' with q | q | q | q | q <;> subst q
    · exact ⟨_, hz, fun v q => nomatch q⟩
    · exact ⟨_, hTI, fun v q => nomatch q⟩
    · exact ⟨_, hTO, fun v q => nomatch q⟩
    · exact live h1
    · exact live h2
  · rintro i h h' ⟨hz, hTI, ⟨x, y, hTO⟩, h1, h2⟩ k
    exact ⟨k z (by simp) _ hz, k TI (by simp) _ hTI, ⟨x, y, k TO (by simp) _ hTO⟩, stay h1 (k i1 (by simp)), stay h2 (k i2 (by simp))⟩
  · rintro X rfl rfl rfl hc i pins s σ H E I hf ⟨hz, hTI, hTO, h1, h2⟩ ⟨n1, n2, l1, l2, q1, q2⟩
    obtain ⟨fp1, P1, S1, D1⟩ := od_draws I hc (hf i1 (by simp)) l1 h1
    obtain ⟨fp2, P2, S2, D2⟩ := od_draws I hc (hf i2 (by simp)) l2 h2
    have G := GoesN.zip2 (elts := elts) (x1 := kk) (pos := tpos) (sep hf D1 D2) D1.draws D2.draws
    refine G.goes i s _ E (by omega) ⟨hz, hTI, hTO, D1.now, D2.now⟩ ?_
    rintro v h' tk ⟨T, u1, u2, rfl, hT, p1, p2, iT⟩ ⟨hz', hTI', hTO', st1, st2⟩ hk htk
    obtain ⟨x, rx, ox⟩ := D1.val i u1 p1
    obtain ⟨y, ry, oy⟩ := D2.val i u2 p2
    have new : ObjOk X.prog X.w (upd H T (.tup [x, y])) h' T (.tup [x, y]) := ⟨size_two, [u1, u2], .cons rx (.cons ry .nil), iT⟩
    have J : Inv X pins σ (upd H T (.tup [x, y])) { s with heap := h', toks := tk } := I.turnedNew (t' := tk) (ch := [z, TI, TO, i1, i2]) (fun c o hb q => hk c o (fun hm => hb (by
      have e' : c = z ∨ c = TO ∨ c = i1 ∨ c = i2 := by simpa using hm
      rcases e' with q | q | q | q <;> simp [q])) q) hf hT new
    have nT : H T = none := I.hok.fresh hT
    refine ⟨.ref T, _, J, rfl, ⟨T, x, y, rfl, nT, rfl, ox, oy⟩, ⟨hz', hTI', hTO', D1.st _ _ st1, D2.st _ _ st2⟩, fun b hb => ?_⟩
    rw [upd_ne]
    · exact (hf b hb).1
    · rintro rfl
      have lt : b < s.heap.objs.size := by
        have e' : b = z ∨ b = TI ∨ b = TO ∨ b = i1 ∨ b = i2 := by simpa using hb
        rcases e' with q | q | q | q | q <;> subst q
        · exact Heap.lt_size hz
        · exact Heap.lt_size hTI
        · obtain ⟨_, _, hTO⟩ := hTO; exact Heap.lt_size hTO
        · obtain ⟨_, e, _⟩ := live h1; exact Heap.lt_size e
        · obtain ⟨_, e, _⟩ := live h2; exact Heap.lt_size e
      exact absurd hT (Nat.not_le.mpr lt)
  · rintro X rfl rfl rfl hc i pins s σ H E I hf ⟨hz, hTI, hTO, h1, h2⟩ ⟨n1, n2, l1, l2, rfl⟩
    obtain ⟨fp1, P1, S1, D1⟩ := od_draws I hc (hf i1 (by simp)) l1 h1
    obtain ⟨fp2, P2, S2, D2⟩ := od_draws I hc (hf i2 (by simp)) l2 h2
    have G := GoesN.zip2 (elts := elts) (x1 := kk) (pos := tpos) (sep hf D1 D2) D1.draws D2.draws
    refine thn (G.stops s (fun s1 => Inv X pins σ H s1) E ⟨hz, hTI, hTO, D1.now, D2.now⟩ fun h' tk hk htk => I.turnedL (t' := tk) (ch := [z, TI, TO, i1, i2]) (fun c o hb q => hk c o (fun hm => hb (by
      have e' : c = z ∨ c = TO ∨ c = i1 ∨ c = i2 := by simpa using hm
      rcases e' with q | q | q | q <;> simp [q])) q) hf) fun r s1 q => q
  · rintro A i s Q E ⟨hz, _⟩ h
    exact wpAny_pyIter_zip hz h
theorem turn_e {P : Program} {w : World} {K : PySem.W.Frag} {elts : List Expr} {kk : Nat} {tpos : Pos} {o : Od} {e it : Addr} (hd : e ≠ it) :
    Turn P w K (.Tuple elts kk tpos) (ItE K o) [e, it] e (fun i h => (∃ old, IsEnum h e it (0 + (i : Int)) old) ∧ o.st it i h) := by
  have live : ∀ {i : Nat} {h : Heap}, o.st it i h → ∃ ob, h.get? it = some ob ∧ ∀ v, ob.data ≠ .cell v := by
    intro i h st
    cases o with
    | lst a => obtain ⟨ob, e, c, d⟩ := st; exact ⟨ob, e, fun v q => by rw [d] at q; cases q⟩
    | tup a => obtain ⟨ob, e, c, d⟩ := st; exact ⟨ob, e, fun v q => by rw [d] at q; cases q⟩
    | str x => obtain ⟨t, ob, e, c, d⟩ := st; exact ⟨ob, e, fun v q => by rw [d] at q; cases q⟩
  have stay : ∀ {i : Nat} {h h' : Heap}, o.st it i h → (∀ ob, h.get? it = some ob → h'.get? it = some ob) → o.st it i h' := by
    intro i h h' st k
    cases o with
    | lst a => exact st.at k
    | tup a => exact st.at k
    | str x => obtain ⟨t, ob, e, c, d⟩ := st; exact ⟨t, ob, k ob e, c, d⟩
  have nin : ∀ {X : Cx} {pins : List (Addr × Obj)} {H : Hp} {h : Heap} {n j : Nat} {fp : List Addr} {P1 : Nat → Value → Prop} {S1 : Nat → Heap → Prop}, FpOk X pins H e → OdDraws X pins H h o it n j fp P1 S1 → e ∉ fp := fun f D hm => by
    rcases D.apart _ hm with q | q
    · exact hd q
    · exact q _ f rfl
  constructor
  · simp
  · rintro i h ⟨⟨old, he⟩, h1⟩ b hb
    have e' : b = e ∨ b = it := by simpa using hb
    rcases e' with q | q <;> subst q
    · exact ⟨_, he, fun v q => nomatch q⟩
    · exact live h1
  · rintro i h h' ⟨⟨old, he⟩, h1⟩ k
    exact ⟨⟨old, k e (by simp) _ he⟩, stay h1 (k it (by simp))⟩
  · rintro X rfl rfl rfl hc i pins s σ H E I hf ⟨he, h1⟩ ⟨n, l1, q1⟩
    obtain ⟨fp, P1, S1, D⟩ := od_draws I hc (hf it (by simp)) l1 h1
    have G := GoesN.enumFrom (elts := elts) (x1 := kk) (pos := tpos) 0 D.draws e hd (nin (hf e (by simp)) D) D.mem
    refine G.goes i s _ E q1 ⟨he, D.now⟩ ?_
    rintro v h' tk ⟨T, t, u, rfl, hT, p1, iT⟩ ⟨he', st1⟩ hk htk
    obtain ⟨x, rx, ox⟩ := D.val i u p1
    have new : ObjOk X.prog X.w (upd H T (.tup [.int (i : Nat), x])) h' T (.tup [.int (i : Nat), x]) := ⟨size_two, [.int (0 + (i : Nat)) t, u], .cons ⟨t, by rw [Int.zero_add]⟩ (.cons rx .nil), iT⟩
    have J : Inv X pins σ (upd H T (.tup [.int (i : Nat), x])) { s with heap := h', toks := tk } := I.turnedNew (t' := tk) (ch := [e, it]) (fun c o hb q => hk c o hb q) hf hT new
    have nT : H T = none := I.hok.fresh hT
    refine ⟨.ref T, _, J, rfl, ⟨T, x, rfl, nT, rfl, ox⟩, ⟨by have := he'; exact this, D.st _ _ st1⟩, fun b hb => ?_⟩
    rw [upd_ne]
    · exact (hf b hb).1
    · rintro rfl
      have lt : b < s.heap.objs.size := by
        have e' : b = e ∨ b = it := by simpa using hb
        rcases e' with q | q <;> subst q
        · obtain ⟨_, he⟩ := he; exact Heap.lt_size he
        · obtain ⟨_, q, _⟩ := live h1; exact Heap.lt_size q
      exact absurd hT (Nat.not_le.mpr lt)
  · rintro X rfl rfl rfl hc i pins s σ H E I hf ⟨he, h1⟩ ⟨n, l1, rfl⟩
    obtain ⟨fp, P1, S1, D⟩ := od_draws I hc (hf it (by simp)) l1 h1
    have G := GoesN.enumFrom (elts := elts) (x1 := kk) (pos := tpos) 0 D.draws e hd (nin (hf e (by simp)) D) D.mem
    exact thn (G.stops s (fun s1 => Inv X pins σ H s1) E ⟨he, D.now⟩ fun h' tk hk htk => I.turnedL (t' := tk) (ch := [e, it]) (fun c o hb q => hk c o hb q) hf) fun r s1 q => q
  · rintro A i s Q E ⟨⟨old, he⟩, _⟩ h
    exact wpAny_pyIter_enum he h
/-! ### how they begin -/
theorem od_begins {X : Cx} {pins : List (Addr × Obj)} {σ : L2.St} {H : Hp} {s : Shared} (I : Inv X pins σ H s) {o : Od} {n : Nat} {u : Value} (hl : o.len X.K H n) (r : RelV o.val u) :
    ∃ (ob : Obj) (G : Heap → Prop), Begins u ob G ∧ G s.heap ∧ ∀ (h : Heap) (it : Addr), h.get? it = some ob → o.st it 0 h := by
  cases o with
  | lst a =>
    obtain ⟨xs, q, hn⟩ := hl
    obtain ⟨its, rv, pl, _⟩ := I.list q
    cases r
    exact ⟨_, _, begins_list a its.toArray, pl.isList, fun h it e => ⟨_, e, rfl, rfl⟩⟩
  | tup a =>
    obtain ⟨xs, q, hn⟩ := hl
    obtain ⟨its, rv, pl, _⟩ := I.tuple q
    cases r
    exact ⟨_, _, begins_tuple a its.toArray, (show s.heap.IsTuple a its.toArray from pl), fun h it e => ⟨_, e, rfl, rfl⟩⟩
  | str x =>
    obtain ⟨t, rfl⟩ := r
    exact ⟨_, _, begins_text x t, trivial, fun h it e => ⟨t, _, e, rfl, rfl⟩⟩
/-- enumerate(v): its two new cells -/
theorem meets_en1 {v : Value} {o : Obj} {G : Heap → Prop} (B : Begins v o G) : Meets (Builtin.«enumerate.__new__» ⟨[.type "enumerate", v], []⟩) (fun _ R s => G s.heap ∧ R (.ok (.ret (.ref (s.heap.push o).objs.size)))
    { s with heap := (s.heap.push o).push { cls := .type "enumerate", data := .fields #[.none, .bool false, .ref s.heap.objs.size, rawInt 0, .none, .none] } }) := by
  apply Meets.of_wp
  rintro prog w A R ⟨hp, gs, dr, tk, os⟩ ⟨hG, hR⟩
  have sub := sub_enumerate
  have it : ∀ {A' : Around} {E : Value → Shared → Prop} {Q : Value → Shared → Prop}, Q (.ref hp.objs.size) ⟨hp.push o, gs, dr, tk, os⟩ → wpAny (model prog w) A' (pyIter v) Q E ⟨hp, gs, dr, tk, os⟩ := fun q => B.iter prog w _ _ _ _ hG q
  wp_walk using it
  apply wpAny_stack_any
  intro st
  apply wpAny_pure
  split
  · rename_i c _ _ _ _ _
    cases (c == Value.type "enumerate") <;> (wp_walk using it; exact ⟨_, rfl, hR⟩)
  · wp_walk using it
    exact ⟨_, rfl, hR⟩
theorem en1_begins {prog : Program} {w : World} {A : Around} {E : Value → Shared → Prop} {s : Shared} {v : Value} {o : Obj} {G : Heap → Prop} {Q : Value → Shared → Prop} (B : Begins v o G) (hG : G s.heap)
    (h : ∀ h', IsEnum h' (s.heap.objs.size + 1) s.heap.objs.size 0 .none → h'.get? s.heap.objs.size = some o → (∀ b u, s.heap.get? b = some u → h'.get? b = some u) → Q (.ref (s.heap.objs.size + 1)) { s with heap := h' }) : wpAny (model prog w) A (call (.type "enumerate") [v]) Q E s := by
  apply callType_new F.called_enumerate (by decide) (F.typeCall_enumerate_1 _) (F.newCall_enumerate_1 _) (fun obj => F.args_object_init_2 obj _) F.entry_enumerate_new (meets_en1 B)
  refine ⟨hG, ?_⟩
  have sz : (s.heap.push o).objs.size = s.heap.objs.size + 1 := Heap.size_push ..
  show _ ∧ _
  rw [sz]
  have here : IsEnum ((s.heap.push o).push { cls := .type "enumerate", data := .fields #[.none, .bool false, .ref s.heap.objs.size, rawInt 0, .none, .none] }) (s.heap.objs.size + 1) s.heap.objs.size 0 .none := by
    have q := Heap.get?_push_size (s.heap.push o) (o := { cls := .type "enumerate", data := .fields #[.none, .bool false, .ref s.heap.objs.size, rawInt 0, .none, .none] }) rfl
    rw [sz] at q
    exact q
  exact ⟨⟨_, here, rfl⟩, h _ here (Heap.get?_push_of_some _ (Heap.get?_push_size _ B.free)) fun b u x => Heap.get?_push_of_some _ (Heap.get?_push_of_some _ x)⟩
def Od.isSeq : Od → Bool
  | .str _ => false
  | _ => true
def iZ (K : PySem.W.Frag) (ta : TA) : TI := fun σ H R => ta σ H fun vs H1 => ∃ o1 o2 n1 n2, vs = [o1.val, o2.val] ∧ o1.len K H1 n1 ∧ o2.len K H1 n2 ∧ R (ItZ K o1 o2) H1
def iE (K : PySem.W.Frag) (ta : TA) : TI := fun σ H R => ta σ H fun vs H1 => ∃ o n, vs = [o.val] ∧ o.isSeq = true ∧ o.len K H1 n ∧ R (ItE K o) H1
section
variable {X : Cx} {e e2 : Expr} {ta : TA} {p pos tpos : Pos} {elts : List Expr} {kk : Nat}
theorem pi_z (hg : Gl X "zip") (hm : X.mg "zip" = none) (ha : PA X [e, e2] ta) (hs : starEach [e, e2] X.env = (false, eval e X.env) :: starEach [e2] X.env := by rfl) (hpl : (backTo pos (starEach [e2] X.env)).any (·.1) = false := by rfl) :
    PI X (.Tuple elts kk tpos) (.Call (.Name "zip" p) [e, e2] [] pos) (iZ X.K ta) := by
  constructor
  intro pins s σ H R I h
  apply Call_ (ld_blt I hg hm PyProof.Rows.boot_zip (PyProof.Rows.callWith_type1 (thn (ha.run pos pins s σ H _ I h) ?_) hs hpl))
  rintro us s1 ⟨vs, H1, J, rv, o1, o2, n1, n2, rfl, l1, l2, q⟩
  cases rv with
  | cons r1 rr => cases rr with
    | cons r2 rr =>
      cases rr
      obtain ⟨b1, G1, B1, g1, t1⟩ := od_begins J l1 r1
      obtain ⟨b2, G2, B2, g2, t2⟩ := od_begins J l2 r2
      apply zip_begins2 B1 B2 g1 g2
      intro h' hz hTI hTO e1 e2 hsz hk
      apply wpAny_pyIter_zip hz
      have J2 : Inv X pins σ H1 { s1 with heap := h' } := J.kept (t' := s1.toks) hk
      generalize hN : s1.heap.objs.size = N at *
      refine ⟨N + 4, [N + 4, N + 2, N + 3, N, N + 1], _, _, H1, rfl, J2, turn_z (o1 := o1) (o2 := o2) ?_, ⟨hz, hTI, ⟨_, _, hTO⟩, t1 h' _ e1, t2 h' _ e2⟩, fun c hcm => ?_, q⟩
      · simp only [List.nodup_cons, List.mem_cons, List.not_mem_nil, or_false, not_or, List.nodup_nil, and_true, not_false_eq_true]
        exact ⟨⟨show (N + 4 : Nat) ≠ N + 2 by omega, show (N + 4 : Nat) ≠ N + 3 by omega, show (N + 4 : Nat) ≠ N by omega, show (N + 4 : Nat) ≠ N + 1 by omega⟩, ⟨show (N + 2 : Nat) ≠ N + 3 by omega, show (N + 2 : Nat) ≠ N by omega, show (N + 2 : Nat) ≠ N + 1 by omega⟩, ⟨show (N + 3 : Nat) ≠ N by omega, show (N + 3 : Nat) ≠ N + 1 by omega⟩, show (N : Nat) ≠ N + 1 by omega⟩
      · have hle : s1.heap.objs.size ≤ c := by
          rw [hN]
          have e' : c = N + 4 ∨ c = N + 2 ∨ c = N + 3 ∨ c = N ∨ c = N + 1 := by simpa using hcm
          rcases e' with z | z | z | z | z <;> subst z
          · exact Nat.le_add_right _ _
          · exact Nat.le_add_right _ _
          · exact Nat.le_add_right _ _
          · exact Nat.le_refl _
          · exact Nat.le_add_right _ _
        exact J.fpOk hle (J.hok.fresh hle)
theorem pi_e (hg : Gl X "enumerate") (hm : X.mg "enumerate" = none) (ha : PA X [e] ta) (hs : starEach [e] X.env = [(false, eval e X.env)] := by rfl) :
    PI X (.Tuple elts kk tpos) (.Call (.Name "enumerate" p) [e] [] pos) (iE X.K ta) := by
  constructor
  intro pins s σ H R I h
  apply Call_ (ld_blt I hg hm boot_enumerate (PyProof.Rows.callWith_type1 (thn (ha.run pos pins s σ H _ I h) ?_) hs rfl))
  rintro us s1 ⟨vs, H1, J, rv, o, n, rfl, hq, l1, q⟩
  cases rv with
  | cons r1 rr =>
    cases rr
    obtain ⟨b1, G1, B1, g1, t1⟩ := od_begins J l1 r1
    have done : ∀ h', IsEnum h' (s1.heap.objs.size + 1) s1.heap.objs.size 0 .none → o.st s1.heap.objs.size 0 h' → (∀ b o, s1.heap.get? b = some o → h'.get? b = some o) → wpAny (model X.prog X.w) X.A (pyIter (.ref (s1.heap.objs.size + 1))) (PIE X pins σ (.Tuple elts kk tpos) R) X.xe { s1 with heap := h' } := by
      intro h' he e1 hk
      apply wpAny_pyIter_enum he
      have J2 : Inv X pins σ H1 { s1 with heap := h' } := J.kept (t' := s1.toks) hk
      refine ⟨s1.heap.objs.size + 1, [s1.heap.objs.size + 1, s1.heap.objs.size], _, _, H1, rfl, J2, turn_e (o := o) (Nat.succ_ne_self _), ⟨⟨.none, he⟩, e1⟩, fun b hb => ?_, q⟩
      have hle : s1.heap.objs.size ≤ b := by
        have e' : b = s1.heap.objs.size + 1 ∨ b = s1.heap.objs.size := by simpa using hb
        rcases e' with z | z <;> subst z
        · exact Nat.le_add_right _ _
        · exact Nat.le_refl _
      exact J.fpOk hle (J.hok.fresh hle)
    exact en1_begins B1 g1 fun h' he hi hk => done h' he (t1 h' _ hi) hk
end
/-! ### by value -/
def pairW (a b : W) : W := match a, b with
  | .frz x, .frz y => .frz (.tup [x, y])
  | a, b => .otup [a, b]
def enumW (ws : List W) : List W := ws.mapIdx fun i w => pairW (.frz (.int (i : Nat))) w
def zipW (ws us : List W) : List W := List.zipWith pairW ws us
/-- a sequence; a text, sign by sign -/
def odItems (r : R) : M (List W) := fun L => match r with
  | .val (.frz (.str x)) => .ok (x.cps.toList.map fun c => .frz (.str ⟨#[c]⟩)) L
  | r => itemsOf r L
def isStr (r : R) : Bool := match r with
  | .val (.frz (.str _)) => true
  | _ => false
def mEnum (m : M (List R)) : M (List W) := fun L => (m L).bind fun rs L1 => match rs with
  | [r] => (itemsOf r L1).bind fun ws L2 => .ok (enumW ws) L2
  | _ => .bad
def mZip (m : M (List R)) : M (List W) := fun L => (m L).bind fun rs L1 => match rs with
  | [r, u] => (odItems r L1).bind fun ws L2 => (odItems u L2).bind fun us L3 => .ok (zipW ws us) L3
  | _ => .bad
/-- the operand's items -/
def OdIt (K : PySem.W.Frag) (F B : Hp) (o : Od) (ws : List W) : Prop := ∀ (F1 H1 : Hp) (as1 : List Addr), Same F F1 → WF F1 B H1 as1 → o.len K H1 ws.length ∧ ∀ (i : Nat) (w : W) (x : V), ws[i]? = some w → o.only K H1 i x → RepW K F1 B H1 w x []
theorem od_seq {K : PySem.W.Frag} {F B : Hp} {a : Addr} {ws : List W} {vs : List V} (h : SeqIt K F B a ws vs) : ∃ o : Od, o.val = .ref a ∧ o.isSeq = true ∧ OdIt K F B o ws := by
  obtain ⟨G, hG, hq, hl, hr⟩ := h
  rcases hq with q | q
  · refine ⟨.lst a, rfl, rfl, fun F1 H1 as1 sF wf => ?_⟩
    have q1 := (hG F1 H1 as1 sF wf).seq q
    refine ⟨⟨vs, q1, hl.symm⟩, fun i w x ew ho => ?_⟩
    obtain ⟨v, ev, rv⟩ := hr i w ew
    have := ho vs q1
    rw [ev] at this
    cases this
    exact rv F1 H1 sF
  · refine ⟨.tup a, rfl, rfl, fun F1 H1 as1 sF wf => ?_⟩
    have q1 := sameSqT (hG F1 H1 as1 sF wf) q
    refine ⟨⟨vs, q1, hl.symm⟩, fun i w x ew ho => ?_⟩
    obtain ⟨v, ev, rv⟩ := hr i w ew
    have := ho vs q1
    rw [ev] at this
    cases this
    exact rv F1 H1 sF
theorem OdIt.mono {K : PySem.W.Frag} {F F' B : Hp} {o : Od} {ws : List W} (h : OdIt K F B o ws) (s : Same F F') : OdIt K F' B o ws := fun F1 H1 as1 sF wf => h F1 H1 as1 (s.trans sF) wf
theorem od_str {K : PySem.W.Frag} {F B : Hp} {x : Str} : OdIt K F B (.str x) (x.cps.toList.map fun c => .frz (.str ⟨#[c]⟩)) := fun F1 H1 as1 sF wf => by
  refine ⟨by show x.cps.size = _; simp, fun i w v ew ⟨c, hc, ev⟩ => ?_⟩
  rw [List.getElem?_map] at ew
  obtain ⟨c', ec, rfl⟩ := map_some ew
  have : c' = c := by
    have h2 : x.cps.toList[i]? = some c := by simpa using hc
    rw [ec] at h2
    exact Option.some.inj h2
  subst this
  exact ⟨ev, rfl⟩
theorem od_items {K : PySem.W.Frag} {Wx : WX} {F B H : Hp} {as asr : List Addr} {σ : L2.St} {L : Lc} {r : R} {v : V} {p : List W → Lc → Prop} (wf : WF F B H (asr ++ as)) (s : SRel K F B H σ L as) (rr : RepR K F B H σ r v asr) (h : End K Wx F B H (asr ++ as) σ p (odItems r L)) :
    ∃ ws L' F' as', p ws L' ∧ Go F B H (asr ++ as) F' H as' ∧ SRel K F' B H σ L' as' ∧ ∃ o : Od, v = o.val ∧ OdIt K F' B o ws := by
  have seqCase : ∀ {r : R}, RepR K F B H σ r v asr → End K Wx F B H (asr ++ as) σ p (itemsOf r L) → ∃ ws L' F' as', p ws L' ∧ Go F B H (asr ++ as) F' H as' ∧ SRel K F' B H σ L' as' ∧ ∃ o : Od, v = o.val ∧ OdIt K F' B o ws := fun {r} rr h => by
    obtain ⟨ws, L2, F2, as2, h2, g2, s2, a, vs, ev, si⟩ := items_ok wf s rr h
    obtain ⟨o, eo, _, oi⟩ := od_seq si
    exact ⟨ws, L2, F2, as2, h2, g2, s2, o, by rw [eo]; exact ev, oi⟩
  unfold odItems at h
  split at h
  · rename_i x
    exact ⟨_, L, F, as, h, (Go.refl wf).sub (le_r _ _), s, .str x, rr.1, od_str⟩
  · exact seqCase rr h
/-- a new pair -/
theorem pair_ok {K : PySem.W.Frag} {F B H : Hp} {as : List Addr} {a b : W} {x y : V} {T : Addr} (wf : WF F B H as) (nT : H T = none) (ra : RepW K F B H a x []) (rb : RepW K F B H b y []) :
    ∃ F2 asx, Go F B H as F2 (upd H T (.tup [x, y])) (asx ++ as) ∧ Kept as H (upd H T (.tup [x, y])) ∧ RepW K F2 B (upd H T (.tup [x, y])) (pairW a b) (.ref T) asx := by
  have k : ∀ (l : List Addr), Kept l H (upd H T (.tup [x, y])) := fun l q _ o e => by rw [upd_ne (fun z => by rw [z, nT] at e; cases e)]; exact e
  have other : (pairW a b = .otup [a, b]) → ∃ F2 asx, Go F B H as F2 (upd H T (.tup [x, y])) (asx ++ as) ∧ Kept as H (upd H T (.tup [x, y])) ∧ RepW K F2 B (upd H T (.tup [x, y])) (pairW a b) (.ref T) asx := fun e => by
    rw [e]
    refine ⟨F, [T], Go.alloc wf nT _, k as, T, [x, y], [], rfl, upd_same, rfl, x, [y], [], [], rfl, rfl, RepW.frame (Same.refl _) (Same.refl _) (k []) ra, y, [], [], [], rfl, rfl, RepW.frame (Same.refl _) (Same.refl _) (k []) rb, rfl, rfl⟩
  cases a with
  | frz d1 => cases b with
    | frz d2 =>
      have g := Go.allocF wf nT (.tup [x, y])
      exact ⟨_, [], g, k as, ⟨T, [x, y], rfl, .inl (.inl upd_same), x, [y], rfl, ra.1.mono g.ext, y, [], rfl, rb.1.mono g.ext, rfl⟩, rfl⟩
    | _ => exact other rfl
  | _ => exact other rfl
theorem it_e {K : PySem.W.Frag} {F B : Hp} {o : Od} {ws : List W} (h : OdIt K F B o ws) : ItOk K F B (ItE K o) (enumW ws) := by
  intro i F1 H1 as1 sF wf
  obtain ⟨hl, ho⟩ := h F1 H1 as1 sF wf
  unfold enumW
  refine ⟨fun w ew => ?_, fun hi => ⟨_, hl, by rw [hi, List.length_mapIdx]⟩⟩
  rw [List.getElem?_mapIdx] at ew
  obtain ⟨u, eu, rfl⟩ := map_some ew
  refine ⟨⟨_, hl, (List.getElem?_eq_some_iff.mp eu).1⟩, ?_⟩
  rintro v H2 ⟨T, x, rfl, nT, rfl, hx⟩
  exact pair_ok wf nT ⟨rfl, rfl⟩ (ho i u x eu hx)
theorem it_z {K : PySem.W.Frag} {F B : Hp} {o1 o2 : Od} {ws us : List W} (h1 : OdIt K F B o1 ws) (h2 : OdIt K F B o2 us) : ItOk K F B (ItZ K o1 o2) (zipW ws us) := by
  intro i F1 H1 as1 sF wf
  obtain ⟨l1, q1⟩ := h1 F1 H1 as1 sF wf
  obtain ⟨l2, q2⟩ := h2 F1 H1 as1 sF wf
  unfold zipW
  refine ⟨fun w ew => ?_, fun hi => ⟨_, _, l1, l2, by rw [hi, List.length_zipWith]⟩⟩
  rw [List.getElem?_zipWith] at ew
  cases ea : ws[i]? with
  | none => rw [ea] at ew; cases ew
  | some a => cases eb : us[i]? with
    | none => rw [ea, eb] at ew; cases ew
    | some b =>
      rw [ea, eb] at ew
      cases ew
      refine ⟨⟨_, _, l1, l2, (List.getElem?_eq_some_iff.mp ea).1, (List.getElem?_eq_some_iff.mp eb).1⟩, ?_⟩
      rintro v H2 ⟨T, x, y, rfl, nT, rfl, hx, hy⟩
      exact pair_ok wf nT (q1 i a x ea hx) (q2 i b y eb hy)
section
variable {X : Cx} {Wx : WX} {e e2 : Expr} {m : M (List R)} {p pos tpos : Pos} {elts : List Expr} {kk : Nat}
theorem bi_enum (hg : Gl X "enumerate") (hm : X.mg "enumerate" = none) (ha : PA X [e] (bvA X.K Wx m)) (hs : starEach [e] X.env = [(false, eval e X.env)] := by rfl) :
    PI X (.Tuple elts kk tpos) (.Call (.Name "enumerate" p) [e] [] pos) (bvI X.K Wx (mEnum m)) := by
  refine pi_imp (pi_e hg hm ha hs) fun σ H R ⟨F, B, L, as, wf, s, h⟩ => ?_
  refine ⟨F, B, L, as, wf, s, (End.bind h).imp fun rs L1 h1 vs F1 H1 asr as1 g1 s1 r1 => ?_⟩
  split at h1
  · rename_i r
    obtain ⟨v, t, a1, a2, ev, ea, rv, et, ea2⟩ := r1
    subst ev et ea ea2
    rw [List.append_nil] at g1
    obtain ⟨ws, L2, F2, as2, h2, g2, s2, a, vs', ev, si⟩ := items_ok g1.wf s1 rv ((End.bind h1).behind g1 fun _ _ h => h)
    obtain ⟨o, eo, hq, oi⟩ := od_seq si
    exact ⟨o, ws.length, by rw [eo, ev], hq, (oi F2 H1 as2 (Same.refl _) g2.wf).1, (show ∀ J F' H' as', _ → _ → _ → R J H' from h2) _ F2 H1 as2 (g1.trans g2) s2 (it_e oi)⟩
  · exact h1.elim
theorem bi_zip (hg : Gl X "zip") (hm : X.mg "zip" = none) (ha : PA X [e, e2] (bvA X.K Wx m)) (hs : starEach [e, e2] X.env = (false, eval e X.env) :: starEach [e2] X.env := by rfl) (hpl : (backTo pos (starEach [e2] X.env)).any (·.1) = false := by rfl) :
    PI X (.Tuple elts kk tpos) (.Call (.Name "zip" p) [e, e2] [] pos) (bvI X.K Wx (mZip m)) := by
  refine pi_imp (pi_z hg hm ha hs hpl) fun σ H R ⟨F, B, L, as, wf, s, h⟩ => ?_
  refine ⟨F, B, L, as, wf, s, (End.bind h).imp fun rs L1 h1 vs F1 H1 asr as1 g1 s1 r1 => ?_⟩
  split at h1
  · rename_i r u
    obtain ⟨v, t, a1, a2, ev, ea, rv, v2, t2, b1, b2, ev2, eb, rv2, et, ea2⟩ := r1
    subst ev et ea ea2 ev2 eb
    rw [List.append_nil] at g1
    have g1' : Go F B H as F1 H1 (b1 ++ (a1 ++ as1)) := g1.sub fun p => by simp only [List.count_append]; omega
    have wfa : WF F1 B H1 (a1 ++ as1) := g1'.wf.sub (le_r _ _)
    obtain ⟨ws, L2, F2, as2, h2, g2, s2, o1, e1, oi1⟩ := od_items wfa s1 rv ((End.bind h1).behind (g1'.sub (le_r _ _)) fun _ _ h => h)
    have g2f := g2.frame g1'.wf
    have rv2' := rv2.frame g2.ext (g2.kept g1'.wf)
    obtain ⟨us, L3, F3, as3, h3, g3, s3, o2, e2', oi2⟩ := od_items g2f.wf s2 rv2' ((End.bind h2).behind (g1'.trans g2f) fun _ _ h => h)
    refine ⟨o1, o2, ws.length, us.length, by rw [e1, e2'], (oi1.mono g3.ext F3 H1 as3 (Same.refl _) g3.wf).1, (oi2 F3 H1 as3 (Same.refl _) g3.wf).1, ?_⟩
    exact (show ∀ J F' H' as', _ → _ → _ → R J H' from h3) _ F3 H1 as3 ((g1'.trans g2f).trans g3) s3 (it_z (oi1.mono g3.ext) oi2)
  · exact h1.elim
end
end BV

namespace BV
open PySem PySem.Spec PyProof.Rows L2

/-! ### arithmetic -/
section
variable {X : Cx}
/-- // by any divisor that is not too wide -/
def CDivX (_ j : Int) : Prop := j ≠ 0 ∧ j.natAbs.log2 < 9000
theorem op_fdivX : OpR X (binaryOp .FloorDiv) (rI CDivX fun i j => .int (i.fdiv j)) := opI fun i j _ _ _ _ _ hc q => floordiv_int hc.1 q (.inl (PyProof.noPylong_of_log2 hc.2))
end
def aAdd : R → R → M R := mkS (gI fun i j => some (.int (i + j)))
def aSub : R → R → M R := mkS (gI fun i j => some (.int (i - j)))
def aMul : R → R → M R := mkS (gI fun i j => if i.natAbs.log2 + j.natAbs.log2 < 1000000 then some (.int (i * j)) else none)
def aDiv : R → R → M R := mkS (gI fun i j => if j ≠ 0 ∧ j.natAbs.log2 < 9000 then some (.int (i.fdiv j)) else none)
def aMod : R → R → M R := mkS (gI fun i j => if j ≠ 0 then some (.int (i.fmod j)) else none)
def aPow : R → R → M R := mkS (gI fun i j => if 0 ≤ j ∧ j ≤ 1000000 ∧ i.natAbs < 2 ^ 64 then some (.int (i ^ j.toNat)) else none)
theorem ite_some {α : Type} {c : Prop} [Decidable c] {a b : α} (h : (if c then some a else none) = some b) : c ∧ a = b := by
  by_cases hc : c
  · rw [if_pos hc] at h; exact ⟨hc, Option.some.inj h⟩
  · rw [if_neg hc] at h; cases h
section
variable {K : PySem.W.Frag}
theorem ok_addI : OpOk K (rI0 fun i j => .int (i + j)) aAdd := okI0 fun i j d e F => by cases e; rfl
theorem ok_sub : OpOk K (rI0 fun i j => .int (i - j)) aSub := okI0 fun i j d e F => by cases e; rfl
theorem ok_mul : OpOk K (rI CMulW fun i j => .int (i * j)) aMul := okI fun i j d e => by obtain ⟨c, rfl⟩ := ite_some e; exact ⟨c, fun _ => rfl⟩
theorem ok_div : OpOk K (rI CDivX fun i j => .int (i.fdiv j)) aDiv := okI fun i j d e => by obtain ⟨c, rfl⟩ := ite_some e; exact ⟨c, fun _ => rfl⟩
theorem ok_mod : OpOk K (rI (fun _ j => j ≠ 0) fun i j => .int (i.fmod j)) aMod := okI fun i j d e => by obtain ⟨c, rfl⟩ := ite_some e; exact ⟨c, fun _ => rfl⟩
theorem ok_pow : OpOk K (rI CPow fun i j => .int (i ^ j.toNat)) aPow := okI fun i j d e => by obtain ⟨c, rfl⟩ := ite_some e; exact ⟨c, fun _ => rfl⟩
end
/-- two texts -/
def gS (f : Str → Str → Option D) : D → D → Option D
  | .str i, .str j => f i j
  | _, _ => none
theorem gS_of {f : Str → Str → Option D} {d1 d2 d : D} (h : gS f d1 d2 = some d) : ∃ i j, d1 = .str i ∧ d2 = .str j ∧ f i j = some d := by
  unfold gS at h
  split at h
  · exact ⟨_, _, rfl, rfl, h⟩
  · cases h
def aCatS : R → R → M R := mkS (gS fun i j => if i.length + j.length ≤ sizeLine then some (.str (i ++ j)) else none)
abbrev rCatS : R2 := fun x y H Q => ∃ i j, x = .str i ∧ y = .str j ∧ i.length + j.length ≤ sizeLine ∧ Q (.str (i ++ j)) H
theorem ok_catS {K : PySem.W.Frag} : OpOk K rCatS aCatS := .scal fun H d1 d2 v1 v2 d Q r1 r2 e q => by
  obtain ⟨i, j, rfl, rfl, e⟩ := gS_of e
  obtain ⟨c, rfl⟩ := ite_some e
  cases r1; cases r2
  exact ⟨i, j, rfl, rfl, c, q _ fun _ => rfl⟩
/-! lists and tuples put together -/
/-- the items of a list that may be added to another -/
def W.lseq : W → Option (List W)
  | .frz (.lst ds) => some (ds.map .frz)
  | .brw (.lst ds) => some (ds.map mkB)
  | .olst ws => if ws.all W.no = true then some ws else none
  | _ => none
theorem lseq_ok {K : PySem.W.Frag} {F B H : Hp} (sF : Same F H) (sB : Same B H) {w : W} {v : V} {as : List Addr} {ws : List W} (h : RepW K F B H w v as) (e : w.lseq = some ws) : ∃ a vs, v = .ref a ∧ H a = some (.lst vs) ∧ RepWs K F B H ws vs [] := by
  cases w with
  | frz d => cases d with
    | lst ds => cases e; obtain ⟨⟨a, vs, e1, q, r⟩, _⟩ := h; exact ⟨a, vs, e1, sF _ _ q, reps_frz r⟩
    | _ => cases e
  | brw d => cases d with
    | lst ds => cases e; obtain ⟨⟨a, vs, e1, q, r⟩, _⟩ := h; exact ⟨a, vs, e1, sB _ _ q, reps_brw r⟩
    | _ => cases e
  | olst us =>
    have e' : (if us.all W.no = true then some us else none) = some ws := e
    split at e'
    · rename_i hn
      cases e'
      obtain ⟨a, vs, bs, e1, q, ea, r⟩ := h
      have := nos_nil hn r
      subst this
      exact ⟨a, vs, e1, q, r⟩
    · cases e'
  | _ => cases e
theorem RepWs.app {K : PySem.W.Frag} {F B H : Hp} : ∀ {ws us : List W} {vs xs : List V}, RepWs K F B H ws vs [] → RepWs K F B H us xs [] → RepWs K F B H (ws ++ us) (vs ++ xs) []
  | [], us, _, xs, h, q => by rw [show _ = [] from h.1]; exact q
  | w :: ws, us, _, xs, ⟨v, r, a1, a2, e, ea, h, t⟩, q => by
    obtain ⟨rfl, rfl⟩ := List.append_eq_nil_iff.mp ea.symm
    subst e
    exact ⟨v, r ++ xs, [], [], rfl, rfl, h, t.app q⟩
def aCatL : R → R → M R := fun x y L => match x.get L, y.get L with
  | some a, some b => match a.lseq, b.lseq with
    | some ws, some us => if ws.length + us.length ≤ sizeLine then .ok (.val (.olst (ws ++ us))) L else .bad
    | _, _ => .bad
  | _, _ => .bad
theorem keep_new {H : Hp} {p : Addr} {o : HO} (n : H p = none) (as : List Addr) : Kept as H (upd H p o) := fun q _ u e => by rw [upd_ne (fun z => by rw [z, n] at e; cases e)]; exact e
theorem ok_catL {K : PySem.W.Frag} : OpOk K rCat aCatL := fun Wx σ F B H L as as1 as2 rx ry v1 v2 Q wf s p1 p2 h => by
  unfold aCatL at h
  split at h
  · rename_i w1 w2 e1 e2
    split at h
    · rename_i ws us es eu
      obtain ⟨hz, h⟩ := of_ite h
      obtain ⟨b1, q1⟩ := get_ok s p1 e1
      obtain ⟨b2, q2⟩ := get_ok s p2 e2
      obtain ⟨a, vs, ev, hq, rs⟩ := lseq_ok wf.f wf.b q1 es
      obtain ⟨b, xs, ex, hq2, ru⟩ := lseq_ok wf.f wf.b q2 eu
      refine ⟨a, b, vs, xs, ev, ex, hq, hq2, by rw [rs.len, ru.len]; exact hz, fun p np => ?_⟩
      have g1 := go_drop2 wf
      have g2 := Go.alloc g1.wf np (.lst (vs ++ xs))
      refine h (.ref p) F _ [p] as (g1.trans g2) (SRel.frame (Same.refl _) (Same.refl _) (keep_new np _) s) ⟨p, vs ++ xs, [], rfl, upd_same, rfl, RepWs.frame (Same.refl _) (Same.refl _) (keep_new np _) (rs.app ru)⟩
    · exact h.elim
  · exact h.elim
def aAddU : R → R → M R := gOr aAdd (gOr aCatS aCatL)
section
variable {X : Cx}
abbrev rAddU : R2 := fun x y H Q => rI0 (fun i j => .int (i + j)) x y H Q ∨ (rCatS x y H Q ∨ rCat x y H Q)
theorem op_addU : OpR X (binaryOp .Add) rAddU := opr_or op_add (opr_or op_add_str op_cat)
theorem ok_addU : OpOk X.K rAddU aAddU := .or ok_addI (.or ok_catS ok_catL)
end

/-! ### comparisons -/
def cI (f : Int → Int → Bool) : R → R → M R := mkS (gI fun i j => some (.bl (f i j)))
theorem ok_cI {K : PySem.W.Frag} {f : Int → Int → Bool} : OpOk K (rI0 fun i j => .bl (f i j)) (cI f) := okI0 fun i j d e F => by cases e; rfl
def cS (f : Str → Str → Bool) : R → R → M R := mkS (gS fun i j => some (.bl (f i j)))
abbrev rCS (f : Str → Str → Bool) : R2 := fun x y H Q => ∃ i j, x = .str i ∧ y = .str j ∧ Q (.bl (f i j)) H
theorem ok_cS {K : PySem.W.Frag} {f : Str → Str → Bool} : OpOk K (rCS f) (cS f) := .scal fun H d1 d2 v1 v2 d Q r1 r2 e q => by
  obtain ⟨i, j, rfl, rfl, e⟩ := gS_of e
  cases e
  cases r1; cases r2
  exact ⟨i, j, rfl, rfl, q _ fun _ => rfl⟩
abbrev ltS (i j : Str) : Bool := decide (i.cps.toList < j.cps.toList)
def cLt : R → R → M R := gOr (cI fun i j => decide (i < j)) (cS ltS)
def cGt : R → R → M R := gOr (cI fun i j => decide (j < i)) (cS fun i j => ltS j i)
def cLe : R → R → M R := gOr (cI fun i j => decide (i ≤ j)) (cS fun i j => !ltS j i)
def cGe : R → R → M R := gOr (cI fun i j => decide (j ≤ i)) (cS fun i j => !ltS i j)
/-- equality of scalars -/
def eqS : D → D → Option Bool
  | .non, .non => some true
  | .int i, .int j => some (decide (i = j))
  | .bl i, .bl j => some (decide (i = j))
  | .str i, .str j => some (decide (i = j))
  | .non, .int _ | .int _, .non | .non, .bl _ | .bl _, .non | .non, .str _ | .str _, .non | .int _, .str _ | .str _, .int _ | .bl _, .str _ | .str _, .bl _ => some false
  | _, _ => none
theorem dec_inj {α β : Type} [DecidableEq α] [DecidableEq β] {f : α → β} (hf : ∀ a b, f a = f b → a = b) (a b : α) : decide (f a = f b) = decide (a = b) := by
  by_cases e : a = b
  · subst e; simp
  · rw [decide_eq_false e, decide_eq_false fun z => e (hf _ _ z)]
theorem eqS_ok {K : PySem.W.Frag} {H : Hp} {d1 d2 : D} {v1 v2 : V} {b : Bool} (r1 : Rep K H d1 v1) (r2 : Rep K H d2 v2) (e : eqS d1 d2 = some b) : scal v1 v2 = true ∧ decide (v1 = v2) = b := by
  unfold eqS at e
  split at e <;> first
    | (cases e; cases r1; cases r2; exact ⟨rfl, rfl⟩)
    | (cases e; cases r1; cases r2; exact ⟨rfl, dec_inj (fun _ _ h => V.int.inj h) _ _⟩)
    | (cases e; cases r1; cases r2; exact ⟨rfl, dec_inj (fun _ _ h => V.bl.inj h) _ _⟩)
    | (cases e; cases r1; cases r2; exact ⟨rfl, dec_inj (fun _ _ h => V.str.inj h) _ _⟩)
    | cases e
def cEqS : R → R → M R := mkS fun a b => (eqS a b).map .bl
def cNeS : R → R → M R := mkS fun a b => (eqS a b).map fun k => .bl (!k)
theorem ok_eqS {K : PySem.W.Frag} : OpOk K rEq cEqS := .scal fun H d1 d2 v1 v2 d Q r1 r2 e q => by
  obtain ⟨b, eb, rfl⟩ := map_some e
  obtain ⟨h1, h2⟩ := eqS_ok r1 r2 eb
  exact ⟨h1, by rw [h2]; exact q _ fun _ => rfl⟩
theorem ok_neS {K : PySem.W.Frag} : OpOk K rNe cNeS := .scal fun H d1 d2 v1 v2 d Q r1 r2 e q => by
  obtain ⟨b, eb, rfl⟩ := map_some e
  obtain ⟨h1, h2⟩ := eqS_ok r1 r2 eb
  exact ⟨h1, by rw [h2]; exact q _ fun _ => rfl⟩
/-! is None -/
abbrev rIsN : R2 := fun x y H Q => y = .non ∧ Q (.bl (decide (x = .non))) H
abbrev rNotN : R2 := fun x y H Q => y = .non ∧ Q (.bl (!decide (x = .non))) H
def D.isNone : D → Bool
  | .non => true
  | _ => false
theorem isNone_ok {K : PySem.W.Frag} {H : Hp} {d : D} {v : V} (r : Rep K H d v) : decide (v = .non) = d.isNone := by
  cases d with
  | non => cases r; rfl
  | bl b => cases r; rfl
  | int i => cases r; rfl
  | str x => cases r; rfl
  | ty n => cases r; rfl
  | adr a => cases r; rfl
  | tup xs => obtain ⟨a, vs, e, _⟩ := r; subst e; rfl
  | lst xs => obtain ⟨a, vs, e, _⟩ := r; subst e; rfl
  | lok xs => obtain ⟨a, vs, e, _⟩ := r; subst e; rfl
  | dct xs => obtain ⟨a, vs, e, _⟩ := r; subst e; rfl
  | dcT xs => obtain ⟨a, vs, e, _⟩ := r; subst e; rfl
  | obj C xs => obtain ⟨a, dx, vs, e, _⟩ := r; subst e; rfl
def cIsN : R → R → M R := mkS fun a b => match b with
  | .non => some (.bl a.isNone)
  | _ => none
def cNotN : R → R → M R := mkS fun a b => match b with
  | .non => some (.bl (!a.isNone))
  | _ => none
theorem ok_isN {K : PySem.W.Frag} : OpOk K rIsN cIsN := .scal fun H d1 d2 v1 v2 d Q r1 r2 e q => by
  split at e
  · cases e; cases r2
    exact ⟨rfl, by rw [isNone_ok r1]; exact q _ fun _ => rfl⟩
  · cases e
theorem ok_notN {K : PySem.W.Frag} : OpOk K rNotN cNotN := .scal fun H d1 d2 v1 v2 d Q r1 r2 e q => by
  split at e
  · cases e; cases r2
    exact ⟨rfl, by rw [isNone_ok r1]; exact q _ fun _ => rfl⟩
  · cases e
/-! in -/
def D.flat : D → Bool
  | .non | .bl _ | .int _ | .str _ => true
  | _ => false
def eqF : D → D → Bool
  | .non, .non => true
  | .bl a, .bl b => a == b
  | .bl a, .int b => (if a then 1 else 0) == b
  | .int a, .bl b => a == (if b then 1 else 0)
  | .int a, .int b => a == b
  | .str a, .str b => a == b
  | _, _ => false
theorem flat_ok {K : PySem.W.Frag} {H : Hp} {d : D} {v : V} (hf : d.flat = true) (r : Rep K H d v) : flatV v = true := by
  cases d <;> first | (cases r; rfl) | cases hf
theorem eqF_ok {K : PySem.W.Frag} {H H' : Hp} {d e : D} {v u : V} (hd : d.flat = true) (he : e.flat = true) (r : Rep K H d v) (q : Rep K H' e u) : eqV v u = eqF d e := by
  cases d <;> first | exact (Bool.false_ne_true hd).elim | (cases e <;> first | exact (Bool.false_ne_true he).elim | (cases r; cases q; rfl))
def D.items : D → Option (List D)
  | .lst ds => some ds
  | .lok ds => some ds
  | .tup ds => some ds
  | _ => none
theorem items_rep {K : PySem.W.Frag} {H : Hp} {d : D} {v : V} {ds : List D} (e : d.items = some ds) (r : Rep K H d v) : ∃ a vs, v = .ref a ∧ (SqL K H a vs ∨ SqT K H a vs) ∧ Reps K H ds vs := by
  cases d with
  | lst xs => cases e; obtain ⟨a, vs, e1, q, r⟩ := r; exact ⟨a, vs, e1, .inl (.inl (.inl q)), r⟩
  | lok xs => cases e; obtain ⟨a, vs, e1, q, r⟩ := r; exact ⟨a, vs, e1, .inl q, r⟩
  | tup xs => cases e; obtain ⟨a, vs, e1, q, r⟩ := r; exact ⟨a, vs, e1, .inr q, r⟩
  | _ => cases e
def inF (x : D) (ds : List D) : Bool := ds.any fun y => eqF y x
theorem inF_ok {K : PySem.W.Frag} {H : Hp} {x : D} {v : V} (hx : x.flat = true) (rx : Rep K H x v) : ∀ {ds : List D} {vs : List V}, ds.all D.flat = true → Reps K H ds vs → vs.all flatV = true ∧ inV v vs = inF x ds
  | [], _, _, h => by rw [show _ = [] from h]; exact ⟨rfl, rfl⟩
  | d :: ds, _, hf, ⟨u, r, e, h, t⟩ => by
    subst e
    rw [List.all_cons, Bool.and_eq_true] at hf
    obtain ⟨h1, h2⟩ := inF_ok hx rx hf.2 t
    refine ⟨by rw [List.all_cons, flat_ok hf.1 h, h1]; rfl, ?_⟩
    unfold inV inF at *
    rw [List.any_cons, List.any_cons, h2, eqF_ok hf.1 hx h rx]
def gIn (x d : D) : Option Bool := match d.items with
  | some ds => if x.flat = true ∧ ds.all D.flat = true then some (inF x ds) else none
  | none => none
def cInQ : R → R → M R := mkS fun x d => (gIn x d).map .bl
def cNinQ : R → R → M R := mkS fun x d => (gIn x d).map fun k => .bl (!k)
theorem gIn_ok {K : PySem.W.Frag} {H : Hp} {x d : D} {v u : V} {b : Bool} (rx : Rep K H x v) (rd : Rep K H d u) (e : gIn x d = some b) : ∃ p xs, u = .ref p ∧ (SqL K H p xs ∨ SqT K H p xs) ∧ flatV v = true ∧ xs.all flatV = true ∧ inV v xs = b := by
  unfold gIn at e
  split at e
  · rename_i ds ei
    obtain ⟨⟨h1, h2⟩, rfl⟩ := ite_some e
    obtain ⟨a, vs, e1, q, r⟩ := items_rep ei rd
    obtain ⟨q1, q2⟩ := inF_ok h1 rx h2 r
    exact ⟨a, vs, e1, q, flat_ok h1 rx, q1, q2⟩
  · cases e
theorem ok_inQ {K : PySem.W.Frag} : OpOk K (rIn K false) cInQ := .scal fun H d1 d2 v1 v2 d Q r1 r2 e q => by
  obtain ⟨b, eb, rfl⟩ := map_some e
  obtain ⟨p, xs, e1, hq, f1, f2, e2⟩ := gIn_ok r1 r2 eb
  exact ⟨p, xs, e1, hq, f1, f2, by rw [e2]; exact q _ fun _ => rfl⟩
theorem ok_ninQ {K : PySem.W.Frag} : OpOk K (rIn K true) cNinQ := .scal fun H d1 d2 v1 v2 d Q r1 r2 e q => by
  obtain ⟨b, eb, rfl⟩ := map_some e
  obtain ⟨p, xs, e1, hq, f1, f2, e2⟩ := gIn_ok r1 r2 eb
  exact ⟨p, xs, e1, hq, f1, f2, by rw [e2]; exact q _ fun _ => rfl⟩
/-- one sign in a text -/
def inSg (f : Bool → Bool) : R → R → M R := mkS (gS fun c z => match c.cps.toList with
  | [k] => some (.bl (f (decide (k ∈ z.cps.toList))))
  | _ => none)
abbrev rSg (f : Bool → Bool) : R2 := fun x y H Q => ∃ (c : Nat) (z : Str), x = .str ⟨#[c]⟩ ∧ y = .str z ∧ Q (.bl (f (decide (c ∈ z.cps.toList)))) H
theorem ok_sg {K : PySem.W.Frag} {f : Bool → Bool} : OpOk K (rSg f) (inSg f) := .scal fun H d1 d2 v1 v2 d Q r1 r2 e q => by
  obtain ⟨i, j, rfl, rfl, e2⟩ := gS_of e
  cases r1; cases r2
  split at e2
  · rename_i k ek
    cases e2
    obtain ⟨a⟩ := i
    have : a = #[k] := by
      apply Array.toList_inj.mp
      exact ek
    subst this
    exact ⟨k, j, rfl, rfl, q _ fun _ => rfl⟩
  · cases e2
section
variable {X : Cx}
abbrev rInU (K : PySem.W.Frag) : R2 := fun x y H Q => rIn K false x y H Q ∨ rSg id x y H Q
abbrev rNinU (K : PySem.W.Frag) : R2 := fun x y H Q => rIn K true x y H Q ∨ rSg (fun b => !b) x y H Q
def cInU : R → R → M R := gOr cInQ (inSg id)
def cNinU : R → R → M R := gOr cNinQ (inSg fun b => !b)
theorem op_inU : OpR X (compareOp .In) (rInU X.K) := opr_or op_in_seq op_in_sign
theorem op_ninU : OpR X (compareOp .NotIn) (rNinU X.K) := opr_or op_notIn_seq op_notIn_sign
theorem ok_inU : OpOk X.K (rInU X.K) cInU := .or ok_inQ ok_sg
theorem ok_ninU : OpOk X.K (rNinU X.K) cNinU := .or ok_ninQ ok_sg
theorem op_ltU : OpR X (compareOp .Lt) (fun x y H Q => rI0 (fun i j => .bl (decide (i < j))) x y H Q ∨ rCS ltS x y H Q) := opr_or op_lt op_lt_str
theorem ok_ltU : OpOk X.K (fun x y H Q => rI0 (fun i j => .bl (decide (i < j))) x y H Q ∨ rCS ltS x y H Q) cLt := .or ok_cI ok_cS
theorem op_gtU : OpR X (compareOp .Gt) (fun x y H Q => rI0 (fun i j => .bl (decide (j < i))) x y H Q ∨ rCS (fun i j => ltS j i) x y H Q) := opr_or op_gt op_gt_str
theorem ok_gtU : OpOk X.K (fun x y H Q => rI0 (fun i j => .bl (decide (j < i))) x y H Q ∨ rCS (fun i j => ltS j i) x y H Q) cGt := .or ok_cI ok_cS
theorem op_leU : OpR X (compareOp .LtE) (fun x y H Q => rI0 (fun i j => .bl (decide (i ≤ j))) x y H Q ∨ rCS (fun i j => !ltS j i) x y H Q) := opr_or op_le op_le_str
theorem ok_leU : OpOk X.K (fun x y H Q => rI0 (fun i j => .bl (decide (i ≤ j))) x y H Q ∨ rCS (fun i j => !ltS j i) x y H Q) cLe := .or ok_cI ok_cS
theorem op_geU : OpR X (compareOp .GtE) (fun x y H Q => rI0 (fun i j => .bl (decide (j ≤ i))) x y H Q ∨ rCS (fun i j => !ltS i j) x y H Q) := opr_or op_ge op_ge_str
theorem ok_geU : OpOk X.K (fun x y H Q => rI0 (fun i j => .bl (decide (j ≤ i))) x y H Q ∨ rCS (fun i j => !ltS i j) x y H Q) cGe := .or ok_cI ok_cS
end
/-! -e -/
def mNeg (m : M R) : M R := fun L => (m L).bind fun r L1 => match r with
  | .val (.frz (.int i)) => .ok (sc (.int (-i))) L1
  | _ => .bad
section
variable {X : Cx} {Wx : WX} {a : Expr} {ma : M R} {pos : Pos}
theorem be_neg (ha : PE X a (bvE X.K Wx ma)) : PE X (.UnaryOp .USub a pos) (bvE X.K Wx (mNeg ma)) :=
  pe_imp (pe_un un_neg ha) fun σ H Q ⟨F, B, L, as, wf, s, h⟩ => ⟨F, B, L, as, wf, s, (End.bind h).imp fun r L1 h1 v F' H' asr as' g' s' r' => by
    split at h1
    · rename_i i
      exact ⟨i, r'.1, h1 _ F' H' [] as' (g'.sub (le_r _ _)) s' ⟨rfl, rfl⟩⟩
    · exact h1.elim⟩
theorem be_bits {apos : Pos} (ha : PE X a (bvE X.K Wx ma)) (hbase : attributeBase a "bit_length" X.env (eval a X.env) = eval a X.env := by rfl) (hline : (apos.endLine == pos.line) = true := by rfl) : PE X (.Call (.Attribute a "bit_length" apos) [] [] pos) (bvE X.K Wx (fun L => (ma L).bind fun r L1 => match r with
    | .val (.frz (.int i)) => .ok (sc (.int (Builtin.Int.intBits i : Nat))) L1
    | _ => .bad)) :=
  pe_imp (pe_bits ha hbase hline) fun σ H Q ⟨F, B, L, as, wf, s, h⟩ => ⟨F, B, L, as, wf, s, (End.bind h).imp fun r L1 h1 v F' H' asr as' g' s' r' => by
    split at h1
    · rename_i i
      exact ⟨i, r'.1, h1 _ F' H' [] as' (g'.sub (le_r _ _)) s' ⟨rfl, rfl⟩⟩
    · exact h1.elim⟩
end
/-! names of the module and of what is built in -/
section
variable {X : Cx} {Wx : WX} {x : Str} {pos : Pos} {C : Addr} {n : String}
theorem be_cls (hg : Gl X x) (hm : X.mg x = some (.ref C)) (hd : (x == ("__debug__" : Str)) = false := by decide) : PE X (.Name x pos) (bvE X.K Wx (mC (.adr C))) := pe_imp (pe_glob (v := .ref C) hg hm rfl hd) (of_tC fun _ => rfl)
theorem be_ty (hg : Gl X x) (hm : X.mg x = none) (hv : bootBuiltins x = some (.type n)) (hn : x ≠ "__name__" := by decide) (hd : (x == ("__debug__" : Str)) = false := by decide) : PE X (.Name x pos) (bvE X.K Wx (mC (.ty n))) := pe_imp (pe_bltn (v := .ty n) hg hm hv rfl hn hd) (of_tC fun _ => rfl)
end

/-! ### built-in functions -/
theorem go_drop1 {F B H : Hp} {as as1 : List Addr} (wf : WF F B H (as1 ++ as)) : Go F B H (as1 ++ as) F H ([] ++ as) := (Go.refl wf).sub fun p => by rw [List.nil_append, List.count_append]; omega
/-- one argument, data in, a scalar out -/
def f1 (g : D → Option D) : List R → M R := fun rs L => match rs with
  | [r] => match r.get L with
    | some w => match g w.rd with
      | some d => .ok (.val (.frz d)) L
      | none => .bad
    | none => .bad
  | _ => .bad
def f2 (g : D → D → Option D) : List R → M R := fun rs L => match rs with
  | [r, u] => mkS g r u L
  | _ => .bad
theorem f1_ok {K : PySem.W.Frag} {r : List V → Hp → VK → Prop} {g : D → Option D} (hg : ∀ H d v e Q, Rep K H d v → g d = some e → (∀ v, (∀ F, Rep K F e v) → Q v H) → r [v] H Q) : CallOk K r (f1 g) := fun Wx σ F B H L as as1 rs vs Q wf s rr h => by
  unfold f1 at h
  split at h
  · rename_i r
    obtain ⟨v, t, a1, a2, ev, ea, rv, et, ea2⟩ := rr
    subst ev et ea
    split at h
    · rename_i w ew
      split at h
      · rename_i d ed
        exact hg H w.rd v d Q (rv.rd wf.f wf.b s ew) ed fun v hv => h v F H [] as (go_drop1 wf) s ⟨hv _, rfl⟩
      · exact h.elim
    · exact h.elim
  · exact h.elim
theorem f2_ok {K : PySem.W.Frag} {r : List V → Hp → VK → Prop} {g : D → D → Option D} (hg : ∀ H d1 d2 v1 v2 e Q, Rep K H d1 v1 → Rep K H d2 v2 → g d1 d2 = some e → (∀ v, (∀ F, Rep K F e v) → Q v H) → r [v1, v2] H Q) : CallOk K r (f2 g) := fun Wx σ F B H L as as1 rs vs Q wf s rr h => by
  unfold f2 at h
  split at h
  · rename_i r u
    obtain ⟨v, t, a1, a2, ev, ea, rv, v2, t2, b1, b2, ev2, eb, rv2, et, ea2⟩ := rr
    subst ev et ea ev2 eb
    unfold mkS at h
    split at h
    · rename_i w1 w2 e1 e2
      split at h
      · rename_i d ed
        exact hg H _ _ v v2 d Q (rv.rd wf.f wf.b s e1) (rv2.rd wf.f wf.b s e2) ed fun v hv => h v F H [] as (go_drop1 wf) s ⟨hv _, rfl⟩
      · exact h.elim
    · exact h.elim
  · exact h.elim
def lenD : D → Option D
  | .str y => if y.length ≤ sizeLine then some (.int y.length) else none
  | .lst xs => some (.int xs.length)
  | .lok xs => some (.int xs.length)
  | .tup xs => some (.int xs.length)
  | _ => none
theorem ok_len {K : PySem.W.Frag} : CallOk K (fun xs H Q => ∃ x n, xs = [x] ∧ LenV K x H n ∧ Q (.int n) H) (f1 lenD) := f1_ok fun H d v e Q r h q => by
  cases d with
  | str y => cases r; obtain ⟨c, rfl⟩ := ite_some (show (if y.length ≤ sizeLine then some (D.int y.length) else none) = some e from h); exact ⟨_, y.length, rfl, ⟨c, rfl⟩, q _ fun _ => rfl⟩
  | lst xs => cases h; obtain ⟨a, vs, e1, hq, r⟩ := r; subst e1; exact ⟨_, xs.length, rfl, .inl ⟨vs, .inl (.inl hq), by rw [r.len]⟩, q _ fun _ => rfl⟩
  | lok xs => cases h; obtain ⟨a, vs, e1, hq, r⟩ := r; subst e1; exact ⟨_, xs.length, rfl, .inl ⟨vs, hq, by rw [r.len]⟩, q _ fun _ => rfl⟩
  | tup xs => cases h; obtain ⟨a, vs, e1, hq, r⟩ := r; subst e1; exact ⟨_, xs.length, rfl, .inr ⟨vs, hq, by rw [r.len]⟩, q _ fun _ => rfl⟩
  | _ => cases h
def absD : D → Option D
  | .int i => some (.int (if i < 0 then -i else i))
  | _ => none
theorem ok_abs {K : PySem.W.Frag} : CallOk K (fun xs H Q => ∃ i, xs = [.int i] ∧ Q (.int (if i < 0 then -i else i)) H) (f1 absD) := f1_ok fun H d v e Q r h q => by
  cases d with
  | int i => cases r; cases h; exact ⟨i, rfl, q _ fun _ => rfl⟩
  | _ => cases h
def intD : D → Option D
  | .int i => some (.int i)
  | .bl k => some (.int (if k then 1 else 0))
  | _ => none
theorem ok_int {K : PySem.W.Frag} : CallOk K (fun xs H Q => (∃ i, xs = [.int i] ∧ Q (.int i) H) ∨ ∃ k, xs = [.bl k] ∧ Q (.int (if k then 1 else 0)) H) (f1 intD) := f1_ok fun H d v e Q r h q => by
  cases d with
  | int i => cases r; cases h; exact .inl ⟨i, rfl, q _ fun _ => rfl⟩
  | bl k => cases r; cases h; exact .inr ⟨k, rfl, q _ fun _ => rfl⟩
  | _ => cases h
def strD : D → Option D
  | .int i => if i.natAbs.log2 < 1920 then some (.str (toString i)) else none
  | _ => none
theorem ok_str {K : PySem.W.Frag} : CallOk K (fun xs H Q => ∃ i, xs = [.int i] ∧ i.natAbs.log2 < 1920 ∧ Q (.str (toString i)) H) (f1 strD) := f1_ok fun H d v e Q r h q => by
  cases d with
  | int i => cases r; obtain ⟨c, rfl⟩ := ite_some (show (if i.natAbs.log2 < 1920 then some (D.str (toString i)) else none) = some e from h); exact ⟨i, rfl, c, q _ fun _ => rfl⟩
  | _ => cases h
def maxD : D → D → Option D := gI fun i j => some (.int (if j > i then j else i))
def minD : D → D → Option D := gI fun i j => some (.int (if j < i then j else i))
theorem ok_max2 {K : PySem.W.Frag} : CallOk K (fun xs H Q => ∃ i j, xs = [.int i, .int j] ∧ Q (.int (if j > i then j else i)) H) (f2 maxD) := f2_ok fun H d1 d2 v1 v2 e Q r1 r2 h q => by
  obtain ⟨i, j, rfl, rfl, h⟩ := gI_of h
  cases r1; cases r2; cases h
  exact ⟨i, j, rfl, q _ fun _ => rfl⟩
theorem ok_min2 {K : PySem.W.Frag} : CallOk K (fun xs H Q => ∃ i j, xs = [.int i, .int j] ∧ Q (.int (if j < i then j else i)) H) (f2 minD) := f2_ok fun H d1 d2 v1 v2 e Q r1 r2 h q => by
  obtain ⟨i, j, rfl, rfl, h⟩ := gI_of h
  cases r1; cases r2; cases h
  exact ⟨i, j, rfl, q _ fun _ => rfl⟩
/-- a list of ints -/
def intsD : List D → Option (List Int)
  | [] => some []
  | .int i :: r => (intsD r).map (i :: ·)
  | _ => none
theorem ints_rep {K : PySem.W.Frag} {H : Hp} : ∀ {ds : List D} {vs : List V} {ns : List Int}, intsD ds = some ns → Reps K H ds vs → vs = ns.map V.int
  | [], _, _, e, h => by cases e; exact h
  | .int i :: ds, _, ns, e, ⟨v, r, e1, h, t⟩ => by
    obtain ⟨ms, em, rfl⟩ := map_some (f := (i :: ·)) e
    rw [e1, ints_rep em t, show v = .int i from h]
    rfl
  | .non :: _, _, _, e, _ => nomatch e
  | .bl _ :: _, _, _, e, _ => nomatch e
  | .str _ :: _, _, _, e, _ => nomatch e
  | .ty _ :: _, _, _, e, _ => nomatch e
  | .adr _ :: _, _, _, e, _ => nomatch e
  | .tup _ :: _, _, _, e, _ => nomatch e
  | .lst _ :: _, _, _, e, _ => nomatch e
  | .lok _ :: _, _, _, e, _ => nomatch e
  | .dct _ :: _, _, _, e, _ => nomatch e
  | .dcT _ :: _, _, _, e, _ => nomatch e
  | .obj _ _ :: _, _, _, e, _ => nomatch e
def strsD : List D → Option (List Str)
  | [] => some []
  | .str i :: r => (strsD r).map (i :: ·)
  | _ => none
theorem strs_rep {K : PySem.W.Frag} {H : Hp} : ∀ {ds : List D} {vs : List V} {ns : List Str}, strsD ds = some ns → Reps K H ds vs → vs = ns.map V.str
  | [], _, _, e, h => by cases e; exact h
  | .str i :: ds, _, ns, e, ⟨v, r, e1, h, t⟩ => by
    obtain ⟨ms, em, rfl⟩ := map_some (f := (i :: ·)) e
    rw [e1, strs_rep em t, show v = .str i from h]
    rfl
  | .non :: _, _, _, e, _ => nomatch e
  | .bl _ :: _, _, _, e, _ => nomatch e
  | .int _ :: _, _, _, e, _ => nomatch e
  | .ty _ :: _, _, _, e, _ => nomatch e
  | .adr _ :: _, _, _, e, _ => nomatch e
  | .tup _ :: _, _, _, e, _ => nomatch e
  | .lst _ :: _, _, _, e, _ => nomatch e
  | .lok _ :: _, _, _, e, _ => nomatch e
  | .dct _ :: _, _, _, e, _ => nomatch e
  | .dcT _ :: _, _, _, e, _ => nomatch e
  | .obj _ _ :: _, _, _, e, _ => nomatch e
def D.list? : D → Option (List D)
  | .lst ds => some ds
  | .lok ds => some ds
  | _ => none
theorem list_rep {K : PySem.W.Frag} {H : Hp} {d : D} {v : V} {ds : List D} (e : d.list? = some ds) (r : Rep K H d v) : ∃ a vs, v = .ref a ∧ SqL K H a vs ∧ Reps K H ds vs := by
  cases d with
  | lst xs => cases e; obtain ⟨a, vs, e1, q, r⟩ := r; exact ⟨a, vs, e1, .inl (.inl q), r⟩
  | lok xs => cases e; obtain ⟨a, vs, e1, q, r⟩ := r; exact ⟨a, vs, e1, q, r⟩
  | _ => cases e
def sumD (d : D) : Option D := (d.list?.bind intsD).map fun ns => .int ns.sum
theorem ok_sum {K : PySem.W.Frag} : CallOk K (rSum K) (f1 sumD) := f1_ok fun H d v e Q r h q => by
  obtain ⟨ns, en, rfl⟩ := map_some h
  obtain ⟨ds, ed, en⟩ := bind_some en
  obtain ⟨a, vs, e1, hq, rs⟩ := list_rep ed r
  exact ⟨a, ns, by rw [e1], by rw [← ints_rep en rs]; exact hq, q _ fun _ => rfl⟩
end BV

namespace BV
open PySem PySem.Spec PyProof.Rows L2

/-! ### sorted texts -/
def leS (a b : Str) : Bool := !ltCps b.cps.toList a.cps.toList
def insS (x : Str) : List Str → List Str
  | [] => [x]
  | y :: r => if leS x y = true then x :: y :: r else y :: insS x r
def sortS : List Str → List Str
  | [] => []
  | x :: r => insS x (sortS r)
theorem leS_iff {a b : Str} : leS a b = true ↔ a.cps.toList ≤ b.cps.toList := by
  unfold leS
  rw [ltCps_eq, Bool.not_eq_true', decide_eq_false_iff_not]
  exact Iff.rfl
theorem leS_refl (a : Str) : leS a a = true := leS_iff.mpr (List.le_refl _)
theorem leS_trans {a b c : Str} (h : leS a b = true) (k : leS b c = true) : leS a c = true := leS_iff.mpr (List.le_trans (leS_iff.mp h) (leS_iff.mp k))
theorem leS_total (a b : Str) : leS a b = true ∨ leS b a = true := by
  rw [leS_iff, leS_iff]
  exact List.le_total _ _
theorem str_ext {a b : Str} (h : a.cps.toList = b.cps.toList) : a = b := by
  cases a; cases b
  exact congrArg Str.mk (Array.toList_inj.mp h)
theorem leS_antisymm {a b : Str} (h : leS a b = true) (k : leS b a = true) : a = b := str_ext (List.le_antisymm (leS_iff.mp h) (leS_iff.mp k))
abbrev SortedS (l : List Str) : Prop := l.Pairwise fun a b => leS a b = true
theorem insS_perm (x : Str) : ∀ l, (insS x l).Perm (x :: l)
  | [] => .refl _
  | y :: r => by
    unfold insS
    split
    · exact .refl _
    · exact ((insS_perm x r).cons y).trans (.swap x y r)
theorem insS_sorted {x : Str} : ∀ {l : List Str}, SortedS l → SortedS (insS x l)
  | [], _ => by simp [insS, SortedS]
  | y :: r, h => by
    unfold insS
    rw [SortedS, List.pairwise_cons] at h
    split
    · rename_i hx
      refine List.pairwise_cons.mpr ⟨fun z hz => ?_, List.pairwise_cons.mpr h⟩
      rcases List.mem_cons.mp hz with e | e
      · subst e; exact hx
      · exact leS_trans hx (h.1 z e)
    · rename_i hx
      refine List.pairwise_cons.mpr ⟨fun z hz => ?_, insS_sorted h.2⟩
      rcases List.mem_cons.mp ((insS_perm x r).mem_iff.mp hz) with e | e
      · subst e
        rcases leS_total z y with q | q
        · exact absurd q hx
        · exact q
      · exact h.1 z e
theorem sortS_perm : ∀ l, (sortS l).Perm l
  | [] => .refl _
  | x :: r => (insS_perm x _).trans ((sortS_perm r).cons x)
theorem sortS_sorted : ∀ l, SortedS (sortS l)
  | [] => List.Pairwise.nil
  | x :: r => insS_sorted (sortS_sorted r)
theorem rising_pair : ∀ {p : Str} {l : List Str}, risingS p l = true → SortedS (p :: l)
  | p, [], _ => by simp [SortedS]
  | p, x :: r, h => by
    unfold risingS at h
    rw [Bool.and_eq_true] at h
    have ih := rising_pair h.2
    have hp : leS p x = true := h.1
    refine List.pairwise_cons.mpr ⟨fun z hz => ?_, ih⟩
    rcases List.mem_cons.mp hz with e | e
    · subst e; exact hp
    · exact leS_trans hp ((List.pairwise_cons.mp ih).1 z e)
theorem sortedS_pair {l : List Str} (h : sortedS l = true) : SortedS l := by
  cases l with
  | nil => exact .nil
  | cons x r => exact rising_pair h
theorem sorted_unique {l m : List Str} (p : l.Perm m) (h : SortedS l) (k : SortedS m) : l = m := p.eq_of_pairwise (le := fun a b => leS a b = true) (fun a b _ _ h k => leS_antisymm h k) h k
theorem sortS_of {l m : List Str} (p : l.Perm m) (h : sortedS l = true) : l = sortS m := sorted_unique (p.trans (sortS_perm m).symm) (sortedS_pair h) (sortS_sorted m)

/-- one argument in, a new list of texts out -/
def bSorted : List R → M R := fun rs L => match rs with
  | [r] => match r.get L with
    | some w => match w.rd.list?.bind strsD with
      | some xs => if xs.length < 64 then .ok (.val (.olst ((sortS xs).map fun x => .frz (.str x)))) L else .bad
      | none => .bad
    | none => .bad
  | _ => .bad
theorem repws_strs {K : PySem.W.Frag} {F B H : Hp} : ∀ xs : List Str, RepWs K F B H (xs.map fun x => .frz (.str x)) (xs.map V.str) []
  | [] => ⟨rfl, rfl⟩
  | x :: r => ⟨_, _, [], [], rfl, rfl, ⟨rfl, rfl⟩, repws_strs r⟩
theorem ok_sorted {K : PySem.W.Frag} : CallOk K (rSortedS K) bSorted := fun Wx σ F B H L as as1 rs vs Q wf s rr h => by
  unfold bSorted at h
  split at h
  · rename_i r
    obtain ⟨v, t, a1, a2, ev, ea, rv, et, ea2⟩ := rr
    subst ev et ea
    split at h
    · rename_i w ew
      split at h
      · rename_i xs ex
        obtain ⟨hz, h⟩ := of_ite h
        obtain ⟨ds, ed, en⟩ := bind_some ex
        obtain ⟨a, us, e1, hq, rs⟩ := list_rep ed (rv.rd wf.f wf.b s ew)
        refine ⟨a, xs, by rw [e1], by rw [← strs_rep en rs]; exact hq, hz, fun ys p pm so np => ?_⟩
        rw [sortS_of pm so]
        have g1 := go_drop1 wf
        exact h (.ref p) F _ [p] as (g1.trans (Go.alloc g1.wf np _)) (SRel.frame (Same.refl _) (Same.refl _) (keep_new np _) s) ⟨p, _, [], rfl, upd_same, rfl, repws_strs _⟩
      · exact h.elim
    · exact h.elim
  · exact h.elim
/-- list(x) -/
def bList : List R → M R := fun rs L => match rs with
  | [r] => match r.get L with
    | some w => match w.seq with
      | some ws => .ok (.val (.olst ws)) L
      | none => .bad
    | none => .bad
  | _ => .bad
abbrev rList (K : PySem.W.Frag) : List V → Hp → VK → Prop := fun xs H Q => ∃ p ys, xs = [.ref p] ∧ (SqL K H p ys ∨ SqT K H p ys) ∧ ∀ l, H l = none → Q (.ref l) (upd H l (.lst ys))
theorem ok_list {K : PySem.W.Frag} : CallOk K (rList K) bList := fun Wx σ F B H L as as1 rs vs Q wf s rr h => by
  unfold bList at h
  split at h
  · rename_i r
    obtain ⟨v, t, a1, a2, ev, ea, rv, et, ea2⟩ := rr
    subst ev et ea
    split at h
    · rename_i w ew
      split at h
      · rename_i ws es
        obtain ⟨bs, rw'⟩ := get_ok s rv ew
        obtain ⟨a, us, e1, hq, rs⟩ := seq_ok wf.f wf.b rw' es
        refine ⟨a, us, by rw [e1], hq, fun p np => ?_⟩
        have g1 := go_drop1 wf
        exact h (.ref p) F _ [p] as (g1.trans (Go.alloc g1.wf np _)) (SRel.frame (Same.refl _) (Same.refl _) (keep_new np _) s) ⟨p, _, [], rfl, upd_same, rfl, RepWs.frame (Same.refl _) (Same.refl _) (keep_new np _) rs⟩
      · exact h.elim
    · exact h.elim
  · exact h.elim
/-- tuple(x) -/
def mkT (ws : List W) : W := match frs ws with
  | some ds => .frz (.tup ds)
  | none => .otup ws
def W.isTup : W → Bool
  | .frz (.tup _) => true
  | .brw (.tup _) => true
  | _ => false
def W.isLst : W → Bool
  | .frz (.lst _) | .frz (.lok _) | .brw (.lst _) | .brw (.lok _) | .olst _ => true
  | _ => false
def bTuple : List R → M R := fun rs L => match rs with
  | [r] => match r.get L with
    | some w => if w.isTup = true then .ok (.val w) L else if w.isLst = true then match w.seq with
        | some ws => .ok (.val (mkT ws)) L
        | none => .bad
      else .bad
    | none => .bad
  | _ => .bad
abbrev rTuple (K : PySem.W.Frag) : List V → Hp → VK → Prop := fun xs H Q => ∃ p ys, xs = [.ref p] ∧ ((SqL K H p ys ∧ ∀ l, H l = none → Q (.ref l) (upd H l (.tup ys))) ∨ (SqT K H p ys ∧ Q (.ref p) H))
theorem mkT_ok {K : PySem.W.Frag} {F B H : Hp} {as : List Addr} {ws : List W} {vs : List V} {T : Addr} (wf : WF F B H as) (nT : H T = none) (r : RepWs K F B H ws vs []) :
    ∃ F2 asx, Go F B H as F2 (upd H T (.tup vs)) (asx ++ as) ∧ RepW K F2 B (upd H T (.tup vs)) (mkT ws) (.ref T) asx := by
  unfold mkT
  split
  · rename_i ds ed
    have g := Go.allocF wf nT (.tup vs)
    exact ⟨_, [], g, ⟨T, vs, rfl, .inl (.inl upd_same), RepWs.fr g.ext (fun q i => (in_nil i).elim) ed r⟩, rfl⟩
  · exact ⟨F, [T], Go.alloc wf nT _, T, vs, [], rfl, upd_same, rfl, RepWs.frame (Same.refl _) (Same.refl _) (keep_new nT _) r⟩
theorem ok_tuple {K : PySem.W.Frag} : CallOk K (rTuple K) bTuple := fun Wx σ F B H L as as1 rs vs Q wf s rr h => by
  unfold bTuple at h
  split at h
  · rename_i r
    obtain ⟨v, t, a1, a2, ev, ea, rv, et, ea2⟩ := rr
    subst ev et ea
    split at h
    · rename_i w ew
      obtain ⟨bs, rw'⟩ := get_ok s rv ew
      by_cases ht : w.isTup = true
      · rw [if_pos ht] at h
        have hs : ∃ ws, w.seq = some ws := by
          unfold W.isTup at ht
          split at ht
          · exact ⟨_, rfl⟩
          · exact ⟨_, rfl⟩
          · cases ht
        have hn : w.no = true := by
          unfold W.isTup at ht
          split at ht
          · rfl
          · rfl
          · cases ht
        have z := no_nil hn rw'
        subst z
        have hT : ∃ a ys, v = .ref a ∧ SqT K H a ys := by
          unfold W.isTup at ht
          split at ht
          · obtain ⟨⟨a, ys, e, q, _⟩, _⟩ := rw'; exact ⟨a, ys, e, sameSqT wf.f q⟩
          · obtain ⟨⟨a, ys, e, q, _⟩, _⟩ := rw'; exact ⟨a, ys, e, sameSqT wf.b q⟩
          · cases ht
        obtain ⟨a, ys, e, q⟩ := hT
        subst e
        exact ⟨a, ys, rfl, .inr ⟨q, h (.ref a) F H [] as (go_drop1 wf) s rw'⟩⟩
      · rw [if_neg ht] at h
        by_cases hl : w.isLst = true
        · rw [if_pos hl] at h
          split at h
          · rename_i ws es
            obtain ⟨a, us, e1, hq, rs⟩ := seq_ok wf.f wf.b rw' es
            have hL : ∃ a ys, v = .ref a ∧ SqL K H a ys ∧ RepWs K F B H ws ys [] := by
              unfold W.isLst at hl
              split at hl
              · cases es; obtain ⟨⟨a, ys, e, q, r⟩, _⟩ := rw'; exact ⟨a, ys, e, .inl (.inl (wf.f _ _ q)), reps_frz r⟩
              · cases es; obtain ⟨⟨a, ys, e, q, r⟩, _⟩ := rw'; exact ⟨a, ys, e, wf.f.seq q, reps_frz r⟩
              · cases es; obtain ⟨⟨a, ys, e, q, r⟩, _⟩ := rw'; exact ⟨a, ys, e, .inl (.inl (wf.b _ _ q)), reps_brw r⟩
              · cases es; obtain ⟨⟨a, ys, e, q, r⟩, _⟩ := rw'; exact ⟨a, ys, e, wf.b.seq q, reps_brw r⟩
              · rename_i us2
                have es' : (if us2.all W.no = true then some us2 else none) = some ws := es
                split at es'
                · rename_i hn
                  cases es'
                  obtain ⟨a, ys, bs, e, q, eb, r⟩ := rw'
                  have := nos_nil hn r
                  subst this
                  exact ⟨a, ys, e, .inl (.inl q), r⟩
                · cases es'
              · cases hl
            obtain ⟨a, ys, e, q, r⟩ := hL
            subst e
            refine ⟨a, ys, rfl, .inl ⟨q, fun p np => ?_⟩⟩
            have g1 := go_drop1 wf
            obtain ⟨F2, asx, g2, r2⟩ := mkT_ok g1.wf np r
            exact h (.ref p) F2 _ asx as (g1.trans g2) (SRel.frame g2.ext (Same.refl _) (keep_new np _) s) r2
          · exact h.elim
        · rw [if_neg hl] at h
          exact h.elim
    · exact h.elim
  · exact h.elim

/-! ### isinstance -/
/-- an own class whose instances isinstance may be asked of -/
structure IsC (K : PySem.W.Frag) (C : Addr) : Prop where
  cl : Cls K C
  ha : PySem.W.findIn K (.ref C) "__class__" = some (some (.builtin "object.__class__"))
  hn : PySem.W.specialIn K (.builtin "object.__class__") "__get__" = some (some (.builtin "getset_descriptor.__get__"))
  htk : PySem.W.takesIn K (.builtin "object.__class__") = some true
  hm : PySem.W.mroIn K C (.type "object") = some true
def D.type (cs : List Addr) : D → Option Value
  | .non => some (.type "NoneType")
  | .bl _ => some (.type "bool")
  | .int _ => some (.type "int")
  | .str _ => some (.type "str")
  | .lst _ => some (.type "list")
  | .tup _ => some (.type "tuple")
  | .dct _ => some (.type "dict")
  | .dcT _ => some (.type "dict")
  | .obj C _ => if C ∈ cs then some (.ref C) else none
  | _ => none
def D.asCls : D → Option Value
  | .ty n => some (.type n)
  | .adr C => some (.ref C)
  | _ => none
/-- isinstance's answer, by the written part -/
def isi (K : PySem.W.Frag) (cs : List Addr) (x c : D) : Option D := match x.type cs, c.asCls with
  | some t, some u => (PySem.W.kitOne K t u).map .bl
  | _, _ => none
theorem type_ok {K : PySem.W.Frag} {cs : List Addr} (hcs : ∀ C ∈ cs, IsC K C) {H : Hp} {d : D} {v : V} {t : Value} (r : Rep K H d v) (e : d.type cs = some t) : TyX K H v t := by
  cases d with
  | non => cases r; cases e; exact .base .non
  | bl b => cases r; cases e; exact .base (.bl b)
  | int i => cases r; cases e; exact .base (.int i)
  | str x => cases r; cases e; exact .base (.str x)
  | lst xs => obtain ⟨a, vs, e1, q, _⟩ := r; subst e1; cases e; exact .base (.lst q)
  | tup xs =>
    obtain ⟨a, vs, e1, q, _⟩ := r
    subst e1
    cases e
    rcases q with (q | ⟨o, q⟩) | ⟨o, its, n, hk, hc, _⟩
    · exact .base (.tup q)
    · exact .fTuple q
    · exact .kTuple hk hc
  | dct xs => obtain ⟨a, vs, e1, q, _⟩ := r; subst e1; cases e; exact .base (.dK q)
  | dcT xs => obtain ⟨a, vs, e1, q, _⟩ := r; subst e1; cases e; exact .base (.dT q)
  | obj C fs =>
    obtain ⟨a, dx, vs, e1, q, _⟩ := r
    subst e1
    obtain ⟨hC, rfl⟩ := ite_some (show (if C ∈ cs then some (Value.ref C) else none) = some t from e)
    have c := hcs C hC
    exact .base (.ins q c.cl c.ha c.hn c.htk c.hm)
  | _ => cases e
theorem ok_isi {K : PySem.W.Frag} (cs : List Addr) (hcs : ∀ C ∈ cs, IsC K C) : CallOk K (rIsi K) (f2 (isi K cs)) := f2_ok fun H d1 d2 v1 v2 e Q r1 r2 h q => by
  unfold isi at h
  split at h
  · rename_i t u et eu
    obtain ⟨b, eb, rfl⟩ := map_some h
    have hc : ClsV v2 u := by
      cases d2 with
      | ty n => cases r2; cases eu; exact .ty n
      | adr C => cases r2; cases eu; exact .own C
      | _ => cases eu
    exact ⟨v1, v2, t, u, b, rfl, hc, type_ok hcs r1 et, eb, q _ fun _ => rfl⟩
  · cases h

/-! ### methods of what is built in -/
/-- l.append(e): l slot i's own list -/
def gAppend (x : R) (rs : List R) : M R := fun L => match x, rs with
  | .al i, [r] => (toF r L).bind fun d L1 => match L1[i]? with
    | some (some (.olst ws)) => if ws.length < sizeLine then .ok (sc .non) (L1.set i (some (.olst (ws ++ [.frz d])))) else .bad
    | _ => .bad
  | _, _ => .bad
/-- slot i's own list gets other items -/
theorem list_write {K : PySem.W.Frag} {F B H : Hp} {as : List Addr} {σ : L2.St} {L : Lc} {i : Nat} {ws : List W} (wf : WF F B H as) (s : SRel K F B H σ L as) (e : L[i]? = some (some (.olst ws))) :
    ∃ a vs bs pre post, σ[i]? = some (some (.ref a)) ∧ H a = some (.lst vs) ∧ RepWs K F B H ws vs bs ∧ as = pre ++ ((a :: bs) ++ post) ∧
      ∀ (ws' : List W) (vs' : List V) (bs' : List Addr), RepWs K F B H ws' vs' bs' → (∀ p, List.count p bs' ≤ List.count p bs) → ∃ as', Go F B H as F (upd H a (.lst vs')) as' ∧ SRel K F B (upd H a (.lst vs')) σ (L.set i (some (.olst ws'))) as' := by
  obtain ⟨s0, pre, a1, post, k1, ⟨v, ev, a, vs, bs, e1, q, eb, r⟩, ea, k⟩ := SRel.at s e
  subst ev e1 eb ea
  refine ⟨a, vs, bs, pre, post, k1, q, r, rfl, fun ws' vs' bs' r' hb => ?_⟩
  have nd := wf.nd a
  have kp : ∀ l : List Addr, (∀ p, List.count p (a :: l) ≤ List.count p (pre ++ ((a :: bs) ++ post))) → Kept l H (upd H a (.lst vs')) := fun l hl p ip o eo => by
    rw [upd_ne (fun z => by
      subst z
      have := hl p
      rw [List.count_cons_self] at this
      have ip' : 0 < List.count p l := ip
      omega)]
    exact eo
  have g := Go.write (F := F) (B := B) (p := a) wf (by unfold In; simp only [List.count_append, List.count_cons_self]; omega) (.lst vs')
  have r2 := RepWs.frame (Same.refl F) (Same.refl B) (kp bs' fun p => by have := hb p; simp only [List.count_append, List.count_cons]; omega) r'
  have s3 := k F B _ (some (.ref a)) (some (.olst ws')) (a :: bs') (Same.refl _) (Same.refl _) (kp (pre ++ post) fun p => by simp only [List.count_append, List.count_cons]; omega) ⟨.ref a, rfl, a, vs', bs', rfl, upd_same, rfl, r2⟩
  rw [set_same k1] at s3
  exact ⟨_, g.sub fun p => by have := hb p; simp only [List.count_append, List.count_cons]; omega, s3⟩
theorem ok_append {K : PySem.W.Frag} : MtOk K rAppend gAppend := fun Wx σ F B H L as as0 as1 rx x rs vs Q wf s r0 rr h => by
  unfold gAppend at h
  split at h
  · rename_i i r
    obtain ⟨hx, rfl⟩ := r0
    obtain ⟨v, t, a1, a2, ev, ea, rv, et, ea2⟩ := rr
    subst ev et ea ea2
    obtain ⟨d, L1, ed, h1⟩ := toF_end (End.bind h)
    have wf' : WF F B H (a1 ++ as) := wf.sub fun p => by simp only [List.nil_append, List.append_nil]; exact Nat.le_refl _
    obtain ⟨F1, as2, g1, s1, q1⟩ := toF_ok wf' s rv ed
    split at h1
    · rename_i ws el
      obtain ⟨hz, h2⟩ := of_ite h1
      obtain ⟨a, us, bs, pre, post, k1, q, r, ea3, upd'⟩ := list_write g1.wf s1 el
      rw [hx] at k1
      cases k1
      obtain ⟨as', g2, s2⟩ := upd' (ws ++ [.frz d]) (us ++ [v]) (bs ++ []) (RepWs.snoc r (show RepW K F1 B H (.frz d) v [] from ⟨q1, rfl⟩)) fun p => by rw [List.append_nil]; exact Nat.le_refl _
      refine ⟨a, us, v, rfl, rfl, q, by rw [r.len]; exact hz, ?_⟩
      exact h2 .non F1 _ [] as' ((g1.sup fun p => by simp only [List.nil_append, List.append_nil]; exact Nat.le_refl _).trans g2) s2 ⟨rfl, rfl⟩
    · exact h1.elim
  · exact h.elim
/-- a method that reads data and gives a scalar -/
def g1 (g : D → D → Option D) (x : R) (rs : List R) : M R := fun L => match rs with
  | [r] => mkS g x r L
  | _ => .bad
theorem g1_ok {K : PySem.W.Frag} {r : V → List V → Hp → VK → Prop} {g : D → D → Option D} (hg : ∀ H d1 d2 v1 v2 e Q, Rep K H d1 v1 → Rep K H d2 v2 → g d1 d2 = some e → (∀ v, (∀ F, Rep K F e v) → Q v H) → r v1 [v2] H Q) : MtOk K r (g1 g) := fun Wx σ F B H L as as0 as1 rx x rs vs Q wf s r0 rr h => by
  unfold g1 at h
  split at h
  · rename_i u
    obtain ⟨v, t, a1, a2, ev, ea, rv, et, ea2⟩ := rr
    subst ev et ea
    unfold mkS at h
    split at h
    · rename_i w1 w2 e1 e2
      split at h
      · rename_i d ed
        exact hg H _ _ x v d Q (r0.rd wf.f wf.b s e1) (rv.rd wf.f wf.b s e2) ed fun v hv => h v F H [] as ((Go.refl wf).sub fun p => by simp only [List.nil_append, List.count_append]; omega) s ⟨hv _, rfl⟩
      · exact h.elim
    · exact h.elim
  · exact h.elim
def joinD : D → D → Option D
  | .str a, d => (d.items.bind strsD).bind fun ys => if (ys.map (·.length)).sum + ys.length * a.length ≤ 16777216 then some (.str (Txt.join a ys)) else none
  | _, _ => none
abbrev rJoin (K : PySem.W.Frag) : V → List V → Hp → VK → Prop := fun x xs H Q => ∃ a p, ∃ ys : List Str, x = .str a ∧ xs = [.ref p] ∧ (SqL K H p (ys.map V.str) ∨ SqT K H p (ys.map V.str)) ∧ (ys.map (·.length)).sum + ys.length * a.length ≤ 16777216 ∧ Q (.str (Txt.join a ys)) H
theorem ok_join {K : PySem.W.Frag} : MtOk K (rJoin K) (g1 joinD) := g1_ok fun H d1 d2 v1 v2 e Q r1 r2 h q => by
  cases d1 with
  | str a =>
    obtain ⟨ys, ey, h⟩ := bind_some (show ((d2.items.bind strsD).bind fun ys => if (ys.map (·.length)).sum + ys.length * a.length ≤ 16777216 then some (D.str (Txt.join a ys)) else none) = some e from h)
    obtain ⟨hz, rfl⟩ := ite_some h
    obtain ⟨ds, ed, es⟩ := bind_some ey
    obtain ⟨p, vs, e2, hq, rs⟩ := items_rep ed r2
    cases r1
    have ev := strs_rep es rs
    subst ev
    exact ⟨a, p, ys, rfl, by rw [e2], hq, hz, q _ fun _ => rfl⟩
  | _ => cases h
def sindexD : D → D → Option D
  | .str a, .str b => match Builtin.Str.occurrences a b 0 a.length 1 with
    | i :: _ => some (.int (i : Nat))
    | [] => none
  | _, _ => none
abbrev rSindex : V → List V → Hp → VK → Prop := fun x xs H Q => ∃ a b i rest, x = .str a ∧ xs = [.str b] ∧ Builtin.Str.occurrences a b 0 a.length 1 = i :: rest ∧ Q (.int (i : Nat)) H
theorem ok_sindex {K : PySem.W.Frag} : MtOk K rSindex (g1 sindexD) := g1_ok fun H d1 d2 v1 v2 e Q r1 r2 h q => by
  cases d1 with
  | str a => cases d2 with
    | str b =>
      cases r1; cases r2
      have h' : (match Builtin.Str.occurrences a b 0 a.length 1 with
        | i :: _ => some (D.int (i : Nat))
        | [] => none) = some e := h
      split at h'
      · rename_i i rest eo
        cases h'
        exact ⟨a, b, i, rest, rfl, rfl, eo, q _ fun _ => rfl⟩
      · cases h'
    | _ => cases h
  | _ => cases h

/-! ### x[i] = e -/
def sSetIx (i : Nat) (mi me : M R) : MS := fun L => (me L).thenS fun r L1 => (toF r L1).thenS fun d L2 => match L2[i]? with
  | some (some _) => (mi L2).thenS fun k L3 => match k, L3[i]? with
    | .val (.frz (.int j)), some (some (.olst ws)) => match ixN ws.length j with
      | some n => .next (L3.set i (some (.olst (ws.set n (.frz d)))))
      | none => .bad
    | _, _ => .bad
  | _ => .bad
theorem RepWs.set {K : PySem.W.Frag} {F B H : Hp} {w : W} {v : V} (q : RepW K F B H w v []) : ∀ {ws : List W} {vs : List V} {as : List Addr} (n : Nat), RepWs K F B H ws vs as → ∃ as', (∀ p, List.count p as' ≤ List.count p as) ∧ RepWs K F B H (ws.set n w) (vs.set n v) as'
  | [], _, _, n, h => by
    obtain ⟨rfl, rfl⟩ := h
    exact ⟨[], fun _ => Nat.le_refl _, rfl, rfl⟩
  | u :: ws, _, _, 0, ⟨x, r, a1, a2, e, ea, h, t⟩ => by
    subst e ea
    exact ⟨a2, fun p => by rw [List.count_append]; omega, v, r, [], a2, rfl, rfl, q, t⟩
  | u :: ws, _, _, n + 1, ⟨x, r, a1, a2, e, ea, h, t⟩ => by
    subst e ea
    obtain ⟨as', k, t'⟩ := RepWs.set q n t
    exact ⟨a1 ++ as', fun p => by have := k p; simp only [List.count_append]; omega, x, _, a1, as', rfl, rfl, h, t'⟩
section
variable {X : Cx} {Wx : WX} {fl : List Bool} {i : Nat} {x : Str} {e b : Expr} {mi me : M R} {pos pos' px : Pos}
theorem setIx_rel : ∀ T σ H, bvS X.K Wx fl (sSetIx i mi me) T σ H → tAsg (bvE X.K Wx me) (gSub (tVar i) (bvE X.K Wx mi) rSetL) T σ H := fun T σ H ⟨F, B, L, as, wf, s, h⟩ => by
  refine ⟨F, B, L, as, wf, s, (EndS.thenS h).imp fun r L1 h1 v F1 H1 asr as1 g1 s1 r1 => ?_⟩
  obtain ⟨d, L2, e2, h2⟩ := toF_endS h1
  obtain ⟨F2, as2, g2, s2, q2⟩ := toF_ok g1.wf s1 r1 e2
  split at h2
  · rename_i w0 e0
    obtain ⟨s0, pre0, b0, post0, k0, ⟨vx, evx, _⟩, _, _⟩ := SRel.at s2 e0
    subst evx
    refine ⟨vx, k0, F2, B, L2, as2, g2.wf, s2, ((EndS.thenS h2).behind (g1.trans g2) fun _ _ h => h).imp fun k L3 h3 u F3 H3 asr3 as3 g3 s3 r3 => ?_⟩
    split at h3
    · rename_i j ws el
      split at h3
      · rename_i n en
        have g3' := g3.sub (le_r asr3 as3)
        obtain ⟨a, vs, bs, pre, post, k1, q, rr, ea, wr⟩ := list_write g3'.wf s3 el
        rw [k0] at k1
        cases k1
        have rv : RepW X.K F3 B H3 (.frz d) v [] := ⟨q2.mono g3'.ext, rfl⟩
        obtain ⟨bs', kb, rs'⟩ := RepWs.set rv n rr
        obtain ⟨as', g4, s4⟩ := wr _ _ bs' rs' kb
        refine ⟨a, vs, j, n, rfl, r3.1, q, by rw [rr.len]; exact en, ?_⟩
        exact h3 σ F3 _ as' (((g1.trans g2).trans g3').trans g4) s4 (Pin.refl _ _)
      · exact h3.elim
    · exact h3.elim
  · exact h2.elim
theorem bs_setIx (hN : X.N[i]? = some x) (hv : Vis X.env.scope x) (hd : (x == ("__debug__" : Str)) = false) (hcd : (x == ("__classdict__" : Str)) = false) (hi : PE X b (bvE X.K Wx mi)) (he : PE X e (bvE X.K Wx me))
    (hs : swapsWithSole [.Subscript (.Name x px) b pos'] e pos.line X.env = pure false := by rfl) (hw : swappedStores [.Subscript (.Name x px) b pos'] e X.env = pure none := by rfl) (h1 : (assignEach [.Subscript (.Name x px) b pos'] X.env).map (·.2) = [assign (.Subscript (.Name x px) b pos') X.env] := by rfl)
    (ha : ∀ v, assign (.Subscript (.Name x px) b pos') X.env v = (do
      let ov ← holding [v] (eval (.Name x px) X.env)
      let iv ← holding [v, ov] (eval b X.env)
      standAt pos'
      holding [v, ov, iv] (setItem ov iv v)
      release [v, ov, iv] []) := by intro _; rfl) :
    PS X (.Assign [.Subscript (.Name x px) b pos'] e pos) (bvS X.K Wx fl (sSetIx i mi me)) := ps_imp (ps_asg he (pg_sub (pe_var hN hv hd hcd) hi set_list ha) hs hw h1) setIx_rel
end

/-! ### x += e, x -= e -/
def sAug (fl : List Bool) (i : Nat) (g : R → R → M R) (m : M R) : MS := fun L => match L[i]? with
  | some (some (.frz d)) => (m L).thenS fun r L1 => (g (sc d) r L1).thenS fun z L2 => asgn fl i z L2
  | _ => .bad
section
variable {X : Cx} {Wx : WX} {fl : List Bool} {i : Nat} {x : Str} {e : Expr} {m : M R} {op : Operator} {r : R2} {g : R → R → M R} {pos pos' : Pos}
theorem aug_rel (hg : OpOk X.K r g) : ∀ T σ H, bvS X.K Wx fl (sAug fl i g m) T σ H → tAug i (bvE X.K Wx m) r T σ H := fun T σ H ⟨F, B, L, as, wf, s, h⟩ => by
  unfold sAug at h
  split at h
  · rename_i d ed
    obtain ⟨s0, pre0, b0, post0, k0, ⟨vx, evx, rd, rb⟩, _, _⟩ := SRel.at s ed
    subst evx rb
    refine ⟨vx, k0, F, B, L, as, wf, s, (EndS.thenS h).imp fun r1 L1 h1 v F1 H1 asr as1 g1 s1 r1' => ?_⟩
    refine hg Wx σ F1 B H1 L1 as1 [] asr (sc d) r1 vx v _ g1.wf s1 ⟨rd.mono g1.ext, rfl⟩ r1' ((EndS.thenS h1).behind g1 fun z L2 h2 vz F2 H2 asz as2 g2 s2 rz => ?_)
    exact set_ok g2.wf s2 rz (EndS.behind (g1.trans g2) (Pin.refl _ _) h2)
  · exact h.elim
theorem bs_aug (hN : X.N.Nodup) (hi : X.N[i]? = some x) (hx : L2.Loc X.env.scope x) (ho : OpR X (inplaceOp op) r) (hg : OpOk X.K r g) (he : PE X e (bvE X.K Wx m)) (hf : X.fn x = true ∨ X.env.scope.names.lookup x = some .local := by first | exact .inl rfl | exact .inr rfl | assumption) :
    PS X (.AugAssign (.Name x pos') op e pos) (bvS X.K Wx fl (sAug fl i g m)) := ps_imp (ps_aug hN hi hx he (fun pins s σ H x y v u Q I r1 r2 h => ho pins s σ H x y v u Q I r1 r2 h) hf) (aug_rel hg)
theorem iop_sub : OpR X (inplaceOp .Sub) (rI0 fun i j => .int (i - j)) := opI0 fun _ _ _ _ _ _ _ q => isub_int q
theorem iop_addU : OpR X (inplaceOp .Add) (fun x y H Q => rI0 (fun i j => .int (i + j)) x y H Q ∨ rCatS x y H Q) := opr_or iop_add iop_add_str
theorem ok_iaddU : OpOk X.K (fun x y H Q => rI0 (fun i j => .int (i + j)) x y H Q ∨ rCatS x y H Q) (gOr aAdd aCatS) := .or ok_addI ok_catS
end

/-! ### slices -/
def pNone : M (Option Int) := fun L => .ok none L
def pSome (m : M R) : M (Option Int) := fun L => (m L).bind fun r L1 => match r with
  | .val (.frz (.int i)) => .ok (some i) L1
  | _ => .bad
def okO (K : PySem.W.Frag) (F B H : Hp) (as : List Addr) (σ : L2.St) (Q : Option Int → Hp → Prop) : Option Int → Lc → Prop := fun o L => ∀ F' H' as', Go F B H as F' H' as' → SRel K F' B H' σ L as' → Q o H'
def bvO (K : PySem.W.Frag) (Wx : WX) (m : M (Option Int)) : TO := fun σ H Q => ∃ F B L as, WF F B H as ∧ SRel K F B H σ L as ∧ End K Wx F B H as σ (okO K F B H as σ Q) (m L)
theorem po_imp {X : Cx} {e : Option Expr} {t u : TO} (h : PO X e t) (q : ∀ σ H Q, u σ H Q → t σ H Q) : PO X e u := ⟨fun pins s σ H Q I w => h.run pins s σ H Q I (q _ _ _ w)⟩
section
variable {X : Cx} {Wx : WX} {e : Expr} {lo hi : Option Expr} {m : M R} {ml mh : M (Option Int)} {pos p2 : Pos}
theorem bo_none : PO X none (bvO X.K Wx pNone) := po_imp po_none fun σ H Q ⟨F, B, L, as, wf, s, h⟩ => h F H as (Go.refl wf) s
theorem bo_some (he : PE X e (bvE X.K Wx m)) : PO X (some e) (bvO X.K Wx (pSome m)) := po_imp (po_some he) fun σ H Q ⟨F, B, L, as, wf, s, h⟩ => by
  refine ⟨F, B, L, as, wf, s, (End.bind h).imp fun r L1 h1 v F1 H1 asr as1 g1 s1 r1 => ?_⟩
  split at h1
  · rename_i i
    exact ⟨i, r1.1, h1 F1 H1 as1 (g1.sub (le_r _ _)) s1⟩
  · exact h1.elim
def cutL {α : Type} (xs : List α) (lo hi : Option Int) : List α := (xs.drop (HT.sIx xs.length 0 lo)).take (HT.sIx xs.length xs.length hi - HT.sIx xs.length 0 lo)
/-- a[lo:hi] by what a is -/
def slW (w : W) (lo hi : Option Int) : Option W := match w.str? with
  | some z => if z.length ≤ sizeLine then some (.frz (.str (cutS z lo hi))) else none
  | none => if w.isLst = true then (w.seq.map fun ws => .olst (cutL ws lo hi)) else none
def mSl (m : M R) (ml mh : M (Option Int)) : M R := fun L => (m L).bind fun r L1 => (ml L1).bind fun l L2 => (mh L2).bind fun h L3 => match r.get L3 with
  | some w => match slW w l h with
    | some u => .ok (.val u) L3
    | none => .bad
  | none => .bad
abbrev rSlU (K : PySem.W.Frag) : V → Option Int → Option Int → Hp → VK → Prop := fun x lo hi H Q => rSlL K x lo hi H Q ∨ rSlS x lo hi H Q
theorem repws_cut {K : PySem.W.Frag} {F B H : Hp} : ∀ {ws : List W} {vs : List V}, RepWs K F B H ws vs [] → ∀ n, RepWs K F B H (ws.drop n) (vs.drop n) [] ∧ RepWs K F B H (ws.take n) (vs.take n) []
  | [], vs, h, n => by rw [show vs = [] from h.1]; simp [RepWs]
  | w :: ws, vs, h, 0 => ⟨h, rfl, rfl⟩
  | w :: ws, vs, ⟨v, r, a1, a2, e, ea, h, t⟩, n + 1 => by
    obtain ⟨rfl, rfl⟩ := List.append_eq_nil_iff.mp ea.symm
    subst e
    obtain ⟨h1, h2⟩ := repws_cut t n
    exact ⟨h1, v, _, [], [], rfl, rfl, h, h2⟩
theorem lst_rep {K : PySem.W.Frag} {F B H : Hp} (sF : Same F H) (sB : Same B H) {w : W} {v : V} {as : List Addr} {ws : List W} (hl : w.isLst = true) (h : RepW K F B H w v as) (es : w.seq = some ws) : ∃ a ys, v = .ref a ∧ SqL K H a ys ∧ RepWs K F B H ws ys [] := by
  unfold W.isLst at hl
  split at hl
  · cases es; obtain ⟨⟨a, ys, e, q, r⟩, _⟩ := h; exact ⟨a, ys, e, .inl (.inl (sF _ _ q)), reps_frz r⟩
  · cases es; obtain ⟨⟨a, ys, e, q, r⟩, _⟩ := h; exact ⟨a, ys, e, sF.seq q, reps_frz r⟩
  · cases es; obtain ⟨⟨a, ys, e, q, r⟩, _⟩ := h; exact ⟨a, ys, e, .inl (.inl (sB _ _ q)), reps_brw r⟩
  · cases es; obtain ⟨⟨a, ys, e, q, r⟩, _⟩ := h; exact ⟨a, ys, e, sB.seq q, reps_brw r⟩
  · rename_i us2
    have es' : (if us2.all W.no = true then some us2 else none) = some ws := es
    split at es'
    · rename_i hn
      cases es'
      obtain ⟨a, ys, bs, e, q, eb, r⟩ := h
      have := nos_nil hn r
      subst this
      exact ⟨a, ys, e, .inl (.inl q), r⟩
    · cases es'
  · cases hl
theorem be_slice (he : PE X e (bvE X.K Wx m)) (hl : PO X lo (bvO X.K Wx ml)) (hu : PO X hi (bvO X.K Wx mh)) : PE X (.Subscript e (.Slice lo hi none p2) pos) (bvE X.K Wx (mSl m ml mh)) := by
  refine pe_imp (pe_slice (SlR.or sl_list sl_str) he hl hu) fun σ H Q ⟨F, B, L, as, wf, s, h⟩ => ?_
  refine ⟨F, B, L, as, wf, s, (End.bind h).imp fun r L1 h1 v F1 H1 asr as1 g1 s1 r1 => ?_⟩
  refine ⟨F1, B, L1, as1, g1.wf.sub (le_r _ _), s1, (End.bind h1).behind (g1.sub (le_r _ _)) fun l L2 h2 F2 H2 as2 g2 s2 => ?_⟩
  obtain ⟨g3, k3⟩ := framed g1 g2
  refine ⟨F2, B, L2, as2, g2.wf, s2, (End.bind h2).behind (g3.sub (le_r _ _)) fun u L3 h3 F3 H3 as3 g4 s3 => ?_⟩
  obtain ⟨g5, k5⟩ := framed g3 g4
  have r3 := (r1.frame g2.ext k3).frame g4.ext k5
  split at h3
  · rename_i w ew
    split at h3
    · rename_i z ez
      obtain ⟨bs, rw'⟩ := get_ok s3 r3 ew
      have g6 := g5.sub (le_r asr as3)
      unfold slW at ez
      split at ez
      · rename_i t et
        have := str_of et
        subst this
        obtain ⟨hz, rfl⟩ := ite_some ez
        exact .inr ⟨t, rw'.1, hz, h3 _ F3 H3 [] as3 g6 s3 ⟨rfl, rfl⟩⟩
      · by_cases hlst : w.isLst = true
        · rw [if_pos hlst] at ez
          obtain ⟨ws, es, rfl⟩ := map_some ez
          obtain ⟨a, ys, e1, q, rs⟩ := lst_rep g5.wf.f g5.wf.b hlst rw' es
          subst e1
          refine .inl ⟨a, ys, rfl, q, fun p np => ?_⟩
          have hlen := rs.len
          have rc : RepWs X.K F3 B H3 (cutL ws l u) (cutV ys l u) [] := by
            unfold cutL cutV
            rw [hlen]
            exact (repws_cut (repws_cut rs _).1 _).2
          exact h3 (.ref p) F3 _ [p] as3 (g6.trans (Go.alloc g6.wf np _)) (SRel.frame (Same.refl _) (Same.refl _) (keep_new np _) s3) ⟨p, _, [], rfl, upd_same, rfl, RepWs.frame (Same.refl _) (Same.refl _) (keep_new np _) rc⟩
        · rw [if_neg hlst] at ez
          cases ez
    · exact h3.elim
  · exact h3.elim
end

/-! ### comprehensions, the block's context -/
theorem Bd.blk {X : Cx} {Wx : WX} {k : Nat} (c : Bd X Wx k) (s : Shared) (H : Hp) (scope : Scope) (cenv : Env) (fp : List Addr) : Bd (X.blk s H scope cenv fp) W0 k := ⟨c.calm, c.nd, takes0, PassesOwn.never, c.hr⟩
section
variable {X : Cx} {Wx : WX} {k : Nat} {elt tg iter : Expr} {ifs : List Expr} {scope : Scope} {own : List (Str × Nat)} {pos : Pos} {mi : M (List W)} {fl fo : List Bool} {g : MG} {mt : M Bool} {me : M R}
theorem bts_nil {X : Cx} : PTs X [] (bvT X.K W0 mYes) := ⟨fun pins s σ H Q I ⟨F, B, L, as, wf, sr, h⟩ => pts_nil.run pins s σ H Q I (h F H as (Go.refl wf) sr)⟩
theorem be_lc (c : Bd X Wx k) (kp : Bool) (hi : PI X tg iter (bvI X.K Wx mi)) (ok : BlkOk X.N X.env.scope scope own)
    (hg : ∀ (s : Shared) (H : Hp) (C : Addr) (cl : List (Str × Addr)) (fp : List Addr), PG (X.blk s H scope (compEnvC scope cl C X.env) fp) tg (bvG X.K fl g))
    (ht : ∀ (s : Shared) (H : Hp) (C : Addr) (cl : List (Str × Addr)) (fp : List Addr), PTs (X.blk s H scope (compEnvC scope cl C X.env) fp) ifs (bvT X.K W0 mt))
    (he : ∀ (s : Shared) (H : Hp) (C : Addr) (cl : List (Str × Addr)) (fp : List Addr), PE (X.blk s H scope (compEnvC scope cl C X.env) fp) elt (bvE X.K W0 me)) (hs : ∀ x, foldedSetIterable iter X.env x = pure x := by intro _; rfl) :
    PE X (.ListComp elt [⟨tg, iter, ifs, 0⟩] scope pos) (bvE X.K Wx (mLc kp fl (own.map (·.2)) mi g mt me)) := pe_imp (pe_lc c.calm c.nd hi ok hg ht he hs) lc_rel
theorem bs_setLc {i : Nat} {y : Str} {py spos : Pos} (c : Bd X Wx k) (kp : Bool) (hy : X.N[i]? = some y) (hyl : X.env.scope.names.lookup y = some .local) (hsw : swapsWith (.ListComp elt [⟨tg, iter, ifs, 0⟩] scope pos) (some (.Name y py)) spos.line X.env = pure true) (hi : PI X tg iter (bvI X.K Wx mi)) (ok : BlkOk X.N X.env.scope scope own)
    (hg : ∀ (s : Shared) (H : Hp) (C : Addr) (cl : List (Str × Addr)) (fp : List Addr), PG (X.blk s H scope (compEnvC scope cl C X.env) fp) tg (bvG X.K fl g))
    (ht : ∀ (s : Shared) (H : Hp) (C : Addr) (cl : List (Str × Addr)) (fp : List Addr), PTs (X.blk s H scope (compEnvC scope cl C X.env) fp) ifs (bvT X.K W0 mt))
    (he : ∀ (s : Shared) (H : Hp) (C : Addr) (cl : List (Str × Addr)) (fp : List Addr), PE (X.blk s H scope (compEnvC scope cl C X.env) fp) elt (bvE X.K W0 me)) (hs : ∀ x, foldedSetIterable iter X.env x = pure x := by intro _; rfl) :
    PS X (.Assign [.Name y py] (.ListComp elt [⟨tg, iter, ifs, 0⟩] scope pos) spos) (bvS X.K Wx fo (sSet fo i (mLc kp fl (own.map (·.2)) mi g mt me))) := by
  refine ps_imp (ps_setLc c.calm c.nd hy hyl hsw hi ok hg ht he hs) fun T σ H ⟨F, B, L, as, wf, s, h⟩ => ?_
  refine lc_rel (Wx := Wx) σ H _ ⟨F, B, L, as, wf, s, (EndS.thenS h).imp fun r L1 h1 v F' H' asr as' g' s' r' => ?_⟩
  exact set_ok g'.wf s' r' (EndS.behind g' (Pin.refl _ _) h1)
end

/-! ### try around what never raises -/
section
variable {X : Cx} {Wx : WX} {fl : List Bool} {body : List Stmt} {h0 : ExceptHandler} {hs : List ExceptHandler} {m : MS} {pos : Pos}
/-- what a reading with no exception is in any context -/
def noX (m : MS) : MS := fun L => match m L with
  | .exc _ _ => .bad
  | r => r
theorem bs_try_thru (hb : PSs X.nox body (bvS X.K W0 fl m)) : PS X (.Try body (h0 :: hs) [] [] pos) (bvS X.K Wx fl (noX m)) := by
  refine ps_imp (ps_try_thru0 hb) fun T σ H ⟨F, B, L, as, wf, s, h⟩ => ⟨F, B, L, as, wf, s, ?_⟩
  unfold noX at h
  cases e : m L with
  | exc x L1 => rw [e] at h; exact h.elim
  | next L1 => rw [e] at h; exact h
  | brk L1 => rw [e] at h; exact h
  | cnt L1 => rw [e] at h; exact h
  | ret w L1 => rw [e] at h; exact h
  | bad => rw [e] at h; exact h
theorem Bd.nox {k : Nat} (c : Bd X Wx k) : Bd X.nox W0 k := ⟨c.calm, c.nd, takes0, PassesOwn.never, c.hr⟩
end
end BV

namespace BV
open PySem PySem.Spec PyProof.Rows L2

/-! ### what is never reached may be read as nothing -/
def mBad {α : Type} : M α := fun _ => .bad
def sBad : MS := fun _ => .bad
section
variable {X : Cx} {Wx : WX} {fl : List Bool} {e : Expr} {st : Stmt} {sts : List Stmt}
theorem be_bad : PE X e (bvE X.K Wx mBad) := ⟨fun pins s σ H Q I ⟨F, B, L, as, wf, sr, h⟩ => h.elim⟩
theorem bs_bad : PS X st (bvS X.K Wx fl sBad) := ⟨fun pins s σ H Q I ⟨F, B, L, as, wf, sr, h⟩ => h.elim⟩
theorem bss_bad : PSs X sts (bvS X.K Wx fl sBad) := ⟨fun pins s σ H Q I ⟨F, B, L, as, wf, sr, h⟩ => h.elim⟩
theorem bt_bad : PT X e (bvT X.K Wx mBad) := ⟨fun pins s σ H Q I ⟨F, B, L, as, wf, sr, h⟩ => h.elim⟩
end

/-! ### what the top has written of defs -/
structure DefAt (K : PySem.W.Frag) (mg : Str → Option Value) (x qual : Str) (st : Stmt) (ps : List Str) : Prop where
  ex : ∃ (f : Addr) (fd : FuncData), mg x = some (.ref f) ∧ PySem.W.keepIn K (.ref f) = true ∧ Binds K fd ps [] ∧ Fun K x qual st f fd
structure MethAt (K : PySem.W.Frag) (C : Addr) (m qual : Str) (st : Stmt) (ps : List Str) : Prop where
  ex : ∃ (f : Addr) (fd : FuncData), Meth K C m f ∧ Binds K fd ps [] ∧ Fun K m qual st f fd
structure MakeAt (K : PySem.W.Frag) (C : Addr) (qual : Str) (st : Stmt) (ps : List Str) : Prop where
  ex : ∃ (f : Addr) (fd : FuncData), Mk K C f ∧ Binds K fd ps [] ∧ Fun K "__init__" qual st f fd
structure LawAt (K : PySem.W.Frag) (mg : Str → Option Value) (x qual : Str) (st : Stmt) (p : Str) : Prop where
  ex : ∃ (f : Addr) (fd : FuncData), mg x = some (.ref f) ∧ (∀ (s : Shared) (v : Value), BindsTo s fd ⟨[v], []⟩ [(p, v)]) ∧ Fun K x qual st f fd
structure DefOk (P : Program) (w : World) (K : PySem.W.Frag) (mg : Str → Option Value) (base : Heap) (k : Nat) (x : Str) (fl : List Bool) (fn : Fn) : Prop where
  ex : ∃ (f : Addr) (fd : FuncData) (ps : List Str), mg x = some (.ref f) ∧ PySem.W.keepIn K (.ref f) = true ∧ Binds K fd ps [] ∧ FnOk P w K mg base (L2.CX P w) k f fd ps (spBV K fl fn)
structure MetOk (P : Program) (w : World) (K : PySem.W.Frag) (mg : Str → Option Value) (base : Heap) (k : Nat) (C : Addr) (m : Str) (fl : List Bool) (fn : Fn) : Prop where
  cls : Cls K C
  ex : ∃ (f : Addr) (fd : FuncData) (ps : List Str), Meth K C m f ∧ FnOk P w K mg base (L2.CX P w) k f fd ps (spBV K fl fn) ∧ Binds K fd ps []
structure MakeOk (P : Program) (w : World) (K : PySem.W.Frag) (mg : Str → Option Value) (base : Heap) (k : Nat) (C : Addr) (fl : List Bool) (fn : Fn) : Prop where
  ex : ∃ (f : Addr) (fd : FuncData) (ps : List Str), Mk K C f ∧ Binds K fd ps [] ∧ FnOk P w K mg base (L2.CX P w) k f fd ps (spBV K (true :: fl) fn)
section
variable {P : Program} {w : World} {K : PySem.W.Frag} {mg : Str → Option Value} {base : Heap} {x qual m : Str} {st : Stmt} {ps : List Str} {k : Nat} {fl : List Bool} {fn : Fn} {C : Addr}
theorem DefAt.ok (D : DefAt K mg x qual st ps) (h : ∀ f fd, Fun K x qual st f fd → FnOk P w K mg base (L2.CX P w) k f fd ps (spBV K fl fn)) : DefOk P w K mg base k x fl fn := by
  obtain ⟨f, fd, h1, h2, h3, h4⟩ := D.ex
  exact ⟨f, fd, ps, h1, h2, h3, h f fd h4⟩
theorem MethAt.ok (D : MethAt K C m qual st ps) (cl : Cls K C) (h : ∀ f fd, Fun K m qual st f fd → FnOk P w K mg base (L2.CX P w) k f fd ps (spBV K fl fn)) : MetOk P w K mg base k C m fl fn := by
  obtain ⟨f, fd, h1, h3, h4⟩ := D.ex
  exact ⟨cl, f, fd, ps, h1, h f fd h4, h3⟩
theorem MakeAt.ok (D : MakeAt K C qual st ps) (h : ∀ f fd, Fun K "__init__" qual st f fd → FnOk P w K mg base (L2.CX P w) k f fd ps (spBV K (true :: fl) fn)) : MakeOk P w K mg base k C fl fn := by
  obtain ⟨f, fd, h1, h3, h4⟩ := D.ex
  exact ⟨f, fd, ps, h1, h3, h f fd h4⟩
end
section
variable {l : PySem.W.OpenLaw} {K : PySem.W.Frag} {h : Heap} {mg : Str → Option Value} {x qual : Str} {st : Stmt} {ps : List Str} {f : Addr} {C : Addr} {oc : Value} {od an : Option Addr} {sl : Array (Option Value)} {kV dc pm cd ct : Value}
theorem DefAt.mk' (X : K.In h) (G : h.Ns mainGlobals mg) (hb : ∀ (kV doc pm : Value) (an : Option Addr) (cdv ct : Value) (us : List Value), us.length = ps.length → bindArgs (PySem.W.fnOf x qual (defArgs st) (defBody st) (defScope st) .none kV doc pm an cdv ct) ⟨us, []⟩ = pure (ps.zip us))
    (a : PySem.W.nsIn K mainGlobals x = some (some (.ref f))) (l : K.lookup f = some ⟨oc, od, .func (PySem.W.fnOf x qual (defArgs st) (defBody st) (defScope st) .none kV dc pm an cd ct), sl⟩) (c : PySem.W.codeIn K cd qual = true) (k : PySem.W.keepIn K (.ref f) = true) : DefAt K mg x qual st ps :=
  have F := fun_mk (st := st) l c k
  ⟨f, _, PySem.W.mg_of X G a, k, F.binds hb, F⟩
theorem MethAt.mk' (hb : ∀ (kV doc pm : Value) (an : Option Addr) (cdv ct : Value) (us : List Value), us.length = ps.length → bindArgs (PySem.W.fnOf x qual (defArgs st) (defBody st) (defScope st) .none kV doc pm an cdv ct) ⟨us, []⟩ = pure (ps.zip us))
    (a : PySem.W.findIn K (.ref C) x = some (some (.ref f))) (i : PySem.W.isFn K (.ref f) = true) (l : K.lookup f = some ⟨oc, od, .func (PySem.W.fnOf x qual (defArgs st) (defBody st) (defScope st) .none kV dc pm an cd ct), sl⟩) (c : PySem.W.codeIn K cd qual = true) (k : PySem.W.keepIn K (.ref f) = true) : MethAt K C x qual st ps :=
  have F := fun_mk (st := st) l c k
  ⟨f, _, ⟨a, i, k⟩, F.binds hb, F⟩
theorem MakeAt.mk' (hb : ∀ (kV doc pm : Value) (an : Option Addr) (cdv ct : Value) (us : List Value), us.length = ps.length → bindArgs (PySem.W.fnOf "__init__" qual (defArgs st) (defBody st) (defScope st) .none kV doc pm an cdv ct) ⟨us, []⟩ = pure (ps.zip us))
    (a : PySem.W.findIn K (.ref C) "__init__" = some (some (.ref f))) (i : PySem.W.isFn K (.ref f) = true) (l : K.lookup f = some ⟨oc, od, .func (PySem.W.fnOf "__init__" qual (defArgs st) (defBody st) (defScope st) .none kV dc pm an cd ct), sl⟩) (c : PySem.W.codeIn K cd qual = true) (k : PySem.W.keepIn K (.ref f) = true)
    (m : PySem.W.makesIn K C = true) (kc : PySem.W.keepIn K (.ref C) = true) : MakeAt K C qual st ps :=
  have F := fun_mk (st := st) l c k
  ⟨f, _, ⟨m, a, i, kc⟩, F.binds hb, F⟩
theorem LawAt.mk' {p : Str} (X : K.In h) (G : h.Ns mainGlobals mg) (hb : ∀ (kV doc pm : Value) (an : Option Addr) (cdv ct : Value) (v : Value), bindArgs (PySem.W.fnOf x qual (defArgs st) (defBody st) (defScope st) .none kV doc pm an cdv ct) ⟨[v], []⟩ = pure [(p, v)])
    (a : PySem.W.nsIn K mainGlobals x = some (some (.ref f))) (l : K.lookup f = some ⟨oc, od, .func (PySem.W.fnOf x qual (defArgs st) (defBody st) (defScope st) .none kV dc pm an cd ct), sl⟩) (c : PySem.W.codeIn K cd qual = true) (k : PySem.W.keepIn K (.ref f) = true) : LawAt K mg x qual st p :=
  ⟨f, _, PySem.W.mg_of X G a, fun s v => .of_eq (hb _ _ _ _ _ _ v), fun_mk (st := st) l c k⟩
end
section
variable {X : Cx} {Wx : WX} {k j : Nat} {fl : List Bool} {fn : Fn} {x m : Str} {p pos apos : Pos} {o e : Expr} {es : List Expr} {ma : M R} {mr : M (List R)} {C : Addr} {pl : Sem Bool}
theorem be_callD (c : Bd X Wx j) (D : DefOk X.prog X.w X.K X.mg X.base k x fl fn) (ha : PA X (e :: es) (bvA X.K Wx mr)) (hk : k ≤ j := by decide)
    (hg : Gl X x := by rfl) (hdb : (x == ("__debug__" : Str)) = false := by decide) (he : starEach (e :: es) X.env = (false, eval e X.env) :: starEach es X.env := by rfl) (hpl : (backTo pos (starEach es X.env)).any (·.1) = false := by rfl) :
    PE X (.Call (.Name x p) (e :: es) [] pos) (bvE X.K Wx (mCall fl fn mr)) := by
  obtain ⟨f, fd, ps, h1, h2, h3, h4⟩ := D.ex
  exact be_call c h4 hk h1 h2 h3 hg ha hdb he hpl
theorem be_makeD (c : Bd X Wx j) (D : MakeOk X.prog X.w X.K X.mg X.base k C fl fn) (hm : X.mg x = some (.ref C)) (ha : PA X (e :: es) (bvA X.K Wx mr)) (hk : k + 1 ≤ j := by decide)
    (hg : Gl X x := by rfl) (hdb : (x == ("__debug__" : Str)) = false := by decide) (he : starEach (e :: es) X.env = (false, eval e X.env) :: starEach es X.env := by rfl) (hpl : (backTo pos (starEach es X.env)).any (·.1) = false := by rfl) :
    PE X (.Call (.Name x p) (e :: es) [] pos) (bvE X.K Wx (mMake C fl fn mr)) := by
  obtain ⟨f, fd, ps, h1, h3, h4⟩ := D.ex
  exact be_make c h1 h4 hk hm h3 hg ha hdb he hpl
def dOne (C : Addr) (fl : List Bool) (fn : Fn) : Disp := fun A => if A = C then some (fl, fn) else none
theorem dOne_ok (D : MetOk X.prog X.w X.K X.mg X.base k C m fl fn) : ∀ A fl' fn', dOne C fl fn A = some (fl', fn') → MethOk X k m A fl' fn' := fun A fl' fn' e => by
  unfold dOne at e
  split at e
  · rename_i h
    cases e
    subst h
    exact ⟨D.cls, D.ex⟩
  · cases e
theorem be_methD (c : Bd X Wx j) (D : MetOk X.prog X.w X.K X.mg X.base k C m fl fn) (he : PE X o (bvE X.K Wx ma)) (ha : PA X (e :: es) (bvA X.K Wx mr)) (hk : k ≤ j := by decide)
    (hst : starEach (e :: es) X.env = (false, eval e X.env) :: starEach es X.env := by rfl) (hpl : (backTo pos (starEach es X.env)).any (·.1) = false := by rfl)
    (ht : eval (.Call (.Attribute o m apos) (e :: es) [] pos) X.env = (eval o X.env >>= fun ov => standAt apos.atName >>= fun _ => holding [ov] (getMethod ov m pl) >>= fun q => callWith pos q.1 q.2 (backTo pos (starEach (e :: es) X.env)) (backToKw pos (keywordEach [] X.env))) := by rfl) :
    PE X (.Call (.Attribute o m apos) (e :: es) [] pos) (bvE X.K Wx (mMeth (dOne C fl fn) m ma mr)) := be_meth c hk (dOne_ok D) he ha hst hpl ht
end
/-- one class's field -/
theorem one_cls {C : Addr} {p : Addr → Prop} (h : p C) : ∀ A ∈ [C], p A := fun A hA => by
  have e : A = C := by simpa using hA
  subst e
  exact h

/-! ### the end -/
def spLaw (K : PySem.W.Frag) (n : Nat) : Sp := fun vs H Q _ => ∃ (a : Addr) (ns : List Int), vs = [.ref a] ∧ SqL K H a (ns.map V.int) ∧ ns.length ≤ n ∧ ∀ H', Q (.bl true) H'
theorem reps_ints {K : PySem.W.Frag} {F : Hp} : ∀ ns : List Int, Reps K F (ns.map D.int) (ns.map V.int)
  | [] => rfl
  | _ :: r => ⟨_, _, rfl, rfl, reps_ints r⟩
theorem sp_law {K : PySem.W.Frag} {n : Nat} {fn : Fn} (h : ∀ ns : List Int, ns.length ≤ n → fn [.frz (.lok (ns.map D.int))] = .ok (.frz (.bl true)) []) : ∀ vs H Q E, spLaw K n vs H Q E → spBV K [false] fn vs H Q E := by
  rintro vs H Q E ⟨a, ns, rfl, q, hl, k⟩
  refine ⟨rfl, H, H, [.frz (.lok (ns.map D.int))], [], ⟨fun _ _ e => e, fun _ _ e => e, fun p => Nat.zero_le _, fun p hp => absurd hp (by simp [In])⟩, ?_, ?_⟩
  · exact ⟨.ref a, [], [], [], rfl, rfl, ⟨⟨a, _, rfl, q, reps_ints ns⟩, rfl⟩, rfl, rfl⟩
  · rw [h ns hl]
    intro v F' H' asw as' g r o
    have ev : v = .bl true := r.1
    subst ev
    exact k H'
theorem law_end {l : PySem.W.OpenLaw} {n k : Nat} {q : Program} {loose : List Str} {XP : (Str → Option Value) → Heap → Prop} {YP : World → Heap → Prop} {d : DefRec} {K : Params → PySem.W.Frag} {qual p : Str} {st : Stmt} (hn : l.most = some n) (hdf : d.params.defaults = []) (hn2 : n ≤ sizeLine) (hr : Room k callerA)
    (hY : ∀ (w : World) (h : Heap), YP w h → (K w.params).In h)
    (F : ∀ (w : World) (mg : Str → Option Value) (h : Heap), (K w.params).In h → h.Ns mainGlobals mg →
      ∃ fn : Fn, LawAt (K w.params) mg d.name qual st p ∧ (∀ (base : Heap) (f : Addr) (fd : FuncData), Fun (K w.params) d.name qual st f fd → FnOk l.prog w (K w.params) mg base (L2.CX l.prog w) k f fd [p] (spBV (K w.params) [false] fn)) ∧
        ∀ ns : List Int, ns.length ≤ n → fn [.frz (.lok (ns.map D.int))] = .ok (.frz (.bl true)) []) :
    PySem.W.WalkO q loose XP YP l.row.toRowW d [] (fun f vs => PySem.call f vs) := by
  refine L2.walk_of (n := n) (k := k) (x := p) (CX := fun w => L2.CX l.prog w) (sp := fun w => spLaw (K w.params) n) hn hn2 hdf hr hY (fun w mg fa h KX G hmg => ?_) (fun _ _ a ns hl _ hS => ⟨a, ns, rfl, hS, hl, fun _ => rfl⟩) fun w H s e s' z => ?_
  · obtain ⟨fn, LA, ok, law⟩ := F w mg h KX G
    obtain ⟨f, fd, h1, h2, h3⟩ := LA.ex
    have e := hmg.symm.trans h1
    cases e
    exact ⟨fd, h2, fun base _ _ => (ok base fa fd h3).imp (sp_law law)⟩
  · obtain ⟨a, B, H', cls, d, _, _, _, _, _, _, _, z⟩ := z
    exact z
end BV

namespace BV
open PySem PySem.Spec PyProof.Rows L2
def mBits (m : M R) : M R := fun L => (m L).bind fun r L1 => match r with
    | .val (.frz (.int i)) => .ok (sc (.int (Builtin.Int.intBits i : Nat))) L1
    | _ => .bad
section
variable {X : Cx} {Wx : WX} {a b c : Expr} {ma mb mc : M R} {pos apos : Pos} {r r' : R2} {g g' : R → R → M R} {op op' : CmpOp} {m : M Bool}
theorem be_chainD (ho : OpR X (compareOp op) r) (hg : OpOk X.K r g) (ho' : OpR X (compareOp op') r') (hg' : OpOk X.K r' g') (ha : PE X a (bvE X.K Wx ma)) (hb : PE X b (bvE X.K Wx mb)) (hc : PE X c (bvE X.K Wx mc)) (hm : lastMarks [op, op'] [b, c] = false := by with_unfolding_all rfl) :
    PE X (.Compare a [op, op'] [b, c] pos) (bvE X.K Wx (mChain g g' ma mb mc)) := be_chain ho hg ho' hg' ha hb hc (of_chain hg hg') (pe_chain ho ho' ha hb hc hm)
theorem bt_chainD (ho : OpR X (compareOp op) r) (hg : OpOk X.K r g) (ho' : OpR X (compareOp op') r') (hg' : OpOk X.K r' g') (ha : PE X a (bvE X.K Wx ma)) (hb : PE X b (bvE X.K Wx mb)) (hc : PE X c (bvE X.K Wx mc)) (hm : lastMarks [op, op'] [b, c] = false := by with_unfolding_all rfl) :
    PT X (.Compare a [op, op'] [b, c] pos) (bvT X.K Wx (mBl (mChain g g' ma mb mc))) := pt_imp (pt_chain ho ho' ha hb hc hm) (of_bl (of_chain hg hg'))
theorem bgs_cons {e : Expr} {es : List Expr} {fl : List Bool} {g : MG} {gs : List W → MS} (h1 : PG X e (bvG X.K fl g)) (h2 : PGs X es (bvGs X.K fl gs)) (hs : (assignEach (e :: es) X.env).map (·.2) = assign e X.env :: (assignEach es X.env).map (·.2) := by rfl) : PGs X (e :: es) (bvGs X.K fl (gsCons g gs)) :=
  ⟨fun pins s σ H vs us Q I r h => (pgs_cons h1 h2 hs).run pins s σ H vs us Q I r (gs_rel vs σ H Q h)⟩
theorem be_bitsD (ha : PE X a (bvE X.K Wx ma)) (hbase : attributeBase a "bit_length" X.env (eval a X.env) = eval a X.env := by rfl) (hline : (apos.endLine == pos.line) = true := by rfl) : PE X (.Call (.Attribute a "bit_length" apos) [] [] pos) (bvE X.K Wx (mBits ma)) := be_bits ha hbase hline
theorem bts_one (h : PT X c (bvT X.K W0 m)) : PTs X [c] (bvT X.K W0 m) := pts_one h
end
theorem na_of {K : PySem.W.Frag} {C : Addr} {f : Str} (h : PySem.W.findIn K (.ref C) f = some none) : NoAttr K C f := h
theorem blkAt (N : List Str) (sc : Scope) {scope : Scope} {own : List (Str × Nat)} (h : BlkOk N sc scope own) : BlkOk N sc scope own := h
/-- one more than the i-th slot's number -/
def fuelI (i : Nat) : Lc → Nat := fun L => match L[i]? with
  | some (some (.frz (.int n))) => n.toNat + 1
  | _ => 0
end BV

namespace BV
open PySem PySem.Spec PyProof.Rows L2

/-! ### how the readings are evaluated: rules for simp -/
abbrev iW (n : Int) : W := .frz (.int n)
abbrev iR (n : Int) : R := .val (.frz (.int n))
abbrev bR (b : Bool) : R := .val (.frz (.bl b))
section
variable {α β : Type} {L : Lc} {fl : List Bool}
@[simp] theorem e_bind (a : α) (f : α → Lc → Res β) : (Res.ok a L).bind f = f a L := (rfl)
@[simp] theorem e_then (a : α) (f : α → Lc → SRes) : (Res.ok a L).thenS f = f a L := (rfl)
@[simp] theorem e_badb (f : α → Lc → Res β) : (Res.bad).bind f = .bad := (rfl)
def look (i : Nat) (o : Option (Option W)) (L : Lc) : Res R := match o with
  | some (some (.frz d)) => .ok (.val (.frz d)) L
  | some (some (.brw d)) => .ok (.val (.brw d)) L
  | some (some _) => .ok (.al i) L
  | _ => .bad
@[simp] theorem e_var (i : Nat) : mVar i L = look i L[i]? L := (rfl)
@[simp] theorem e_lk_f (i : Nat) (d : D) : look i (some (some (.frz d))) L = .ok (.val (.frz d)) L := (rfl)
@[simp] theorem e_lk_b (i : Nat) (d : D) : look i (some (some (.brw d))) L = .ok (.val (.brw d)) L := (rfl)
@[simp] theorem e_lk_l (i : Nat) (ws : List W) : look i (some (some (.olst ws))) L = .ok (.al i) L := (rfl)
@[simp] theorem e_lk_t (i : Nat) (ws : List W) : look i (some (some (.otup ws))) L = .ok (.al i) L := (rfl)
@[simp] theorem e_lk_o (i : Nat) (C : Addr) (fs : List (Str × W)) : look i (some (some (.oobj C fs))) L = .ok (.al i) L := (rfl)
@[simp] theorem e_C (d : D) : mC d L = .ok (.val (.frz d)) L := (rfl)
@[simp] theorem e_op (g : R → R → M R) (a b : M R) : mOp g a b L = (a L).bind fun x L1 => (b L1).bind fun y L2 => g x y L2 := (rfl)
def SRes.seq (r : SRes) (b : MS) : SRes := match r with
  | .next L1 => b L1
  | r => r
@[simp] theorem e_seq (a b : MS) : sSeq a b L = (a L).seq b := (rfl)
@[simp] theorem e_seq_n (b : MS) : (SRes.next L).seq b = b L := (rfl)
@[simp] theorem e_seq_r (b : MS) (w : W) : (SRes.ret w L).seq b = .ret w L := (rfl)
@[simp] theorem e_seq_b (b : MS) : (SRes.brk L).seq b = .brk L := (rfl)
@[simp] theorem e_seq_c (b : MS) : (SRes.cnt L).seq b = .cnt L := (rfl)
@[simp] theorem e_nil : sNil L = .next L := (rfl)
@[simp] theorem e_brk : sBrk L = .brk L := (rfl)
@[simp] theorem e_exp (m : M R) : sExp m L = (m L).thenS fun _ L1 => .next L1 := (rfl)
@[simp] theorem e_set (i : Nat) (m : M R) : sSet fl i m L = (m L).thenS fun r L1 => asgn fl i r L1 := (rfl)
@[simp] theorem e_asgn (i : Nat) (w : W) (h : fl[i]? ≠ some true) : asgn fl i (.val w) L = .next (L.set i (some w)) := if_neg h
@[simp] theorem e_ret (m : M R) : sRet m L = (m L).thenS handed := (rfl)
@[simp] theorem e_handed (w : W) : handed (.val w) L = .ret w L := (rfl)
@[simp] theorem e_if (c : M Bool) (a b : MS) : sIf c a b L = (c L).thenS fun k L1 => if k = true then a L1 else b L1 := (rfl)
@[simp] theorem e_ifE (c : M Bool) (a b : M R) : mIfE c a b L = (c L).bind fun k L1 => if k = true then a L1 else b L1 := (rfl)
def blR (r : R) (L : Lc) : Res Bool := match r with
  | .val (.frz (.bl b)) => .ok b L
  | _ => .bad
@[simp] theorem e_mBl (m : M R) : mBl m L = (m L).bind blR := (rfl)
@[simp] theorem e_blR (b : Bool) : blR (.val (.frz (.bl b))) L = .ok b L := (rfl)
@[simp] theorem e_not (m : M Bool) : mNot m L = (m L).bind fun k L1 => .ok (!k) L1 := (rfl)
@[simp] theorem e_and (a b : M Bool) : mAnd a b L = (a L).bind fun k L1 => if k = true then b L1 else .ok false L1 := (rfl)
@[simp] theorem e_or (a b : M Bool) : mOr a b L = (a L).bind fun k L1 => if k = true then .ok true L1 else b L1 := (rfl)
@[simp] theorem e_andV (a b : M R) : mAndV a b L = (mBl a L).bind fun k L1 => if k = true then b L1 else .ok (sc (.bl false)) L1 := (rfl)
@[simp] theorem e_orV (a b : M R) : mOrV a b L = (mBl a L).bind fun k L1 => if k = true then .ok (sc (.bl true)) L1 else b L1 := (rfl)
@[simp] theorem e_notV (a : M R) : mNotV a L = (mBl a L).bind fun k L1 => .ok (sc (.bl (!k))) L1 := (rfl)
def truR (r : R) (L1 : Lc) : Res Bool := match r.get L1 with
  | some w => match tru w.rd with
    | some k => .ok k L1
    | none => .bad
  | none => .bad
@[simp] theorem e_tru (m : M R) : mTru m L = (m L).bind truR := (rfl)
@[simp] theorem e_truR (b : Bool) : truR (.val (.frz (.bl b))) L = .ok b L := (rfl)
/-! ints -/
variable (i j : Int)
@[simp] theorem e_add : aAddU (.val (.frz (.int i))) (.val (.frz (.int j))) L = .ok (.val (.frz (.int (i + j)))) L := (rfl)
@[simp] theorem e_sub : aSub (.val (.frz (.int i))) (.val (.frz (.int j))) L = .ok (.val (.frz (.int (i - j)))) L := (rfl)
def SzM (i j : Int) : Prop := i.natAbs.log2 + j.natAbs.log2 < 1000000
def SzD (j : Int) : Prop := j ≠ 0 ∧ j.natAbs.log2 < 9000
@[simp] theorem e_mul (h : SzM i j) : aMul (.val (.frz (.int i))) (.val (.frz (.int j))) L = .ok (.val (.frz (.int (i * j)))) L := by
  show (match (if i.natAbs.log2 + j.natAbs.log2 < 1000000 then some (D.int (i * j)) else none) with
    | some d => Res.ok (R.val (.frz d)) L
    | none => .bad) = _
  rw [if_pos (show i.natAbs.log2 + j.natAbs.log2 < 1000000 from h)]
@[simp] theorem e_div (h : SzD j) : aDiv (.val (.frz (.int i))) (.val (.frz (.int j))) L = .ok (.val (.frz (.int (i.fdiv j)))) L := by
  show (match (if j ≠ 0 ∧ j.natAbs.log2 < 9000 then some (D.int (i.fdiv j)) else none) with
    | some d => Res.ok (R.val (.frz d)) L
    | none => .bad) = _
  rw [if_pos (show j ≠ 0 ∧ j.natAbs.log2 < 9000 from h)]
@[simp] theorem e_mod (h : j ≠ 0) : aMod (.val (.frz (.int i))) (.val (.frz (.int j))) L = .ok (.val (.frz (.int (i.fmod j)))) L := by
  show (match (if j ≠ 0 then some (D.int (i.fmod j)) else none) with
    | some d => Res.ok (R.val (.frz d)) L
    | none => .bad) = _
  rw [if_pos h]
def SzP (i j : Int) : Prop := 0 ≤ j ∧ j ≤ 1000000 ∧ i.natAbs < 2 ^ 64
@[simp] theorem e_pow (h : SzP i j) : aPow (.val (.frz (.int i))) (.val (.frz (.int j))) L = .ok (.val (.frz (.int (i ^ j.toNat)))) L := by
  show (match (if 0 ≤ j ∧ j ≤ 1000000 ∧ i.natAbs < 2 ^ 64 then some (D.int (i ^ j.toNat)) else none) with
    | some d => Res.ok (R.val (.frz d)) L
    | none => .bad) = _
  rw [if_pos (show 0 ≤ j ∧ j ≤ 1000000 ∧ i.natAbs < 2 ^ 64 from h)]
@[simp] theorem e_lt : cLt (.val (.frz (.int i))) (.val (.frz (.int j))) L = .ok (.val (.frz (.bl (decide (i < j))))) L := (rfl)
@[simp] theorem e_gt : cGt (.val (.frz (.int i))) (.val (.frz (.int j))) L = .ok (.val (.frz (.bl (decide (j < i))))) L := (rfl)
@[simp] theorem e_le : cLe (.val (.frz (.int i))) (.val (.frz (.int j))) L = .ok (.val (.frz (.bl (decide (i ≤ j))))) L := (rfl)
@[simp] theorem e_ge : cGe (.val (.frz (.int i))) (.val (.frz (.int j))) L = .ok (.val (.frz (.bl (decide (j ≤ i))))) L := (rfl)
@[simp] theorem e_eq : cEqS (.val (.frz (.int i))) (.val (.frz (.int j))) L = .ok (.val (.frz (.bl (decide (i = j))))) L := (rfl)
@[simp] theorem e_ne : cNeS (.val (.frz (.int i))) (.val (.frz (.int j))) L = .ok (.val (.frz (.bl (!decide (i = j))))) L := (rfl)
@[simp] theorem e_neg (m : M R) : mNeg m L = (m L).bind fun r L1 => match r with
  | .val (.frz (.int i)) => .ok (sc (.int (-i))) L1
  | _ => .bad := (rfl)
/-! argument lists -/
@[simp] theorem e_nilA : mNil L = .ok [] L := (rfl)
@[simp] theorem e_cons (a : M R) (b : M (List R)) : mCons a b L = (a L).bind fun r L1 => (b L1).bind fun rs L2 => .ok (r :: rs) L2 := (rfl)
@[simp] theorem e_callB (g : List R → M R) (m : M (List R)) : mCallB g m L = (m L).bind g := (rfl)
@[simp] theorem e_f1 (g : D → Option D) (d : D) : f1 g [.val (.frz d)] L = match g d with
  | some e => .ok (.val (.frz e)) L
  | none => .bad := (rfl)
@[simp] theorem e_len_str (x : Str) (h : x.length ≤ sizeLine) : lenD (.str x) = some (.int x.length) := if_pos h
@[simp] theorem e_len_lst (x : List D) : lenD (.lst x) = some (.int x.length) := (rfl)
@[simp] theorem e_len_lok (x : List D) : lenD (.lok x) = some (.int x.length) := (rfl)
@[simp] theorem e_len_tup (x : List D) : lenD (.tup x) = some (.int x.length) := (rfl)
@[simp] theorem e_int (i : Int) : intD (.int i) = some (.int i) := (rfl)
@[simp] theorem e_abs (i : Int) : absD (.int i) = some (.int (if i < 0 then -i else i)) := (rfl)
@[simp] theorem e_par (i j : Nat) (m : M (List R)) : sPar fl i j m L = (m L).thenS fun rs L1 => match rs with
  | [.val v, .val w] => if fl[i]? = some true ∨ fl[j]? = some true ∨ v.no = false ∨ w.no = false then .bad else .next ((L1.set i (some v)).set j (some w))
  | _ => .bad := (rfl)
@[simp] theorem e_no (d : D) : (W.frz d).no = true := (rfl)
@[simp] theorem e_while (fuel : Lc → Nat) (c : M Bool) (b : MS) : sWhile fuel c b L = whileL c b (fuel L) L := (rfl)
@[simp] theorem e_for (mi : M (List W)) (g : MG) (b : MS) : sFor mi g b L = (mi L).thenS fun ws L1 => forL g b ws L1 := (rfl)
@[simp] theorem e_gNm (i : Nat) (r : R) : gNm fl i r L = asgn fl i r L := (rfl)
theorem sub62 {j : Int} (h0 : 0 ≤ j) (h : j < 2 ^ 62) : -(2 ^ 62) ≤ j ∧ j < 2 ^ 62 := by omega
def rg1 (rs : List R) (L1 : Lc) : Res (List W) := match rs with
  | [.val (.frz (.int j))] => if -(2 ^ 62) ≤ j ∧ j < 2 ^ 62 then .ok (intsW 0 j.toNat) L1 else .bad
  | _ => .bad
def rg2 (rs : List R) (L1 : Lc) : Res (List W) := match rs with
  | [.val (.frz (.int i)), .val (.frz (.int j))] => if -(2 ^ 62) ≤ i ∧ i < 2 ^ 62 ∧ -(2 ^ 62) ≤ j ∧ j < 2 ^ 62 then .ok (intsW i (j - i).toNat) L1 else .bad
  | _ => .bad
def SzR (j : Int) : Prop := -(2 ^ 62) ≤ j ∧ j < 2 ^ 62
@[simp] theorem e_range1 (m : M (List R)) : mRange1 m L = (m L).bind rg1 := (rfl)
@[simp] theorem e_range2 (m : M (List R)) : mRange2 m L = (m L).bind rg2 := (rfl)
@[simp] theorem e_rg1 (h : SzR j) : rg1 [.val (.frz (.int j))] L = .ok (intsW 0 j.toNat) L := if_pos h
@[simp] theorem e_rg2 (h : SzR i) (h2 : SzR j) : rg2 [.val (.frz (.int i)), .val (.frz (.int j))] L = .ok (intsW i (j - i).toNat) L := if_pos ⟨h.1, h.2, h2.1, h2.2⟩
theorem intsW_succ (lo : Int) (n : Nat) : intsW lo (n + 1) = .frz (.int lo) :: intsW (lo + 1) n := by
  unfold intsW
  rw [List.range_succ_eq_map, List.map_cons, List.map_map]
  refine congr (congrArg List.cons ?_) (List.map_congr_left fun k _ => ?_)
  · rw [Int.natCast_zero, Int.add_zero]
  · show W.frz (.int (lo + ((k + 1 : Nat) : Int))) = W.frz (.int (lo + 1 + (k : Int)))
    congr 2
    omega
theorem intsW_zero (lo : Int) : intsW lo 0 = [] := rfl
end
/-! ### a def by its body's end -/
theorem run_ret {n : Nat} {fl : List Bool} {m : MS} {ws : List W} {L0 L : Lc} {w : W} {os : List W} (e : m L0 = .ret w L) (h0 : ws.map some ++ List.replicate (n - ws.length) none = L0 := by rfl) (o : outs fl L = some os := by rfl) : runF n fl m ws = .ok w os := by
  unfold runF
  rw [h0, e]
  dsimp only
  rw [o]
theorem run_next {n : Nat} {fl : List Bool} {m : MS} {ws : List W} {L0 L : Lc} {os : List W} (e : m L0 = .next L) (h0 : ws.map some ++ List.replicate (n - ws.length) none = L0 := by rfl) (o : outs fl L = some os := by rfl) : runF n fl m ws = .ok (.frz .non) os := by
  unfold runF
  rw [h0, e]
  dsimp only
  rw [o]
/-! sizes -/
/-- n bits hold it -/
def Bit (n : Nat) (i : Int) : Prop := i.natAbs < 2 ^ n
theorem Bit.log {n : Nat} {i : Int} (h : Bit n i) : i.natAbs.log2 ≤ n := by
  by_cases h0 : i.natAbs = 0
  · rw [h0]; exact Nat.zero_le _
  · exact Nat.le_of_lt ((Nat.log2_lt h0).mpr h)
theorem Bit.mono {n m : Nat} {i : Int} (h : Bit n i) (k : n ≤ m) : Bit m i := Nat.lt_of_lt_of_le h (Nat.pow_le_pow_right (by decide) k)
theorem Bit.mul {n m : Nat} {i j : Int} (h : Bit n i) (k : Bit m j) : Bit (n + m) (i * j) := by
  unfold Bit at *
  rw [Int.natAbs_mul, Nat.pow_add]
  exact Nat.mul_lt_mul'' h k
theorem Bit.szM {n m : Nat} {i j : Int} (h : Bit n i) (k : Bit m j) (l : n + m < 1000000) : SzM i j := by
  have := h.log; have := k.log
  unfold SzM; omega
theorem Bit.szD {n : Nat} {j : Int} (h : Bit n j) (h0 : j ≠ 0) (l : n < 9000) : SzD j := by
  have := h.log
  exact ⟨h0, by omega⟩
theorem Bit.of {n : Nat} {i : Int} (h0 : 0 ≤ i) (h : i < 2 ^ n) : Bit n i := by
  unfold Bit
  have e : (i.natAbs : Int) = i := by omega
  have h2 : ((i.natAbs : Nat) : Int) < ((2 ^ n : Nat) : Int) := by rw [e]; push_cast; exact h
  exact Int.ofNat_lt.mp h2
theorem Bit.pow {n : Nat} {i : Int} (h : Bit n i) : ∀ k : Nat, Bit (n * k + 1) (i ^ k)
  | 0 => by unfold Bit; simp
  | k + 1 => by
    have ih := Bit.pow h k
    have := ih.mul h
    rw [Int.pow_succ]
    exact this.mono (by rw [Nat.mul_succ]; omega)
end BV

namespace BV
open PySem PySem.Spec PyProof.Rows L2
/-! ### evaluation: calls, fields, items -/
section
variable {L : Lc} {fl : List Bool}
/-- from a slot's content -/
def slotW (o : Option (Option W)) : Option W := match o with
  | some o => o
  | none => none
@[simp] theorem e_slotW (o : Option W) : slotW (some o) = o := (rfl)
@[simp] theorem e_get_v (w : W) : R.get L (.val w) = some w := (rfl)
@[simp] theorem e_get_a (i : Nat) : R.get L (.al i) = slotW L[i]? := (rfl)
@[simp] theorem e_fr_f (d : D) : (W.frz d).fr = some d := (rfl)
def toFv (o : Option D) (L : Lc) : Res D := match o with
  | some d => .ok d L
  | none => .bad
@[simp] theorem e_toFv (d : D) : toFv (some d) L = .ok d L := (rfl)
@[simp] theorem e_toF_v (w : W) : toF (.val w) L = toFv w.fr L := by unfold toF toFv; dsimp only; try (cases w.fr <;> rfl)
def toFa (i : Nat) (o : Option (Option W)) (L : Lc) : Res D := match o with
  | some (some w) => match w.fr with
    | some d => .ok d (L.set i (some (.frz d)))
    | none => .bad
  | _ => .bad
@[simp] theorem e_toF_a (i : Nat) : toF (.al i) L = toFa i L[i]? L := (rfl)
def toFb (i : Nat) (o : Option D) (L : Lc) : Res D := match o with
  | some d => .ok d (L.set i (some (.frz d)))
  | none => .bad
@[simp] theorem e_toFb (i : Nat) (d : D) : toFb i (some d) L = .ok d (L.set i (some (.frz d))) := (rfl)
@[simp] theorem e_toFa (i : Nat) (w : W) : toFa i (some (some w)) L = toFb i w.fr L := by unfold toFa toFb; rfl
@[simp] theorem e_fr_l (ws : List W) : (W.olst ws).fr = (frs ws).map .lst := by rw [W.fr]
@[simp] theorem e_fr_o (C : Addr) (fs : List (Str × W)) : (W.oobj C fs).fr = (frF fs).map (.obj C) := by rw [W.fr]
@[simp] theorem e_frs_nil : frs [] = some [] := by rw [frs]
@[simp] theorem e_frs_frz (ds : List D) : frs (ds.map .frz) = some ds := by
  induction ds with
  | nil => rw [List.map_nil, frs]
  | cons d ds ih => rw [List.map_cons, frs, ih]; rfl
@[simp] theorem e_frs_cons (d : D) (ws : List W) : frs (.frz d :: ws) = (frs ws).map (d :: ·) := by
  rw [frs, e_fr_f]
  cases frs ws <;> rfl
@[simp] theorem e_frF_nil : frF [] = some [] := by rw [frF]
@[simp] theorem e_frF_cons (f : Str) (d : D) (ws : List (Str × W)) : frF ((f, .frz d) :: ws) = (frF ws).map ((f, d) :: ·) := by
  rw [frF, e_fr_f]
  cases frF ws <;> rfl
/-! preparing arguments -/
@[simp] theorem e_prep_nil : prep [] [] L = .ok ([], []) L := (rfl)
@[simp] theorem e_prep_f (r : R) (rs : List R) : prep (false :: fl) (r :: rs) L = (toF r L).bind fun d L1 => (prep fl rs L1).bind fun p L2 => .ok (.frz d :: p.1, p.2) L2 := by rw [prep]
def prepT (fl : List Bool) (rs : List R) (i : Nat) (o : Option (Option W)) (L : Lc) : Res (List W × List Nat) := match o with
  | some (some w) => (prep fl rs (L.set i none)).bind fun p L1 => .ok (w :: p.1, i :: p.2) L1
  | _ => .bad
@[simp] theorem e_prep_t (i : Nat) (rs : List R) : prep (true :: fl) (.al i :: rs) L = prepT fl rs i L[i]? L := by rw [prep]; rfl
@[simp] theorem e_prepT (rs : List R) (i : Nat) (w : W) : prepT fl rs i (some (some w)) L = (prep fl rs (L.set i none)).bind fun p L1 => .ok (w :: p.1, i :: p.2) L1 := (rfl)
@[simp] theorem e_prep_v (w : W) (rs : List R) : prep (true :: fl) (.val w :: rs) L = (prep fl rs L).bind fun p L1 => .ok (w :: p.1, L.length :: p.2) L1 := by rw [prep]
def bkR (w : W) (o : Option Lc) : Res R := match o with
  | some L1 => .ok (.val w) L1
  | none => .bad
def bkX (x : Ex) (o : Option Lc) : Res R := match o with
  | some L1 => .exc x L1
  | none => .bad
def calledR (r : FRes) (is : List Nat) (L : Lc) : Res R := match r with
  | .ok w os => bkR w (back is os L)
  | .exc x os => bkX x (back is os L)
  | .bad => .bad
@[simp] theorem e_called (fn : Fn) (ws : List W) (is : List Nat) : called fn ws is L = calledR (fn ws) is L := by
  unfold called calledR
  cases fn ws with
  | ok w os => dsimp only; unfold bkR; cases back is os L <;> rfl
  | exc x os => dsimp only; unfold bkX; cases back is os L <;> rfl
  | bad => rfl
@[simp] theorem e_calledR (w : W) (os : List W) (is : List Nat) : calledR (.ok w os) is L = bkR w (back is os L) := (rfl)
@[simp] theorem e_bkR (w : W) : bkR w (some L) = .ok (.val w) L := (rfl)
@[simp] theorem e_back_nil : back [] [] L = some L := by rw [back]
@[simp] theorem e_back_cons (i : Nat) (is : List Nat) (w : W) (ws : List W) : back (i :: is) (w :: ws) L = back is ws (L.set i (some w)) := by rw [back]
@[simp] theorem e_call (fn : Fn) (m : M (List R)) : mCall fl fn m L = (m L).bind fun rs L1 => callR fl fn rs L1 := (rfl)
@[simp] theorem e_callR (fn : Fn) (rs : List R) : callR fl fn rs L = (prep fl rs L).bind fun p L1 => called fn p.1 p.2 L1 := (rfl)
/-! making -/
def madeF (r : FRes) (is : List Nat) (L : Lc) : Res R := match r with
  | .ok (.frz .non) (o :: os) => bkR o (back is os L)
  | .exc x (_ :: os) => bkX x (back is os L)
  | _ => .bad
@[simp] theorem e_madeF (o : W) (os : List W) (is : List Nat) : madeF (.ok (.frz .non) (o :: os)) is L = bkR o (back is os L) := (rfl)
theorem madeR_is (C : Addr) (fn : Fn) (rs : List R) : madeR C fl fn rs L = (prep fl rs L).bind fun p L2 => madeF (fn (.oobj C [] :: p.1)) p.2 L2 := by
  unfold madeR
  have h : ∀ (p : List W × List Nat) (L1 : Lc), (match fn (.oobj C [] :: p.1) with
      | .ok (.frz .non) (o :: os) => match back p.2 os L1 with
        | some L2 => Res.ok (.val o) L2
        | none => .bad
      | .exc x (_ :: os) => match back p.2 os L1 with
        | some L2 => .exc x L2
        | none => .bad
      | _ => .bad) = madeF (fn (.oobj C [] :: p.1)) p.2 L1 := fun p L1 => by
    unfold madeF
    split
    · rename_i o os e
      unfold bkR
      cases back p.2 os L1 <;> rfl
    · rename_i x a os e
      unfold bkX
      cases back p.2 os L1 <;> rfl
    · rfl
  cases prep fl rs L with
  | ok p L1 => exact h p L1
  | exc x L1 => rfl
  | bad => rfl
@[simp] theorem e_make (C : Addr) (fn : Fn) (m : M (List R)) : mMake C fl fn m L = (m L).bind fun rs L1 => (prep fl rs L1).bind fun p L2 => madeF (fn (.oobj C [] :: p.1)) p.2 L2 := by
  unfold mMake
  cases m L with
  | ok rs L1 => exact madeR_is C fn rs
  | exc x L1 => rfl
  | bad => rfl
/-! fields -/
def fldR (cs : List Addr) (f : Str) (o : Option W) (L1 : Lc) : Res R := match o with
  | some w => match w.cls with
    | some C => if C ∈ cs then match w.fld f with
        | some u => .ok (.val u) L1
        | none => .bad
      else .bad
    | none => .bad
  | none => .bad
@[simp] theorem e_fld (cs : List Addr) (f : Str) (m : M R) : mFld cs f m L = (m L).bind fun r L1 => fldR cs f (r.get L1) L1 := (rfl)
theorem fldR_of {cs : List Addr} {f : Str} {w u : W} {C : Addr} (h1 : w.cls = some C) (h2 : C ∈ cs) (h3 : w.fld f = some u) : fldR cs f (some w) L = .ok (.val u) L := by
  unfold fldR
  dsimp only
  rw [h1]
  dsimp only
  rw [if_pos h2, h3]
def fldSetR (cs : List Addr) (i : Nat) (f : Str) (d : D) (o : Option (Option W)) (L2 : Lc) : SRes := match o with
  | some (some (.oobj C fs)) => if C ∈ cs ∧ fs.length < 1000 then .next (L2.set i (some (.oobj C (putW f (.frz d) fs)))) else .bad
  | _ => .bad
@[simp] theorem e_fldSet (cs : List Addr) (i : Nat) (f : Str) (m : M R) : sFldSet cs i f m L = (m L).thenS fun r L1 => (toF r L1).thenS fun d L2 => fldSetR cs i f d L2[i]? L2 := (rfl)
@[simp] theorem e_fldSetR (cs : List Addr) (i : Nat) (f : Str) (d : D) (C : Addr) (fs : List (Str × W)) (h : C ∈ cs) (h2 : fs.length < 1000) : fldSetR cs i f d (some (some (.oobj C fs))) L = .next (L.set i (some (.oobj C (putW f (.frz d) fs)))) := if_pos ⟨h, h2⟩
/-! methods -/
def methR (ds : Disp) (m : Str) (r : R) (o : Option W) (mr : M (List R)) (L1 : Lc) : Res R := match o with
  | some w => match w.cls with
    | some C => if w.nofld m = true then match ds C with
        | some p => (mr L1).bind fun rs L2 => callR p.1 p.2 (r :: rs) L2
        | none => .bad
      else .bad
    | none => .bad
  | none => .bad
@[simp] theorem e_meth (ds : Disp) (m : Str) (ma : M R) (mr : M (List R)) : mMeth ds m ma mr L = (ma L).bind fun r L1 => methR ds m r (r.get L1) mr L1 := (rfl)
theorem methR_of {fn : Fn} {m : Str} {r : R} {w : W} {C : Addr} {mr : M (List R)} (h1 : w.cls = some C) (h2 : w.nofld m = true) : methR (dOne C fl fn) m r (some w) mr L = (mr L).bind fun rs L2 => callR fl fn (r :: rs) L2 := by
  unfold methR
  dsimp only
  rw [h1]
  dsimp only
  rw [if_pos h2, show dOne C fl fn C = some (fl, fn) from if_pos rfl]
/-! built-ins over one value -/
def f1R (g : D → Option D) (o : Option W) (L : Lc) : Res R := match o with
  | some w => match g w.rd with
    | some d => .ok (.val (.frz d)) L
    | none => .bad
  | none => .bad
@[simp] theorem e_f1l (g : D → Option D) (ws : List W) : f1 g [.val (.olst ws)] L = f1R g (some (.olst ws)) L := (rfl)
@[simp] theorem e_f1a (g : D → Option D) (i : Nat) : f1 g [.al i] L = f1R g (slotW L[i]?) L := (rfl)
theorem f1R_of {g : D → Option D} {w : W} {d : D} (h : g w.rd = some d) : f1R g (some w) L = .ok (.val (.frz d)) L := by
  unfold f1R
  dsimp only
  rw [h]
theorem rds_frz (ds : List D) : rds (ds.map .frz) = ds := by
  induction ds with
  | nil => rw [List.map_nil, rds]
  | cons d ds ih => rw [List.map_cons, rds, ih, W.rd]
@[simp] theorem e_rd_f (d : D) : (W.frz d).rd = d := by rw [W.rd]
theorem rd_lst (ds : List D) : (W.olst (ds.map .frz)).rd = .lst ds := by rw [W.rd, rds_frz]
theorem intsD_map (ns : List Int) : intsD (ns.map D.int) = some ns := by
  induction ns with
  | nil => rfl
  | cons n ns ih => rw [List.map_cons, intsD, ih]; rfl
theorem sumD_map (ns : List Int) : sumD (.lst (ns.map D.int)) = some (.int ns.sum) := by
  unfold sumD
  show Option.map _ (Option.bind (some (ns.map D.int)) intsD) = _
  rw [Option.bind_some, intsD_map]
  rfl
/-! items -/
def kR (g : W → W → Option W) (a b : Option W) (L : Lc) : Res R := match a, b with
  | some a, some b => match g a b with
    | some w => .ok (.val w) L
    | none => .bad
  | _, _ => .bad
@[simp] theorem e_mkK (g : W → W → Option W) (x y : R) : mkK g x y L = kR g (x.get L) (y.get L) L := (rfl)
theorem kR_of {g : W → W → Option W} {a b w : W} (h : g a b = some w) : kR g (some a) (some b) L = .ok (.val w) L := by
  unfold kR
  dsimp only
  rw [h]
theorem atI_nat {α : Type} {xs : List α} {i : Nat} {x : α} (h : xs[i]? = some x) : atI xs (i : Int) = some x := by
  have hi := (List.getElem?_eq_some_iff.mp h).1
  unfold atI ixN
  rw [if_pos (Int.natCast_nonneg i), if_pos (Int.ofNat_lt.mpr hi), Option.bind_some, Int.toNat_natCast]
  exact h
end
end BV

namespace BV
open PySem PySem.Spec PyProof.Rows L2
/-! ### evaluation: comprehensions, loops -/
theorem mLc_ok {kp : Bool} {fl : List Bool} {vs : List Nat} {mi : M (List W)} {g : MG} {mt : M Bool} {me : M R} {L L1 L2 : Lc} {ws acc : List W} (h1 : mi L = .ok ws L1) (h2 : lcL kp vs g mt me ws (wipeL L1 vs) [] = some (acc, L2))
    (hl : L1.length = fl.length) (hf : (List.range fl.length).all (fun j => decide (j ∈ vs) || fl[j]? == some true) = true := by rfl) : mLc kp fl vs mi g mt me L = .ok (.val (.olst acc)) L2 := by
  unfold mLc
  rw [h1]
  show (if L1.length = fl.length ∧ (List.range fl.length).all (fun j => decide (j ∈ vs) || fl[j]? == some true) = true then (match lcL kp vs g mt me ws (wipeL L1 vs) [] with
    | some (acc, L2) => Res.ok (R.val (W.olst acc)) L2
    | none => .bad) else .bad) = _
  rw [if_pos ⟨hl, hf⟩, h2]
theorem lcL_cons {kp : Bool} {vs : List Nat} {g : MG} {mt : M Bool} {me : M R} {L L1 L2 L3 L4 : Lc} {w u : W} {ws acc : List W} {r : R} (h1 : g (.val w) L = .next L1) (h2 : mt L1 = .ok true L2) (h3 : me L2 = .ok r L3) (h4 : toW kp r L3 = .ok u L4) (hl : acc.length < sizeLine) :
    lcL kp vs g mt me (w :: ws) L acc = lcL kp vs g mt me ws (wipeL L4 vs) (acc ++ [u]) := by
  rw [lcL, h1]
  dsimp only
  rw [h2]
  dsimp only
  rw [h3]
  dsimp only
  rw [h4]
  dsimp only
  rw [if_pos hl]
@[simp] theorem e_yes {L : Lc} : mYes L = .ok true L := (rfl)
@[simp] theorem e_toW {L : Lc} (w : W) : toW true (.val w) L = .ok w L := (rfl)
/-- one turn of a for -/
def turnF (g : MG) (body : MS) (w : W) (L : Lc) : SRes := match g (.val w) L with
  | .next L1 => match body L1 with
    | .cnt L2 => .next L2
    | r => r
  | _ => .bad
/-- a for by an invariant; P: what its end must be -/
theorem for_inv {g : MG} {body : MS} {ws : List W} (I : Nat → Lc → Prop) (P : SRes → Prop)
    (step : ∀ (i : Nat) (w : W) (L : Lc), ws[i]? = some w → I i L → (∃ L', turnF g body w L = .next L' ∧ I (i + 1) L') ∨ (∃ L', turnF g body w L = .brk L' ∧ P (.next L')) ∨ (∃ v L', turnF g body w L = .ret v L' ∧ P (.ret v L')) ∨ ∃ x L', turnF g body w L = .exc x L' ∧ P (.exc x L'))
    (hend : ∀ L, I ws.length L → P (.next L)) : ∀ {L : Lc}, I 0 L → P (forL g body ws L) := by
  have main : ∀ (us : List W) (i : Nat) (L : Lc), ws.drop i = us → I i L → i ≤ ws.length → P (forL g body us L) := by
    intro us
    induction us with
    | nil =>
      intro i L e h hi
      rw [forL]
      have e2 : i = ws.length := by
        have := congrArg List.length e
        rw [List.length_drop, List.length_nil] at this
        omega
      subst e2
      exact hend L h
    | cons w us ih =>
      intro i L e h hi
      have hw : ws[i]? = some w := by
        have := congrArg (fun l => l[0]?) e
        simpa using this
      have hd : ws.drop (i + 1) = us := by
        rw [← List.drop_drop, e]
        rfl
      have hi2 : i + 1 ≤ ws.length := by
        have := (List.getElem?_eq_some_iff.mp hw).1
        omega
      have hs := step i w L hw h
      rw [forL]
      unfold turnF at hs
      cases e1 : g (.val w) L with
      | next L1 =>
        rw [e1] at hs
        dsimp only at hs ⊢
        cases e2 : body L1 with
        | next L2 =>
          rw [e2] at hs
          dsimp only at hs ⊢
          rcases hs with ⟨L', q, h'⟩ | ⟨L', q, _⟩ | ⟨v, L', q, _⟩ | ⟨x, L', q, _⟩ <;> cases q
          exact ih (i + 1) L2 hd h' hi2
        | cnt L2 =>
          rw [e2] at hs
          dsimp only at hs ⊢
          rcases hs with ⟨L', q, h'⟩ | ⟨L', q, _⟩ | ⟨v, L', q, _⟩ | ⟨x, L', q, _⟩ <;> cases q
          exact ih (i + 1) L2 hd h' hi2
        | brk L2 =>
          rw [e2] at hs
          dsimp only at hs ⊢
          rcases hs with ⟨L', q, _⟩ | ⟨L', q, h'⟩ | ⟨v, L', q, _⟩ | ⟨x, L', q, _⟩ <;> cases q
          exact h'
        | ret v L2 =>
          rw [e2] at hs
          dsimp only at hs ⊢
          rcases hs with ⟨L', q, _⟩ | ⟨L', q, _⟩ | ⟨v, L', q, h'⟩ | ⟨x, L', q, _⟩ <;> cases q
          exact h'
        | exc x L2 =>
          rw [e2] at hs
          dsimp only at hs ⊢
          rcases hs with ⟨L', q, _⟩ | ⟨L', q, _⟩ | ⟨v, L', q, _⟩ | ⟨x, L', q, h'⟩ <;> cases q
          exact h'
        | bad =>
          rw [e2] at hs
          dsimp only at hs
          rcases hs with ⟨L', q, _⟩ | ⟨L', q, _⟩ | ⟨v, L', q, _⟩ | ⟨x, L', q, _⟩ <;> cases q
      | _ =>
        rw [e1] at hs
        dsimp only at hs
        rcases hs with ⟨L', q, _⟩ | ⟨L', q, _⟩ | ⟨v, L', q, _⟩ | ⟨x, L', q, _⟩ <;> cases q
  exact fun {L} h => main ws 0 L rfl h (Nat.zero_le _)
theorem intsW_get {lo : Int} {n i : Nat} {w : W} (h : (intsW lo n)[i]? = some w) : i < n ∧ w = .frz (.int (lo + (i : Nat))) := by
  unfold intsW at h
  rw [List.getElem?_map] at h
  obtain ⟨k, ek, rfl⟩ := map_some h
  obtain ⟨hk, e2⟩ := List.getElem?_eq_some_iff.mp ek
  rw [List.getElem_range] at e2
  subst e2
  rw [List.length_range] at hk
  exact ⟨hk, rfl⟩
theorem intsW_len (lo : Int) (n : Nat) : (intsW lo n).length = n := by
  unfold intsW
  rw [List.length_map, List.length_range]
/-! ### tuples, lists, built-ins of two -/
section
variable {L : Lc}
@[simp] theorem e_toFs_nil : toFs [] L = .ok [] L := by rw [toFs]
@[simp] theorem e_toFs_cons (r : R) (rs : List R) : toFs (r :: rs) L = (toF r L).bind fun d L1 => (toFs rs L1).bind fun ds L2 => .ok (d :: ds) L2 := by rw [toFs]
theorem small_le {n : Nat} (h : n ≤ 1000) : n ≤ sizeLine := Nat.le_of_lt (small1000 h)
def tupR (ds : List D) (L2 : Lc) : Res R := if ds.length ≤ sizeLine then .ok (.val (.frz (.tup ds))) L2 else .bad
def lstR (ds : List D) (L2 : Lc) : Res R := if ds.length ≤ sizeLine then .ok (.val (.olst (ds.map .frz))) L2 else .bad
@[simp] theorem e_tup (m : M (List R)) : mTup m L = (m L).bind fun rs L1 => (toFs rs L1).bind tupR := (rfl)
@[simp] theorem e_lst (m : M (List R)) : mLst m L = (m L).bind fun rs L1 => (toFs rs L1).bind lstR := (rfl)
@[simp] theorem e_tupR (ds : List D) (h : ds.length ≤ 1000) : tupR ds L = .ok (.val (.frz (.tup ds))) L := if_pos (small_le h)
@[simp] theorem e_lstR (ds : List D) (h : ds.length ≤ 1000) : lstR ds L = .ok (.val (.olst (ds.map .frz))) L := if_pos (small_le h)
def scR (o : Option D) (L : Lc) : Res R := match o with
  | some d => .ok (.val (.frz d)) L
  | none => .bad
@[simp] theorem e_scR (d : D) : scR (some d) L = .ok (.val (.frz d)) L := (rfl)
@[simp] theorem e_f2 (g : D → D → Option D) (a b : D) : f2 g [.val (.frz a), .val (.frz b)] L = scR (g a b) L := (rfl)
theorem isi_same {K : PySem.W.Frag} {cs : List Addr} {x c : D} {t : Value} (h1 : x.type cs = some t) (h2 : c.asCls = some t) : isi K cs x c = some (.bl true) := by
  unfold isi
  rw [h1, h2]
  dsimp only
  rw [show PySem.W.kitOne K t t = some true from if_pos (beq_self_eq_true _)]
  rfl
theorem isi_ty {K : PySem.W.Frag} {cs : List Addr} {x : D} {a b : String} {r : Bool} (h1 : x.type cs = some (.type a)) (h : L2.kitB a b = some r) : isi K cs x (.ty b) = some (.bl r) := by
  unfold isi
  rw [h1, show (D.ty b).asCls = some (.type b) from rfl]
  dsimp only
  rw [L2.kit_ty h]
  rfl
theorem ix_nat {w : W} {ws : List W} {i : Nat} {a : W} (hs : w.str? = none) (hw : w.seq = some ws) (h : ws[i]? = some a) : ixW w (iW (i : Nat)) = some a := by
  unfold ixW
  show (match w.str? with
    | some z => if z.length ≤ sizeLine then (atI z.cps.toList (i : Nat)).map fun c => W.frz (.str ⟨#[c]⟩) else none
    | none => w.seq.bind fun ws => atI ws (i : Nat)) = _
  rw [hs, hw]
  exact atI_nat h
theorem ix_0 {a : D} {r : List D} : ixW (.frz (.tup (a :: r))) (iW 0) = some (.frz a) := ix_nat (i := 0) rfl rfl rfl
theorem ix_1 {a b : D} {r : List D} : ixW (.frz (.tup (a :: b :: r))) (iW 1) = some (.frz b) := ix_nat (i := 1) rfl rfl rfl
@[simp] theorem e_kR0 {a : D} {r : List D} : kR ixW (some (.frz (.tup (a :: r)))) (some (.frz (.int 0))) L = .ok (.val (.frz a)) L := kR_of ix_0
@[simp] theorem e_kR1 {a b : D} {r : List D} : kR ixW (some (.frz (.tup (a :: b :: r)))) (some (.frz (.int 1))) L = .ok (.val (.frz b)) L := kR_of ix_1
def bitsR (r : R) (L1 : Lc) : Res R := match r with
    | .val (.frz (.int i)) => .ok (sc (.int (Builtin.Int.intBits i : Nat))) L1
    | _ => .bad
@[simp] theorem e_bits (m : M R) : mBits m L = (m L).bind bitsR := (rfl)
@[simp] theorem e_bitsR (i : Int) : bitsR (.val (.frz (.int i))) L = .ok (.val (.frz (.int (Builtin.Int.intBits i : Nat)))) L := (rfl)
end
/-! ### lists of ints, append, concatenation -/
section
variable {L : Lc}
def bmR (T : String) (g : R → List R → M R) (x : R) (o : Option W) (m : M (List R)) (L1 : Lc) : Res R := match o with
  | some w => if tyD w.rd = T then (m L1).bind fun rs L2 => g x rs L2 else .bad
  | none => .bad
@[simp] theorem e_bm (T : String) (g : R → List R → M R) (a : M R) (m : M (List R)) : mBM T g a m L = (a L).bind fun x L1 => bmR T g x (x.get L1) m L1 := (rfl)
theorem bmR_of {T : String} {g : R → List R → M R} {x : R} {w : W} {m : M (List R)} (h : tyD w.rd = T) : bmR T g x (some w) m L = (m L).bind fun rs L2 => g x rs L2 := if_pos h
@[simp] theorem e_bm_l (g : R → List R → M R) (x : R) (ws : List W) (m : M (List R)) : bmR "list" g x (some (.olst ws)) m L = (m L).bind fun rs L2 => g x rs L2 := bmR_of (by rw [W.rd]; rfl)
@[simp] theorem e_bm_s (g : R → List R → M R) (x : R) (y : Str) (m : M (List R)) : bmR "str" g x (some (.frz (.str y))) m L = (m L).bind fun rs L2 => g x rs L2 := bmR_of (by rw [W.rd]; rfl)
def appR (i : Nat) (d : D) (o : Option (Option W)) (L1 : Lc) : Res R := match o with
  | some (some (.olst ws)) => if ws.length < sizeLine then .ok (sc .non) (L1.set i (some (.olst (ws ++ [.frz d])))) else .bad
  | _ => .bad
@[simp] theorem e_app (i : Nat) (r : R) : gAppend (.al i) [r] L = (toF r L).bind fun d L1 => appR i d L1[i]? L1 := (rfl)
@[simp] theorem e_appR (i : Nat) (d : D) (ws : List W) (h : ws.length < sizeLine) : appR i d (some (some (.olst ws))) L = .ok (sc .non) (L.set i (some (.olst (ws ++ [.frz d])))) := if_pos h
theorem no_map (ds : List D) : (ds.map W.frz).all W.no = true := by
  rw [List.all_eq_true]
  intro w hw
  obtain ⟨d, _, rfl⟩ := List.mem_map.mp hw
  rfl
theorem seq_l (ds : List D) : (W.olst (ds.map .frz)).seq = some (ds.map .frz) := if_pos (no_map ds)
theorem lseq_l (ds : List D) : (W.olst (ds.map .frz)).lseq = some (ds.map .frz) := if_pos (no_map ds)
theorem lseq_f (ds : List D) : (W.frz (.lst ds)).lseq = some (ds.map .frz) := rfl
theorem ixl_nat {ds : List D} {i : Nat} {d : D} (h : ds[i]? = some d) : ixW (.olst (ds.map .frz)) (iW (i : Nat)) = some (.frz d) :=
  ix_nat rfl (seq_l ds) (by rw [List.getElem?_map, h]; rfl)
theorem ixf_nat {ds : List D} {i : Nat} {d : D} (h : ds[i]? = some d) : ixW (.frz (.lst ds)) (iW (i : Nat)) = some (.frz d) :=
  ix_nat rfl rfl (by rw [List.getElem?_map, h]; rfl)
theorem ix_last {w : W} {ws : List W} {a : W} (hs : w.str? = none) (hw : w.seq = some ws) (h : ws.getLast? = some a) : ixW w (iW (-1)) = some a := by
  unfold ixW
  show (match w.str? with
    | some z => if z.length ≤ sizeLine then (atI z.cps.toList (-1)).map fun c => W.frz (.str ⟨#[c]⟩) else none
    | none => w.seq.bind fun ws => atI ws (-1)) = _
  rw [hs, hw]
  show atI ws (-1) = some a
  have hl : 1 ≤ ws.length := by
    cases ws with
    | nil => cases h
    | cons x r => exact Nat.succ_le_succ (Nat.zero_le _)
  unfold atI ixN
  rw [if_neg (by omega), if_pos (by omega), Option.bind_some]
  rw [List.getLast?_eq_getElem?] at h
  have e : (-1 + (ws.length : Int)).toNat = ws.length - 1 := by omega
  rw [e]
  exact h
theorem ixl_last {ds : List D} {d : D} (h : ds.getLast? = some d) : ixW (.olst (ds.map .frz)) (iW (-1)) = some (.frz d) :=
  ix_last rfl (seq_l ds) (by rw [List.getLast?_map, h]; rfl)
/-- concatenation of two lists of data -/
theorem catL_is {x y : R} {a b : W} {ws us : List W} (hx : x.get L = some a) (hy : y.get L = some b) (ha : a.lseq = some ws) (hb : b.lseq = some us) (hl : ws.length + us.length ≤ sizeLine) : aCatL x y L = .ok (.val (.olst (ws ++ us))) L := by
  unfold aCatL
  rw [hx, hy]
  dsimp only
  rw [ha, hb]
  dsimp only
  rw [if_pos hl]
theorem lseq_rd {w : W} {ws : List W} (h : w.lseq = some ws) : ∃ ds, w.rd = .lst ds := by
  unfold W.lseq at h
  split at h
  · exact ⟨_, by rw [W.rd]⟩
  · exact ⟨_, by rw [W.rd]⟩
  · exact ⟨_, by rw [W.rd]⟩
  · cases h
theorem addU_l {x y : R} {a b : W} {ws us : List W} (hx : x.get L = some a) (hy : y.get L = some b) (ha : a.lseq = some ws) (hb : b.lseq = some us) (hl : ws.length + us.length ≤ sizeLine) : aAddU x y L = .ok (.val (.olst (ws ++ us))) L := by
  obtain ⟨d1, e1⟩ := lseq_rd ha
  obtain ⟨d2, e2⟩ := lseq_rd hb
  have b1 : aAdd x y L = .bad := by
    unfold aAdd mkS
    rw [hx, hy]
    dsimp only
    rw [e1, e2]
    rfl
  have b2 : aCatS x y L = .bad := by
    unfold aCatS mkS
    rw [hx, hy]
    dsimp only
    rw [e1, e2]
    rfl
  unfold aAddU gOr
  rw [b1]
  dsimp only
  rw [b2]
  exact catL_is hx hy ha hb hl
end
end BV

namespace BV
open PySem PySem.Spec PyProof.Rows L2
section
variable {L : Lc}
@[simp] theorem e_asg (g : MG) (m : M R) : sAsg g m L = (m L).thenS fun r L1 => g r L1 := (rfl)
def SRes.seqG (r : SRes) (b : MS) : SRes := match r with
  | .next L1 => b L1
  | _ => .bad
@[simp] theorem e_seqG (b : MS) : (SRes.next L).seqG b = b L := (rfl)
@[simp] theorem e_gsc (g : MG) (gs : List W → MS) (w : W) (ws : List W) : gsCons g gs (w :: ws) L = (g (.val w) L).seqG (gs ws) := (rfl)
@[simp] theorem e_gsn : gsNil [] L = .next L := (rfl)
@[simp] theorem e_gTp (n : Nat) (gs : List W → MS) (ds : List D) (h : ds.length = n) : gTp n gs (.val (.frz (.tup ds))) L = gs (ds.map .frz) L := by
  show (if (ds.map W.frz).length = n then gs (ds.map W.frz) L else .bad) = _
  rw [if_pos (by rw [List.length_map]; exact h)]
@[simp] theorem e_exc_try (m : MS) : noX m L = match m L with
  | .exc _ _ => .bad
  | r => r := (rfl)
theorem noX_ret {m : MS} {w : W} {L' : Lc} (h : m L = .ret w L') : noX m L = .ret w L' := by
  unfold noX
  rw [h]
def turnR (r : SRes) : SRes := match r with
  | .cnt L2 => .next L2
  | r => r
@[simp] theorem e_turnR_n : turnR (.next L) = .next L := (rfl)
@[simp] theorem e_turnR_c : turnR (.cnt L) = .next L := (rfl)
@[simp] theorem e_turnR_b : turnR (.brk L) = .brk L := (rfl)
@[simp] theorem e_turnR_r (w : W) : turnR (.ret w L) = .ret w L := (rfl)
theorem turn_is (g : MG) (body : MS) (w : W) : turnF g body w L = (g (.val w) L).seqG fun L1 => turnR (body L1) := by
  unfold turnF SRes.seqG turnR
  cases g (.val w) L <;> rfl
/-- a for that runs to its end -/
theorem for_all {g : MG} {body : MS} {ws : List W} (I : Nat → Lc → Prop) (step : ∀ (i : Nat) (w : W) (L : Lc), ws[i]? = some w → I i L → ∃ L', turnF g body w L = .next L' ∧ I (i + 1) L') {L : Lc} (h0 : I 0 L) :
    ∃ L', forL g body ws L = .next L' ∧ I ws.length L' :=
  for_inv I (fun r => ∃ L', r = .next L' ∧ I ws.length L') (fun i w L hw h => .inl (step i w L hw h)) (fun L h => ⟨L, rfl, h⟩) h0
end
/-! ### x[i] = e -/
section
variable {L : Lc}
def setC (i : Nat) (d : D) (ws : List W) (o : Option Nat) (L3 : Lc) : SRes := match o with
  | some n => .next (L3.set i (some (.olst (ws.set n (.frz d)))))
  | none => .bad
def setB (i : Nat) (d : D) (k : R) (o : Option (Option W)) (L3 : Lc) : SRes := match k, o with
  | .val (.frz (.int j)), some (some (.olst ws)) => setC i d ws (ixN ws.length j) L3
  | _, _ => .bad
def setA (i : Nat) (d : D) (mi : M R) (o : Option (Option W)) (L2 : Lc) : SRes := match o with
  | some (some _) => (mi L2).thenS fun k L3 => setB i d k L3[i]? L3
  | _ => .bad
@[simp] theorem e_setIx (i : Nat) (mi me : M R) : sSetIx i mi me L = (me L).thenS fun r L1 => (toF r L1).thenS fun d L2 => setA i d mi L2[i]? L2 := (rfl)
@[simp] theorem e_setA (i : Nat) (d : D) (mi : M R) (w : W) : setA i d mi (some (some w)) L = (mi L).thenS fun k L3 => setB i d k L3[i]? L3 := (rfl)
@[simp] theorem e_setB (i : Nat) (d : D) (j : Int) (ws : List W) : setB i d (.val (.frz (.int j))) (some (some (.olst ws))) L = setC i d ws (ixN ws.length j) L := (rfl)
@[simp] theorem e_setC (i : Nat) (d : D) (ws : List W) (n : Nat) : setC i d ws (some n) L = .next (L.set i (some (.olst (ws.set n (.frz d))))) := (rfl)
theorem ixN_nat {n i : Nat} (h : i < n) : ixN n (i : Int) = some i := by
  unfold ixN
  rw [if_pos (Int.natCast_nonneg i), if_pos (Int.ofNat_lt.mpr h), Int.toNat_natCast]
end
theorem for_next {g : MG} {body : MS} {w : W} {ws : List W} {L L' : Lc} (h : turnF g body w L = .next L') : forL g body (w :: ws) L = forL g body ws L' := by
  rw [forL]
  unfold turnF at h
  cases e1 : g (.val w) L with
  | next L1 =>
    rw [e1] at h
    dsimp only at h ⊢
    cases e2 : body L1 with
    | next L2 => rw [e2] at h; cases h; rfl
    | cnt L2 => rw [e2] at h; cases h; rfl
    | brk L2 => rw [e2] at h; cases h
    | ret v L2 => rw [e2] at h; cases h
    | exc x L2 => rw [e2] at h; cases h
    | bad => rw [e2] at h; cases h
  | _ => rw [e1] at h; cases h
@[simp] theorem e_iter {L : Lc} (m : M R) : mIter m L = (m L).bind itemsOf := (rfl)
/-! ### slices -/
section
variable {L : Lc}
def slR (l h : Option Int) (o : Option W) (L3 : Lc) : Res R := match o with
  | some w => match slW w l h with
    | some u => .ok (.val u) L3
    | none => .bad
  | none => .bad
@[simp] theorem e_sl (m : M R) (ml mh : M (Option Int)) : mSl m ml mh L = (m L).bind fun r L1 => (ml L1).bind fun l L2 => (mh L2).bind fun h L3 => slR l h (r.get L3) L3 := (rfl)
theorem slR_of {l h : Option Int} {w u : W} (e : slW w l h = some u) : slR l h (some w) L = .ok (.val u) L := by
  unfold slR
  dsimp only
  rw [e]
def pR (r : R) (L1 : Lc) : Res (Option Int) := match r with
  | .val (.frz (.int i)) => .ok (some i) L1
  | _ => .bad
@[simp] theorem e_pSome (m : M R) : pSome m L = (m L).bind pR := (rfl)
@[simp] theorem e_pR (i : Int) : pR (.val (.frz (.int i))) L = .ok (some i) L := (rfl)
@[simp] theorem e_pNone : pNone L = .ok none L := (rfl)
end
end BV

namespace BV
open PySem PySem.Spec PyProof.Rows L2

/-! ### arguments that are lent -/
section
variable {K : PySem.W.Frag} {F B B2 H : Hp}
mutual
theorem RepW.nbI : ∀ {w : W} {v : V} {as : List Addr}, w.nb = true → RepW K F B H w v as → RepW K F B2 H w v as
  | .frz _, _, _, _, h => h
  | .brw _, _, _, n, _ => Bool.noConfusion (show false = true from n)
  | .olst ws, _, _, n, ⟨a, vs, bs, e, q, ea, r⟩ => ⟨a, vs, bs, e, q, ea, RepWs.nbI (show nbs ws = true from n) r⟩
  | .otup ws, _, _, n, ⟨a, vs, bs, e, q, ea, r⟩ => ⟨a, vs, bs, e, q, ea, RepWs.nbI (show nbs ws = true from n) r⟩
  | .odct ws, _, _, n, ⟨a, vs, bs, e, q, ea, r⟩ => ⟨a, vs, bs, e, q, ea, RepWK.nbI (show nbK ws = true from n) r⟩
  | .odcT ws, _, _, n, ⟨a, vs, bs, e, q, ea, r⟩ => ⟨a, vs, bs, e, q, ea, RepWT.nbI (show nbT ws = true from n) r⟩
  | .oobj C ws, _, _, n, ⟨a, dx, vs, bs, e, q, ea, r⟩ => ⟨a, dx, vs, bs, e, q, ea, RepWF.nbI (show nbF ws = true from n) r⟩
theorem RepWs.nbI : ∀ {ws : List W} {vs : List V} {as : List Addr}, nbs ws = true → RepWs K F B H ws vs as → RepWs K F B2 H ws vs as
  | [], _, _, _, h => h
  | w :: ws, _, _, n, ⟨v, r, a1, a2, e, ea, h, t⟩ => by
    have n' : (w.nb && nbs ws) = true := n
    rw [Bool.and_eq_true] at n'
    exact ⟨v, r, a1, a2, e, ea, RepW.nbI n'.1 h, RepWs.nbI n'.2 t⟩
theorem RepWK.nbI : ∀ {ws : List (Key × W)} {vs : List (Key × V)} {as : List Addr}, nbK ws = true → RepWK K F B H ws vs as → RepWK K F B2 H ws vs as
  | [], _, _, _, h => h
  | (k, w) :: ws, _, _, n, ⟨v, r, a1, a2, e, ea, h, t⟩ => by
    have n' : (w.nb && nbK ws) = true := n
    rw [Bool.and_eq_true] at n'
    exact ⟨v, r, a1, a2, e, ea, RepW.nbI n'.1 h, RepWK.nbI n'.2 t⟩
theorem RepWT.nbI : ∀ {ws : List (List Key × W)} {vs : List (List Key × V)} {as : List Addr}, nbT ws = true → RepWT K F B H ws vs as → RepWT K F B2 H ws vs as
  | [], _, _, _, h => h
  | (k, w) :: ws, _, _, n, ⟨v, r, a1, a2, e, ea, h, t⟩ => by
    have n' : (w.nb && nbT ws) = true := n
    rw [Bool.and_eq_true] at n'
    exact ⟨v, r, a1, a2, e, ea, RepW.nbI n'.1 h, RepWT.nbI n'.2 t⟩
theorem RepWF.nbI : ∀ {ws : List (Str × W)} {vs : List (Str × V)} {as : List Addr}, nbF ws = true → RepWF K F B H ws vs as → RepWF K F B2 H ws vs as
  | [], _, _, _, h => h
  | (k, w) :: ws, _, _, n, ⟨v, r, a1, a2, e, ea, h, t⟩ => by
    have n' : (w.nb && nbF ws) = true := n
    rw [Bool.and_eq_true] at n'
    exact ⟨v, r, a1, a2, e, ea, RepW.nbI n'.1 h, RepWF.nbI n'.2 t⟩
end
theorem RepOs.nbI : ∀ {fl : List Bool} {vs : List V} {os : List W} {as : List Addr}, nbs os = true → RepOs K F B H fl vs os as → RepOs K F B2 H fl vs os as
  | true :: fl, v :: vs, os, as, n, ⟨o, r, a1, a2, eo, ea, h, t⟩ => by
    subst eo
    have n' : (o.nb && nbs r) = true := n
    rw [Bool.and_eq_true] at n'
    exact ⟨o, r, a1, a2, rfl, ea, RepW.nbI n'.1 h, RepOs.nbI n'.2 t⟩
  | false :: fl, _ :: vs, os, as, n, h => RepOs.nbI (fl := fl) (vs := vs) n h
  | [], _, _, _, _, h => h
  | true :: _, [], _, _, _, h => h
  | false :: _, [], _, _, _, h => h
end
theorem go_unB {F B B' H F' H' : Hp} {asw asv : List Addr} (wf : WF F B H asw) (sB : Same B B') (g : Go F B' H asw F' H' asv) : Go F B H asw F' H' asv := by
  refine ⟨⟨g.wf.f, fun p o e => ?_, g.wf.nd, fun p i => ?_⟩, g.ext, g.keep, g.new, g.fnew⟩
  · refine g.keep p o (fun z => ?_) (wf.b _ _ e)
    rw [(wf.own p z).2.1] at e; cases e
  · obtain ⟨a, b, c⟩ := g.wf.own p i
    refine ⟨a, ?_, c⟩
    cases e : B p with
    | none => rfl
    | some o => rw [sB _ _ e] at b; cases b
/-- what is handed to one parameter: f in and out, b lent -/
def arg1 (f b : Bool) (r : R) : M (W × List Nat × List (Nat × W)) := fun L => match f, b, r with
  | true, _, .al i => match L[i]? with
    | some (some w) => .ok (w, [i], []) (L.set i none)
    | _ => .bad
  | true, _, .val w => .ok (w, [L.length], []) L
  | false, true, .al i => match L[i]? with
    | some (some w) => .ok (.brw w.rd, [], [(i, w)]) (L.set i none)
    | _ => .bad
  | false, true, .val (.brw d) => .ok (.brw d, [], []) L
  | false, _, r => (toF r L).bind fun d L1 => .ok (.frz d, [], []) L1
def prepB : List (Bool × Bool) → List R → M (List W × List Nat × List (Nat × W))
  | [], [], L => .ok ([], [], []) L
  | m :: ms, r :: rs, L => (arg1 m.1 m.2 r L).bind fun p L1 => (prepB ms rs L1).bind fun q L2 => .ok (p.1 :: q.1, p.2.1 ++ q.2.1, p.2.2 ++ q.2.2) L2
  | _, _, _ => .bad
section
variable (K : PySem.W.Frag) (F B H : Hp) (σ : L2.St)
def LkR : List (Nat × W) → List Addr → Prop
  | [], as => as = []
  | (i, w) :: r, as => ∃ v a1 a2, as = a1 ++ a2 ∧ σ[i]? = some (some v) ∧ RepW K F B H w v a1 ∧ LkR r a2
end
section
variable {K : PySem.W.Frag} {σ : L2.St}
theorem LkR.frame {F F' B H H' : Hp} (sF : Same F F') : ∀ {lk : List (Nat × W)} {as : List Addr}, Kept as H H' → LkR K F B H σ lk as → LkR K F' B H' σ lk as
  | [], _, _, h => h
  | _ :: _, _, k, ⟨v, a1, a2, ea, hv, h, t⟩ => by subst ea; exact ⟨v, a1, a2, rfl, hv, h.frame sF (Same.refl _) k.l, LkR.frame sF k.r t⟩
theorem LkR.app {F B H : Hp} {l2 : List (Nat × W)} {b : List Addr} (h2 : LkR K F B H σ l2 b) : ∀ {l1 : List (Nat × W)} {a : List Addr}, LkR K F B H σ l1 a → LkR K F B H σ (l1 ++ l2) (a ++ b)
  | [], _, h => by rw [show _ = [] from h]; exact h2
  | _ :: _, _, ⟨v, a1, a2, ea, hv, h, t⟩ => by subst ea; exact ⟨v, a1, a2 ++ b, by rw [List.append_assoc], hv, h, LkR.app h2 t⟩
theorem LkR.os {F B H : Hp} : ∀ {lk : List (Nat × W)} {as : List Addr}, LkR K F B H σ lk as → ∃ fl vs, RepOs K F B H fl vs (lk.map (·.2)) as ∧ IsRel σ fl vs (lk.map (·.1))
  | [], _, h => ⟨[], [], ⟨rfl, h⟩, rfl⟩
  | (i, w) :: _, _, ⟨v, a1, a2, ea, hv, h, t⟩ => by
    obtain ⟨fl, vs, q1, q2⟩ := LkR.os t
    exact ⟨true :: fl, v :: vs, ⟨w, _, a1, a2, rfl, ea, h, q1⟩, i, _, rfl, .inl hv, q2⟩
theorem IsRel.app {fl2 : List Bool} {vs2 : List V} {is2 : List Nat} (h2 : IsRel σ fl2 vs2 is2) : ∀ {fl : List Bool} {vs : List V} {is : List Nat}, vs.length = fl.length → IsRel σ fl vs is → IsRel σ (fl ++ fl2) (vs ++ vs2) (is ++ is2)
  | [], [], _, _, h => by rw [show _ = [] from h]; exact h2
  | true :: fl, v :: vs, _, hl, ⟨i, r, e, hv, t⟩ => by subst e; exact ⟨i, r ++ is2, rfl, hv, IsRel.app h2 (Nat.succ.inj hl) t⟩
  | false :: fl, v :: vs, is, hl, h => IsRel.app (fl := fl) (vs := vs) h2 (Nat.succ.inj hl) h
  | [], _ :: _, _, hl, _ => by cases hl
  | true :: _, [], _, hl, _ => by cases hl
  | false :: _, [], _, hl, _ => by cases hl
/-- the representation in the callee's borrowed heap -/
def LRep (K : PySem.W.Frag) (F B H : Hp) (aslk : List Addr) (w : W) (v : V) (as : List Addr) : Prop := ∀ F2 B', Same F F2 → Same B B' → Same F2 B' → Kept aslk H B' → RepW K F2 B' H w v as
theorem arg1_ok {F B H : Hp} {as asr : List Addr} {L L' : Lc} {f b : Bool} {r : R} {v : V} {w : W} {is : List Nat} {lk : List (Nat × W)} (wf : WF F B H (asr ++ as)) (s : SRel K F B H σ L as) (rr : RepR K F B H σ r v asr) (e : arg1 f b r L = .ok (w, is, lk) L') :
    ∃ F' asw aslk as', Go F B H (asr ++ as) F' H (asw ++ (aslk ++ as')) ∧ SRel K F' B H σ L' as' ∧ LkR K F' B H σ lk aslk ∧ LRep K F' B H aslk w v asw ∧ IsRel σ [f] [v] is := by
  have owned : ∀ {F' : Hp} {w : W} {a : List Addr}, RepW K F' B H w v a → LRep K F' B H [] w v a := fun {F' w a} h F2 B' s1 s2 _ _ => h.frame s1 s2 fun _ _ _ z => z
  have frzCase : ∀ {r : R}, RepR K F B H σ r v asr → ((toF r L).bind fun d L1 => Res.ok (W.frz d, ([] : List Nat), ([] : List (Nat × W))) L1) = .ok (w, is, lk) L' → f = false →
      ∃ F' asw aslk as', Go F B H (asr ++ as) F' H (asw ++ (aslk ++ as')) ∧ SRel K F' B H σ L' as' ∧ LkR K F' B H σ lk aslk ∧ LRep K F' B H aslk w v asw ∧ IsRel σ [f] [v] is := fun {r} rr e hf => by
    obtain ⟨d, L1, e1, e2⟩ := bind_ok e
    cases e2
    subst hf
    obtain ⟨F', as', g, s', q⟩ := toF_ok wf s rr e1
    exact ⟨F', [], [], as', g, s', rfl, owned ⟨q, rfl⟩, rfl⟩
  have slot : ∀ {i : Nat} {w0 : W}, RepR K F B H σ (.al i) v asr → L[i]? = some (some w0) → ∃ a1 as', Go F B H (asr ++ as) F H (a1 ++ as') ∧ SRel K F B H σ (L.set i none) as' ∧ σ[i]? = some (some v) ∧ RepW K F B H w0 v a1 := fun {i w0} rr ew => by
    obtain ⟨hv, rfl⟩ := rr
    obtain ⟨s0, pre, a1, post, q1, ⟨v', ev, q2⟩, ea, k⟩ := SRel.at s ew
    subst ev ea
    rw [hv] at q1
    cases q1
    have s1 := k F B H (some v) none [] (Same.refl _) (Same.refl _) (fun _ _ _ z => z) rfl
    rw [set_same hv] at s1
    exact ⟨a1, pre ++ ([] ++ post), (Go.refl wf).sub fun p => by simp only [List.count_append, List.count_nil]; omega, s1, hv, q2⟩
  unfold arg1 at e
  split at e
  · rename_i i
    split at e
    · rename_i w0 ew
      cases e
      obtain ⟨a1, as', g, s1, hv, q2⟩ := slot rr ew
      exact ⟨F, a1, [], as', g, s1, rfl, owned q2, i, [], rfl, .inl hv, rfl⟩
    · cases e
  · rename_i w0
    cases e
    exact ⟨F, asr, [], as, Go.refl wf, s, rfl, owned rr, L.length, [], rfl, .inr (Nat.le_of_eq s.len), rfl⟩
  · rename_i i
    split at e
    · rename_i w0 ew
      cases e
      obtain ⟨a1, as', g, s1, hv, q2⟩ := slot rr ew
      refine ⟨F, [], a1, as', g, s1, ⟨v, a1, [], by rw [List.append_nil], hv, q2, rfl⟩, fun F2 B' s1 s2 s3 k => ⟨?_, rfl⟩, rfl⟩
      exact RepW.rd s3 (Same.refl B') (q2.frame s1 s2 k)
    · cases e
  · rename_i d
    cases e
    obtain ⟨rd, rfl⟩ := rr
    exact ⟨F, [], [], as, Go.refl wf, s, rfl, fun F2 B' _ s2 _ _ => ⟨rd.mono s2, rfl⟩, rfl⟩
  · exact frzCase rr e rfl
def LReps (K : PySem.W.Frag) (F B H : Hp) (aslk : List Addr) (ws : List W) (vs : List V) (as : List Addr) : Prop := ∀ F2 B', Same F F2 → Same B B' → Same F2 B' → Kept aslk H B' → RepWs K F2 B' H ws vs as
theorem isrel_one {f : Bool} {v : V} {is is2 : List Nat} {fl : List Bool} {vs : List V} (h : IsRel σ [f] [v] is) (h2 : IsRel σ fl vs is2) : IsRel σ (f :: fl) (v :: vs) (is ++ is2) := IsRel.app (fl := [f]) (vs := [v]) h2 rfl h
theorem prepB_ok : ∀ {ms : List (Bool × Bool)} {rs : List R} {F B H : Hp} {as asr : List Addr} {L L' : Lc} {ws : List W} {is : List Nat} {lk : List (Nat × W)} {vs : List V}, WF F B H (asr ++ as) → SRel K F B H σ L as → RepRs K F B H σ rs vs asr → prepB ms rs L = .ok (ws, is, lk) L' →
    ∃ F' asw aslk as', Go F B H (asr ++ as) F' H (asw ++ (aslk ++ as')) ∧ SRel K F' B H σ L' as' ∧ LkR K F' B H σ lk aslk ∧ LReps K F' B H aslk ws vs asw ∧ vs.length = (ms.map (·.1)).length ∧ IsRel σ (ms.map (·.1)) vs is
  | [], [], F, B, H, as, asr, L, L', ws, is, lk, vs, wf, s, ⟨e1, e2⟩, e => by
    cases e
    subst e1 e2
    exact ⟨F, [], [], as, Go.refl wf, s, rfl, fun _ _ _ _ _ _ => ⟨rfl, rfl⟩, rfl, rfl⟩
  | [], _ :: _, _, _, _, _, _, _, _, _, _, _, _, _, _, _, e => by cases e
  | _ :: _, [], _, _, _, _, _, _, _, _, _, _, _, _, _, _, e => by cases e
  | (f, b) :: ms, r :: rs, F, B, H, as, asr, L, L', ws, is, lk, vs, wf, s, ⟨v, t, a1, a2, e1, e2, h, hr⟩, e => by
    subst e1 e2
    unfold prepB at e
    obtain ⟨p, L1, e1, e⟩ := bind_ok e
    obtain ⟨q, L2, e2, e3⟩ := bind_ok e
    cases e3
    have wf1 : WF F B H (a2 ++ (a1 ++ as)) := wf.sub fun p => by simp only [List.count_append]; omega
    obtain ⟨F1, asw, aslk, as1, g1, s1, k1, l1, i1⟩ := arg1_ok (w := p.1) (is := p.2.1) (lk := p.2.2) (wf1.sub (le_r _ _)) s h e1
    have g1' := g1.frame wf1
    have kp1 := g1.kept wf1
    have wf2 : WF F1 B H ((asw ++ aslk) ++ (a2 ++ as1)) := g1'.wf.sub fun p => by simp only [List.count_append]; omega
    obtain ⟨F2, asw2, aslk2, as2, g2, s2, k2, l2, hl, i2⟩ := prepB_ok (ws := q.1) (is := q.2.1) (lk := q.2.2) (wf2.sub (le_r _ _)) s1 (hr.frame g1.ext kp1) e2
    have g2' := g2.frame wf2
    refine ⟨F2, asw ++ asw2, aslk ++ aslk2, as2, ((g1'.sup fun p => by simp only [List.count_append]; omega).trans (g2'.sup fun p => by simp only [List.count_append]; omega)).sub fun p => by simp only [List.count_append]; omega, s2, LkR.app k2 (k1.frame g2.ext fun _ _ _ z => z), fun F3 B' q1 q2 q3 kk => ?_, by simpa using hl, isrel_one i1 i2⟩
    exact ⟨v, t, asw, asw2, rfl, rfl, l1 F3 B' (g2.ext.trans q1) q2 q3 kk.l, l2 F3 B' q1 q2 q3 kk.r⟩
theorem arg1_nexc {f b : Bool} {r : R} {L L' : Lc} {x : Ex} (h : arg1 f b r L = .exc x L') : False := by
  unfold arg1 at h
  split at h
  · split at h <;> cases h
  · cases h
  · split at h <;> cases h
  · cases h
  · rcases bind_exc h with e | ⟨d, L1, _, e⟩
    · exact toF_nexc e
    · cases e
theorem prepB_nexc : ∀ {ms : List (Bool × Bool)} {rs : List R} {L L' : Lc} {x : Ex}, prepB ms rs L = .exc x L' → False
  | [], [], _, _, _, h => by cases h
  | [], _ :: _, _, _, _, h => by cases h
  | _ :: _, [], _, _, _, h => by cases h
  | m :: ms, r :: rs, L, L', x, h => by
    unfold prepB at h
    rcases bind_exc h with e | ⟨p, L1, _, e⟩
    · exact arg1_nexc e
    · rcases bind_exc e with e | ⟨q, L2, _, e⟩
      · exact prepB_nexc e
      · cases e
end
/-- back to the caller's slots: what was moved, what was lent -/
def backB (is : List Nat) (os : List W) (lk : List (Nat × W)) (L : Lc) : Option Lc := (back is os L).bind fun L1 => back (lk.map (·.1)) (lk.map (·.2)) L1
theorem backB_ok {K : PySem.W.Frag} {σ : L2.St} {F B H : Hp} {fl : List Bool} {vs : List V} {is : List Nat} {os : List W} {lk : List (Nat × W)} {L L' : Lc} {as aso aslk : List Addr} (s : SRel K F B H σ L as) (ir : IsRel σ fl vs is) (ro : RepOs K F B H fl vs os aso) (kl : LkR K F B H σ lk aslk) (e : backB is os lk L = some L') :
    ∃ as', (∀ p, List.count p as' ≤ List.count p (aso ++ (aslk ++ as))) ∧ SRel K F B H σ L' as' := by
  obtain ⟨L1, e1, e2⟩ := bind_some e
  obtain ⟨as1, k1, s1⟩ := back_ok s ir ro e1
  obtain ⟨fl2, vs2, ro2, ir2⟩ := kl.os
  obtain ⟨as2, k2, s2⟩ := back_ok s1 ir2 ro2 e2
  exact ⟨as2, fun p => by have := k1 p; have := k2 p; simp only [List.count_append] at *; omega, s2⟩
def calledB (fn : Fn) (p : List W × List Nat × List (Nat × W)) (L : Lc) : Res R := match fn p.1 with
  | .ok w os => if w.nb = true ∧ nbs os = true then match backB p.2.1 os p.2.2 L with
    | some L1 => .ok (.val w) L1
    | none => .bad
    else .bad
  | .exc x os => if nbs os = true then match backB p.2.1 os p.2.2 L with
    | some L1 => .exc x L1
    | none => .bad
    else .bad
  | .bad => .bad
def callRB (ms : List (Bool × Bool)) (fn : Fn) (rs : List R) (L : Lc) : Res R := (prepB ms rs L).bind fun p L1 => calledB fn p L1
def mCallL (ms : List (Bool × Bool)) (fn : Fn) (m : M (List R)) : M R := fun L => (m L).bind fun rs L1 => callRB ms fn rs L1
/-- the callee's borrowed heap: all but what it gets for its own -/
def lent (H : Hp) (asw : List Addr) : Hp := fun p => if 0 < List.count p asw then none else H p
theorem lent_same {F H : Hp} {asw : List Addr} (h : Same F H) (n : ∀ p, In p asw → F p = none) : Same F (lent H asw) := fun p o e => by
  unfold lent
  rw [if_neg (fun z => by rw [n p z] at e; cases e)]
  exact h p o e
theorem lent_wf {F B H : Hp} {asw : List Addr} (w : WF F B H asw) : WF F (lent H asw) H asw := by
  refine ⟨w.f, fun p o e => ?_, w.nd, fun p i => ⟨(w.own p i).1, if_pos i, (w.own p i).2.2⟩⟩
  unfold lent at e
  split at e
  · cases e
  · exact e
theorem lent_kept {H : Hp} {asw aslk : List Addr} (n : ∀ p, List.count p (asw ++ aslk) ≤ 1) : Kept aslk H (lent H asw) := fun p i o e => by
  unfold lent
  rw [if_neg (fun z => by
    have := n p
    rw [List.count_append] at this
    have i' : 0 < List.count p aslk := i
    omega)]
  exact e
theorem callB_sp {K : PySem.W.Frag} {Wx : WX} {ms : List (Bool × Bool)} {fn : Fn} {F B H : Hp} {as asr : List Addr} {σ : L2.St} {L : Lc} {rs : List R} {vs : List V} {Q : VK} (wf : WF F B H (asr ++ as)) (s : SRel K F B H σ L as) (rr : RepRs K F B H σ rs vs asr)
    (h : End K Wx F B H (asr ++ as) σ (okE K F B H (asr ++ as) σ Q) (callRB ms fn rs L)) : spBV K (ms.map (·.1)) fn vs H Q (fun cls d H' => Wx cls d σ H') := by
  unfold callRB at h
  cases ep : prepB ms rs L with
  | exc x L1 => exact (prepB_nexc ep).elim
  | bad => rw [ep] at h; exact h.elim
  | ok p L1 =>
    rw [ep] at h
    have h1 : End K Wx F B H (asr ++ as) σ (okE K F B H (asr ++ as) σ Q) (calledB fn p L1) := h
    obtain ⟨F1, asw, aslk, as1, g1, s1, kl, lr, hl, ir⟩ := prepB_ok (ws := p.1) (is := p.2.1) (lk := p.2.2) wf s rr ep
    have wfw : WF F1 B H asw := g1.wf.sub fun p => by simp only [List.count_append]; omega
    have wf1 : WF F1 B H ((aslk ++ as1) ++ asw) := g1.wf.sub fun p => by simp only [List.count_append]; omega
    have sB : Same B (lent H asw) := lent_same wfw.b fun p i => (wfw.own p i).2.1
    have sF : Same F1 (lent H asw) := lent_same wfw.f fun p i => (wfw.own p i).1
    have kk : Kept aslk H (lent H asw) := lent_kept fun p => by have := g1.wf.nd p; simp only [List.count_append] at *; omega
    refine ⟨hl, F1, lent H asw, p.1, asw, lent_wf wfw, lr F1 _ (Same.refl _) sB sF kk, ?_⟩
    unfold calledB at h1
    cases ef : fn p.1 with
    | bad => rw [ef] at h1; exact h1.elim
    | ok w os =>
      rw [ef] at h1
      dsimp only at h1 ⊢
      intro v F' H' asv aso g2 rv ro
      split at h1
      · rename_i hn
        cases eb : backB p.2.1 os p.2.2 L1 with
        | none => rw [eb] at h1; exact h1.elim
        | some L2 =>
          rw [eb] at h1
          have g2' := go_unB wfw sB g2
          have g3 := g2'.frame wf1
          have k3 := g2'.kept wf1
          obtain ⟨as2, k2, s2⟩ := backB_ok (SRel.frame g2.ext (Same.refl _) k3.r s1) ir (RepOs.nbI hn.2 ro) (kl.frame g2.ext k3.l) eb
          refine h1 v F' H' asv as2 (g1.trans ((g3.sup fun p => by simp only [List.count_append]; omega).sub fun p => ?_)) s2 (RepW.nbI hn.1 rv)
          have := k2 p
          simp only [List.count_append] at this ⊢
          omega
      · exact h1.elim
    | exc x os =>
      rw [ef] at h1
      dsimp only at h1 ⊢
      intro cls d F' H' aso g2 ro rx
      split at h1
      · rename_i hn
        cases eb : backB p.2.1 os p.2.2 L1 with
        | none => rw [eb] at h1; exact h1.elim
        | some L2 =>
          rw [eb] at h1
          have g2' := go_unB wfw sB g2
          have g3 := g2'.frame wf1
          have k3 := g2'.kept wf1
          obtain ⟨as2, k2, s2⟩ := backB_ok (SRel.frame g2.ext (Same.refl _) k3.r s1) ir (RepOs.nbI hn ro) (kl.frame g2.ext k3.l) eb
          refine h1 cls d F' H' as2 (g1.trans ((g3.sup fun p => by simp only [List.count_append]; omega).sub fun p => ?_)) s2 rx
          have := k2 p
          simp only [List.count_append] at this ⊢
          omega
      · exact h1.elim
def madeB (fn : Fn) (C : Addr) (p : List W × List Nat × List (Nat × W)) (L : Lc) : Res R := match fn (.oobj C [] :: p.1) with
  | .ok (.frz .non) (o :: os) => if nbs (o :: os) = true then match backB p.2.1 os p.2.2 L with
    | some L2 => .ok (.val o) L2
    | none => .bad
    else .bad
  | .exc x (o :: os) => if nbs (o :: os) = true then match backB p.2.1 os p.2.2 L with
    | some L2 => .exc x L2
    | none => .bad
    else .bad
  | _ => .bad
def madeRB (C : Addr) (ms : List (Bool × Bool)) (fn : Fn) (rs : List R) (L : Lc) : Res R := (prepB ms rs L).bind fun p L1 => madeB fn C p L1
def mMakeL (C : Addr) (ms : List (Bool × Bool)) (fn : Fn) (mr : M (List R)) : M R := fun L => (mr L).bind fun rs L1 => madeRB C ms fn rs L1
theorem makeB_sp {K : PySem.W.Frag} {Wx : WX} {C : Addr} {ms : List (Bool × Bool)} {fn : Fn} {F B H : Hp} {as asr : List Addr} {σ : L2.St} {L : Lc} {rs : List R} {vs : List V} {Q : VK} (wf : WF F B H (asr ++ as)) (s : SRel K F B H σ L as) (rr : RepRs K F B H σ rs vs asr)
    (h : End K Wx F B H (asr ++ as) σ (okE K F B H (asr ++ as) σ Q) (madeRB C ms fn rs L)) {x dx : Addr} (nx : H x = none) (ndx : H dx = none) (ne : dx ≠ x) :
    spBV K (true :: ms.map (·.1)) fn (.ref x :: vs) (upd (upd H dx (.own x)) x (.ins C dx [])) (fun v H2 => v = .non ∧ Q (.ref x) H2) (fun cls d H' => Wx cls d σ H') := by
  unfold madeRB at h
  cases ep : prepB ms rs L with
  | exc x L1 => exact (prepB_nexc ep).elim
  | bad => rw [ep] at h; exact h.elim
  | ok p L1 =>
    rw [ep] at h
    obtain ⟨F1, asw, aslk, as1, g1, s1, kl, lr, hl, ir⟩ := prepB_ok (ws := p.1) (is := p.2.1) (lk := p.2.2) wf s rr ep
    have g2 := Go.alloc g1.wf ndx (.own x)
    have nx2 : upd H dx (.own x) x = none := by rw [upd_ne (Ne.symm ne)]; exact nx
    have g3 := Go.alloc g2.wf nx2 (.ins C dx [])
    have sm : Same H (upd (upd H dx (.own x)) x (.ins C dx [])) := fun q o e => by
      rw [upd_ne (fun z => by rw [z, nx] at e; cases e), upd_ne (fun z => by rw [z, ndx] at e; cases e)]; exact e
    have gA := (g1.trans g2).trans g3
    generalize hH : upd (upd H dx (.own x)) x (.ins C dx []) = H1 at *
    have hx : H1 x = some (.ins C dx []) := by rw [← hH]; exact upd_same
    have wfw : WF F1 B H1 (x :: asw) := g3.wf.sub fun p => by simp only [List.count_append, List.count_cons]; omega
    have wf1 : WF F1 B H1 ((aslk ++ as1) ++ (x :: asw)) := g3.wf.sub fun p => by simp only [List.count_append, List.count_cons]; omega
    have s1' := SRel.frame (Same.refl F1) (Same.refl B) (fun q _ o e => sm q o e) s1
    have kl' := kl.frame (H' := H1) (Same.refl F1) fun q _ o e => sm q o e
    have sB : Same B (lent H1 (x :: asw)) := lent_same wfw.b fun p i => (wfw.own p i).2.1
    have sF : Same F1 (lent H1 (x :: asw)) := lent_same wfw.f fun p i => (wfw.own p i).1
    have kk : Kept aslk H (lent H1 (x :: asw)) := fun q i o e => lent_kept (fun p => by have := wf1.nd p; simp only [List.count_append] at *; omega) q i o (sm q o e)
    have rw1 := RepWs.frame (H' := H1) (Same.refl F1) (Same.refl _) (fun q _ o e => sm q o e) (lr F1 _ (Same.refl _) sB sF kk)
    refine ⟨by rw [List.length_cons, List.length_cons, hl], F1, lent H1 (x :: asw), .oobj C [] :: p.1, x :: asw, lent_wf wfw, ⟨.ref x, vs, [x], asw, rfl, rfl, ⟨x, dx, [], [], rfl, hx, rfl, rfl, rfl⟩, rw1⟩, ?_⟩
    have h1 : End K Wx F B H (asr ++ as) σ (okE K F B H (asr ++ as) σ Q) (madeB fn C p L1) := h
    unfold madeB at h1
    cases ef : fn (.oobj C [] :: p.1) with
    | bad => rw [ef] at h1; exact h1.elim
    | ok w os =>
      rw [ef] at h1
      dsimp only at h1 ⊢
      intro v F' H' asv aso g4 rv ro
      obtain ⟨o, os', a1, a2, eo, eas, rob, ro'⟩ := ro
      subst eo eas
      cases w with
      | frz d => cases d with
        | non =>
          refine ⟨rv.1, ?_⟩
          dsimp only at h1
          split at h1
          · rename_i hn
            have hn' : (o.nb && nbs os') = true := hn
            rw [Bool.and_eq_true] at hn'
            cases eb : backB p.2.1 os' p.2.2 L1 with
            | none => rw [eb] at h1; exact h1.elim
            | some L2 =>
              rw [eb] at h1
              have g4' := go_unB wfw sB g4
              have g5 := g4'.frame wf1
              have k5 := g4'.kept wf1
              obtain ⟨as2, k2, s2⟩ := backB_ok (SRel.frame g4.ext (Same.refl _) k5.r s1') ir (RepOs.nbI hn'.2 ro') (kl'.frame g4.ext k5.l) eb
              refine h1 (.ref x) F' H' a1 as2 (gA.trans ((g5.sup fun p => by simp only [List.count_append, List.count_cons]; omega).sub fun p => ?_)) s2 (RepW.nbI hn'.1 rob)
              have := k2 p
              simp only [List.count_append] at this ⊢
              omega
          · exact h1.elim
        | _ => exact h1.elim
      | _ => exact h1.elim
    | exc y os =>
      rw [ef] at h1
      dsimp only at h1 ⊢
      intro cls d F' H' aso g4 ro rx
      obtain ⟨o, os', a1, a2, eo, eas, rob, ro'⟩ := ro
      subst eo eas
      dsimp only at h1
      split at h1
      · rename_i hn
        have hn' : (o.nb && nbs os') = true := hn
        rw [Bool.and_eq_true] at hn'
        cases eb : backB p.2.1 os' p.2.2 L1 with
        | none => rw [eb] at h1; exact h1.elim
        | some L2 =>
          rw [eb] at h1
          have g4' := go_unB wfw sB g4
          have g5 := g4'.frame wf1
          have k5 := g4'.kept wf1
          obtain ⟨as2, k2, s2⟩ := backB_ok (SRel.frame g4.ext (Same.refl _) k5.r s1') ir (RepOs.nbI hn'.2 ro') (kl'.frame g4.ext k5.l) eb
          refine h1 cls d F' H' as2 (gA.trans ((g5.sup fun p => by simp only [List.count_append, List.count_cons]; omega).sub fun p => ?_)) s2 rx
          have := k2 p
          simp only [List.count_append] at this ⊢
          omega
      · exact h1.elim
end BV

namespace BV
open PySem PySem.Spec PyProof.Rows L2
section
variable {X : Cx} {Wx : WX} {j k : Nat} {f C : Addr} {fd : FuncData} {ps : List Str} {ms : List (Bool × Bool)} {fl : List Bool} {fn : Fn} {x m : Str} {p pos apos : Pos} {o e : Expr} {es : List Expr} {ma : M R} {mr : M (List R)} {pl : Sem Bool}
theorem be_callL (c : Bd X Wx j) (D : DefOk X.prog X.w X.K X.mg X.base k x (ms.map (·.1)) fn) (ha : PA X (e :: es) (bvA X.K Wx mr)) (hk : k ≤ j := by decide)
    (hg : Gl X x := by rfl) (hdb : (x == ("__debug__" : Str)) = false := by decide) (he : starEach (e :: es) X.env = (false, eval e X.env) :: starEach es X.env := by rfl) (hpl : (backTo pos (starEach es X.env)).any (·.1) = false := by rfl) :
    PE X (.Call (.Name x p) (e :: es) [] pos) (bvE X.K Wx (mCallL ms fn mr)) := by
  obtain ⟨f, fd, ps, hm, hkp, hb, FO⟩ := D.ex
  refine pe_imp (pe_callSD FO (c.hr.mono hk) hg hm hkp hb .nil (fun σ => passAt c.tk σ) ha hdb he hpl) fun σ H Q ⟨F, B, L, as, wf, s, h⟩ => ?_
  refine ⟨F, B, L, as, wf, s, (End.bind h).imp fun rs L1 h1 vs F1 H1 asr as1 g1 s1 r1 => ?_⟩
  show spBV X.K (ms.map (·.1)) fn (vs ++ []) H1 Q _
  rw [List.append_nil]
  exact callB_sp g1.wf s1 r1 (h1.behind g1 fun r L3 h3 v F' H' asr' as' g' s' r' => h3 v F' H' asr' as' (g1.trans g') s' r')
theorem be_makeL (c : Bd X Wx j) (D : MakeOk X.prog X.w X.K X.mg X.base k C (ms.map (·.1)) fn) (hm : X.mg x = some (.ref C)) (ha : PA X (e :: es) (bvA X.K Wx mr)) (hk : k + 1 ≤ j := by decide)
    (hg : Gl X x := by rfl) (hdb : (x == ("__debug__" : Str)) = false := by decide) (he : starEach (e :: es) X.env = (false, eval e X.env) :: starEach es X.env := by rfl) (hpl : (backTo pos (starEach es X.env)).any (·.1) = false := by rfl) :
    PE X (.Call (.Name x p) (e :: es) [] pos) (bvE X.K Wx (mMakeL C ms fn mr)) := by
  obtain ⟨f, fd, ps, MK, hb, FO⟩ := D.ex
  refine ⟨fun pins s σ H Q I ⟨F, B, L, as, wf, sr, h⟩ => wpAny_Call_Name_kw (ld_glob I hg hm ?_ hdb)⟩
  refine PySem.W.callWith_K (h₀ := X.base) I.ok.mod.kin MK.kp (thn (ha.run pos pins s σ H (fun vs H1 => ∀ y dy, H1 y = none → H1 dy = none → dy ≠ y → spBV X.K (true :: ms.map (·.1)) fn (.ref y :: vs) (upd (upd H1 dy (.own y)) y (.ins C dy [])) (fun v H2 => v = .non ∧ Q (.ref y) H2) (fun cls d H' => Wx cls d σ H')) I
    ⟨F, B, L, as, wf, sr, (End.bind h).imp fun rs L1 h1 vs F1 H1 asr as1 g1 s1 r1 y dy n1 n2 n3 => ?_⟩) fun us s1 ⟨vs, H1, I1, r, q⟩ => ⟨I1.kIn, ?_⟩) he hpl
  · exact makeB_sp g1.wf s1 r1 (h1.behind g1 fun r L3 h3 v F' H' asr' as' g' s' r' => h3 v F' H' asr' as' (g1.trans g') s' r') n1 n2 n3
  · have hq := q (s1.heap.objs.size + 1) s1.heap.objs.size (I1.hok.fresh (Nat.le_succ _)) (I1.hok.fresh (Nat.le_refl _)) (Nat.ne_of_lt (Nat.lt_succ_self _))
    have J := Inv.made (C := C) I1
    have rv : Vals (V.ref (s1.heap.objs.size + 1) :: vs) (Value.ref (s1.heap.objs.size + 1) :: us) := .cons rfl r
    have hl : ((Value.ref (s1.heap.objs.size + 1) :: us) ++ []).length = ps.length := by
      rw [List.append_nil, ← Paired.length rv, FO.len _ _ _ _ hq]
    have hb' := hb _ (Value.ref (s1.heap.objs.size + 1) :: us) J.kIn hl
    rw [List.append_nil] at hb'
    refine wpAny_call (make_map (f := f) I1.kIn MK.makes MK.init (beq_iff_eq.mp MK.fn) (codeAny_mono (FO.run _ X.stack _ _ _ _ _ _ _ ((c.hr.mono hk).make C us []) (J.env0.make C us []) hb' rv hq) fun res s' hr => ?_))
    match res, hr with
    | .error ex, hr => exact passAt c.tk σ pins _ _ ex s' J hr
    | .ok (.ret u), hr =>
      obtain ⟨v, H', I3, rv3, ev, q3⟩ := J.after hr
      subst ev
      exact ⟨rv3, ⟨V.ref (s1.heap.objs.size + 1), H', I3, rfl, q3⟩⟩
    | .ok .next, hr => exact hr.elim
    | .ok .brk, hr => exact hr.elim
    | .ok .cont, hr => exact hr.elim
/-- a method whose receiver or arguments are lent -/
def mMethL (C : Addr) (ms : List (Bool × Bool)) (fn : Fn) (m : Str) (ma : M R) (mr : M (List R)) : M R := fun L => (ma L).bind fun r L1 => match r.get L1 with
  | some w => if w.cls = some C ∧ w.nofld m = true then (mr L1).bind fun rs L2 => callRB ms fn (r :: rs) L2 else .bad
  | none => .bad
theorem be_methL (c : Bd X Wx j) (D : MetOk X.prog X.w X.K X.mg X.base k C m (ms.map (·.1)) fn) (he : PE X o (bvE X.K Wx ma)) (ha : PA X (e :: es) (bvA X.K Wx mr)) (hk : k ≤ j := by decide)
    (hst : starEach (e :: es) X.env = (false, eval e X.env) :: starEach es X.env := by rfl) (hpl : (backTo pos (starEach es X.env)).any (·.1) = false := by rfl)
    (ht : eval (.Call (.Attribute o m apos) (e :: es) [] pos) X.env = (eval o X.env >>= fun ov => standAt apos.atName >>= fun _ => holding [ov] (getMethod ov m pl) >>= fun q => callWith pos q.1 q.2 (backTo pos (starEach (e :: es) X.env)) (backToKw pos (keywordEach [] X.env))) := by rfl) :
    PE X (.Call (.Attribute o m apos) (e :: es) [] pos) (bvE X.K Wx (mMethL C ms fn m ma mr)) := by
  refine ⟨fun pins s σ H Q I ⟨F, B, L, as, wf, sr, h⟩ => PySem.W.methodCall_KW (pl := pl) (thn (he.run pins s σ H (fun x H1 => ∃ a dx fs, x = .ref a ∧ H1 a = some (.ins C dx fs) ∧ fs.lookup m = none ∧
      bvA X.K Wx mr σ H1 fun vs H2 => spBV X.K (ms.map (·.1)) fn (.ref a :: vs) H2 Q fun cls d H' => Wx cls d σ H') I ⟨F, B, L, as, wf, sr, (End.bind h).imp fun r L1 h1 v F1 H1 asr as1 g1 s1 r1 => ?_⟩) ?_) ht⟩
  · split at h1
    · rename_i w ew
      split at h1
      · rename_i hC
        obtain ⟨bs, rw'⟩ := get_ok s1 r1 ew
        obtain ⟨a, dx, ws, ev, ea, _, hn⟩ := cls_ok g1.wf.f g1.wf.b rw' hC.1
        subst ev
        refine ⟨a, dx, ws, rfl, ea, hn m hC.2, F1, B, L1, as1, g1.wf.sub (le_r _ _), s1, (End.bind h1).behind (g1.sub (le_r _ _)) fun rs L2 h2 vs F2 H2 asr2 as2 g2 s2 r2 => ?_⟩
        obtain ⟨g3, k3⟩ := framed g1 g2
        refine callB_sp (asr := asr ++ asr2) (as := as2) (rs := r :: rs) (L := L2) (σ := σ) (F := F2) (B := B) (g3.wf.sub fun p => by simp only [List.count_append]; omega) s2 ⟨.ref a, vs, asr, asr2, rfl, rfl, r1.frame g2.ext k3, r2⟩ ?_
        have g4 : Go F B H as F2 H2 ((asr ++ asr2) ++ as2) := g3.sub fun p => by simp only [List.count_append]; omega
        exact h2.behind g4 fun r L3 h3 v F' H' asr' as' g' s' r' => h3 v F' H' asr' as' (g4.trans g') s' r'
      · exact h1.elim
    · exact h1.elim
  · rintro u s1 ⟨x, H1, I1, rx, a, dx, fs, rfl, ea, hl, q⟩
    obtain rfl : u = Value.ref a := rx
    obtain ⟨f, fd, ps, hm, FO, hb⟩ := D.ex
    refine getmeth_ok I1 ea D.cls hm hl (PySem.W.callWith_K (first := [.ref a]) (h₀ := X.base) I.ok.mod.kin hm.kp (thn (ha.run pos pins s1 σ H1 _ I1 q) fun us s2 ⟨vs, H2, I2, r, q2⟩ => ⟨I2.kIn, ?_⟩) hst hpl)
    exact run_fnSD (E := fun σ cls d H => Wx cls d σ H) (us := .ref a :: us) (vs := .ref a :: vs) FO (c.hr.mono hk) hb .nil (passAt c.tk σ) I2 (.cons rfl r) (by rw [List.append_nil]; exact q2)
theorem be_methL0 (c : Bd X Wx j) (D : MetOk X.prog X.w X.K X.mg X.base k C m (ms.map (·.1)) fn) (he : PE X o (bvE X.K Wx ma)) (hk : k ≤ j := by decide)
    (ht : eval (.Call (.Attribute o m apos) [] [] pos) X.env = (eval o X.env >>= fun ov => standAt apos.atName >>= fun _ => holding [ov] (getMethod ov m pl) >>= fun q => callWith pos q.1 q.2 (backTo pos (starEach [] X.env)) (backToKw pos (keywordEach [] X.env))) := by rfl) :
    PE X (.Call (.Attribute o m apos) [] [] pos) (bvE X.K Wx (mMethL C ms fn m ma mNil)) := by
  refine ⟨fun pins s σ H Q I ⟨F, B, L, as, wf, sr, h⟩ => PySem.W.methodCall_KW (pl := pl) (thn (he.run pins s σ H (fun x H1 => ∃ a dx fs, x = .ref a ∧ H1 a = some (.ins C dx fs) ∧ fs.lookup m = none ∧
      spBV X.K (ms.map (·.1)) fn [.ref a] H1 Q fun cls d H' => Wx cls d σ H') I ⟨F, B, L, as, wf, sr, (End.bind h).imp fun r L1 h1 v F1 H1 asr as1 g1 s1 r1 => ?_⟩) ?_) ht⟩
  · split at h1
    · rename_i w ew
      split at h1
      · rename_i hC
        obtain ⟨bs, rw'⟩ := get_ok s1 r1 ew
        obtain ⟨a, dx, ws, ev, ea, _, hn⟩ := cls_ok g1.wf.f g1.wf.b rw' hC.1
        subst ev
        refine ⟨a, dx, ws, rfl, ea, hn m hC.2, ?_⟩
        refine callB_sp (asr := asr) (as := as1) (rs := [r]) (L := L1) (σ := σ) (F := F1) (B := B) g1.wf s1 ⟨.ref a, [], asr, [], rfl, by simp, r1, rfl, rfl⟩ ?_
        exact (show End X.K Wx F B H as σ (okE X.K F B H as σ Q) (callRB ms fn [r] L1) from h1).behind g1 fun r L3 h3 v F' H' asr' as' g' s' r' => h3 v F' H' asr' as' (g1.trans g') s' r'
      · exact h1.elim
    · exact h1.elim
  · rintro u s1 ⟨x, H1, I1, rx, a, dx, fs, rfl, ea, hl, q⟩
    obtain rfl : u = Value.ref a := rx
    obtain ⟨f, fd, ps, hm, FO, hb⟩ := D.ex
    refine getmeth_ok I1 ea D.cls hm hl (PySem.W.callWith_K0 (first := [.ref a]) I1.kIn hm.kp ?_)
    exact run_fnSD (E := fun σ cls d H => Wx cls d σ H) (us := [.ref a]) (vs := [.ref a]) FO (c.hr.mono hk) hb .nil (passAt c.tk σ) I1 (.cons rfl .nil) q
/-- o.m(), plain -/
theorem be_methD0 (c : Bd X Wx j) (D : MetOk X.prog X.w X.K X.mg X.base k C m fl fn) (he : PE X o (bvE X.K Wx ma)) (hk : k ≤ j := by decide)
    (ht : eval (.Call (.Attribute o m apos) [] [] pos) X.env = (eval o X.env >>= fun ov => standAt apos.atName >>= fun _ => holding [ov] (getMethod ov m pl) >>= fun q => callWith pos q.1 q.2 (backTo pos (starEach [] X.env)) (backToKw pos (keywordEach [] X.env))) := by rfl) :
    PE X (.Call (.Attribute o m apos) [] [] pos) (bvE X.K Wx (mMeth (dOne C fl fn) m ma mNil)) := be_meth0 c hk (dOne_ok D) he ht
/-- f() -/
theorem be_callD0 (c : Bd X Wx j) (D : DefOk X.prog X.w X.K X.mg X.base k x [] fn) (hk : k ≤ j := by decide) (hg : Gl X x := by rfl) (hdb : (x == ("__debug__" : Str)) = false := by decide) :
    PE X (.Call (.Name x p) [] [] pos) (bvE X.K Wx (mCall [] fn mNil)) := by
  obtain ⟨f, fd, ps, hm, hkp, hb, FO⟩ := D.ex
  refine ⟨fun pins s σ H Q I ⟨F, B, L, as, wf, sr, h⟩ => ?_⟩
  refine wpAny_Call_Name_kw (ld_glob I hg hm ?_ hdb)
  have q : spBV X.K [] fn [] H Q (fun cls d H' => Wx cls d σ H') := call_sp (asr := []) (rs := []) wf sr ⟨rfl, rfl⟩ h
  refine PySem.W.callWith_K0 I.kIn hkp (run_fnSD (us := []) (vs := []) FO (c.hr.mono hk) hb .nil (passAt c.tk σ) I .nil q)
end

/-! ### displays that keep what is theirs -/
def toWs : List R → M (List W)
  | [], L => .ok [] L
  | r :: rs, L => (toW true r L).bind fun w L1 => (toWs rs L1).bind fun ws L2 => .ok (w :: ws) L2
theorem toW_nexc {kp : Bool} {r : R} {L L' : Lc} {x : Ex} (h : toW kp r L = .exc x L') : False := by
  unfold toW at h
  split at h
  · cases h
  · rcases bind_exc h with e | ⟨d, L1, _, e⟩
    · exact toF_nexc e
    · cases e
theorem toWs_nexc : ∀ {rs : List R} {L L' : Lc} {x : Ex}, toWs rs L = .exc x L' → False
  | [], _, _, _, h => by cases h
  | r :: rs, L, L', x, h => by
    unfold toWs at h
    rcases bind_exc h with e | ⟨w, L1, _, e⟩
    · exact toW_nexc e
    · rcases bind_exc e with e | ⟨ws, L2, _, e⟩
      · exact toWs_nexc e
      · cases e
theorem toWs_ok {K : PySem.W.Frag} {σ : L2.St} : ∀ {rs : List R} {F B H : Hp} {as asr : List Addr} {L L' : Lc} {ws : List W} {vs : List V}, WF F B H (asr ++ as) → SRel K F B H σ L as → RepRs K F B H σ rs vs asr → toWs rs L = .ok ws L' →
    ∃ F' bs as', Go F B H (asr ++ as) F' H (bs ++ as') ∧ SRel K F' B H σ L' as' ∧ RepWs K F' B H ws vs bs
  | [], F, B, H, as, asr, L, L', ws, vs, wf, s, ⟨e1, e2⟩, e => by
    cases e
    subst e1 e2
    exact ⟨F, [], as, Go.refl wf, s, rfl, rfl⟩
  | r :: rs, F, B, H, as, asr, L, L', ws, vs, wf, s, ⟨v, t, a1, a2, e1, e2, h, hr⟩, e => by
    subst e1 e2
    unfold toWs at e
    obtain ⟨w, L1, ew, e⟩ := bind_ok e
    obtain ⟨us, L2, eu, e3⟩ := bind_ok e
    cases e3
    have wf1 : WF F B H (a2 ++ (a1 ++ as)) := wf.sub fun p => by simp only [List.count_append]; omega
    obtain ⟨F1, b1, as1, g1, s1, q1⟩ := toW_ok (wf1.sub (le_r _ _)) s h ew
    have g1' := g1.frame wf1
    have k1 := g1.kept wf1
    have wf2 : WF F1 B H (b1 ++ (a2 ++ as1)) := g1'.wf.sub fun p => by simp only [List.count_append]; omega
    obtain ⟨F2, b2, as2, g2, s2, q2⟩ := toWs_ok (wf2.sub (le_r _ _)) s1 (hr.frame g1.ext k1) eu
    have g2' := g2.frame wf2
    have k2 := g2.kept wf2
    exact ⟨F2, b1 ++ b2, as2, ((g1'.sup fun p => by simp only [List.count_append]; omega).trans (g2'.sup fun p => by simp only [List.count_append]; omega)).sub fun p => by simp only [List.count_append]; omega, s2, v, t, b1, b2, rfl, rfl, q1.frame g2.ext (Same.refl _) k2, q2⟩
def mLstW (m : M (List R)) : M R := fun L => (m L).bind fun rs L1 => (toWs rs L1).bind fun ws L2 => if ws.length ≤ sizeLine then .ok (.val (.olst ws)) L2 else .bad
section
variable {X : Cx} {Wx : WX} {es : List Expr} {mr : M (List R)} {pos : Pos}
theorem be_lstW (h : PA X es (bvA X.K Wx mr)) : PE X (.List es pos) (bvE X.K Wx (mLstW mr)) := by
  refine pe_imp (pe_lst h) fun σ H Q ⟨F, B, L, as, wf, s, h⟩ => ?_
  refine ⟨F, B, L, as, wf, s, (End.bind h).imp fun rs L1 h1 vs F1 H1 asr as1 g1 s1 r1 => ?_⟩
  cases e2 : toWs rs L1 with
  | exc x L2 => exact (toWs_nexc e2).elim
  | bad => rw [e2] at h1; exact h1.elim
  | ok ws L2 =>
    rw [e2] at h1
    obtain ⟨F2, bs, as2, g2, s2, q2⟩ := toWs_ok g1.wf s1 r1 e2
    obtain ⟨hl, h3⟩ := of_ite (show End X.K Wx F B H as σ (okE X.K F B H as σ Q) (if ws.length ≤ sizeLine then .ok (.val (.olst ws)) L2 else .bad) from h1)
    refine ⟨by rw [q2.len]; exact hl, fun p np => ?_⟩
    have g3 := Go.alloc g2.wf np (.lst vs)
    have k : ∀ l : List Addr, Kept l H1 (upd H1 p (.lst vs)) := fun l q _ o e => by rw [upd_ne (fun z => by rw [z, np] at e; cases e)]; exact e
    exact h3 (.ref p) _ _ (p :: bs) as2 ((g1.trans g2).trans g3) (SRel.frame g3.ext (Same.refl _) (k _) s2) ⟨p, vs, bs, rfl, upd_same, rfl, RepWs.frame g3.ext (Same.refl _) (k _) q2⟩
end
end BV

namespace BV
open PySem PySem.Spec PyProof.Rows L2

/-! ### within what is owned: ways to a kid -/
inductive Step where
  | ix (n : Nat) | fld (f : Str) | key (k : Key) | keyT (k : List Key)
def aput {κ α : Type} [DecidableEq κ] (k : κ) (u : α) : List (κ × α) → List (κ × α)
  | [] => []
  | (g, x) :: r => if g = k then (g, u) :: r else (g, x) :: aput k u r
def aget {κ α : Type} [DecidableEq κ] (k : κ) : List (κ × α) → Option α
  | [] => none
  | (g, x) :: r => if g = k then some x else aget k r
def W.kid : W → Step → Option W
  | .olst ws, .ix n => ws[n]?
  | .otup ws, .ix n => ws[n]?
  | .oobj _ fs, .fld f => aget f fs
  | .odct kvs, .key k => aget k kvs
  | .odcT kvs, .keyT k => aget k kvs
  | _, _ => none
def W.putk : W → Step → W → W
  | .olst ws, .ix n, u => .olst (ws.set n u)
  | .otup ws, .ix n, u => .otup (ws.set n u)
  | .oobj C fs, .fld f, u => .oobj C (aput f u fs)
  | .odct kvs, .key k, u => .odct (aput k u kvs)
  | .odcT kvs, .keyT k, u => .odcT (aput k u kvs)
  | w, _, _ => w
def KidV (H : Hp) (v : V) : Step → V → Prop
  | .ix n, x => ∃ a vs, v = .ref a ∧ (H a = some (.lst vs) ∨ H a = some (.tup vs)) ∧ vs[n]? = some x
  | .fld f, x => ∃ a C dx fs, v = .ref a ∧ H a = some (.ins C dx fs) ∧ aget f fs = some x
  | .key k, x => ∃ a kvs, v = .ref a ∧ H a = some (.dK kvs) ∧ aget k kvs = some x
  | .keyT k, x => ∃ a kvs, v = .ref a ∧ H a = some (.dT kvs) ∧ aget k kvs = some x
def PathV (H : Hp) : V → List Step → V → Prop
  | v, [], x => x = v
  | v, s :: p, x => ∃ y, KidV H v s y ∧ PathV H y p x
def W.at (w : W) : List Step → Option W
  | [] => some w
  | s :: p => match w.kid s with
    | some u => u.at p
    | none => none
def W.putAt (w : W) : List Step → W → W
  | [], u => u
  | s :: p, u => match w.kid s with
    | some x => w.putk s (x.putAt p u)
    | none => w
theorem PathV.snoc {H : Hp} {s : Step} {x y : V} (h2 : KidV H x s y) : ∀ {p : List Step} {v : V}, PathV H v p x → PathV H v (p ++ [s]) y
  | [], v, h => by rw [show x = v from h] at h2; exact ⟨y, h2, rfl⟩
  | _ :: _, _, ⟨z, h, t⟩ => ⟨z, h, PathV.snoc h2 t⟩
theorem PathV.unsnoc {H : Hp} {s : Step} {y : V} : ∀ {p : List Step} {v : V}, PathV H v (p ++ [s]) y → ∃ x, PathV H v p x ∧ KidV H x s y
  | [], v, ⟨z, h, t⟩ => ⟨v, rfl, by rw [show y = z from t]; exact h⟩
  | _ :: _, _, ⟨z, h, t⟩ => by
    obtain ⟨x, h1, h2⟩ := PathV.unsnoc t
    exact ⟨x, ⟨z, h, h1⟩, h2⟩
section
variable {K : PySem.W.Frag} {F B H : Hp}
/-- a slot of a list of values, and another one in its place -/
theorem RepWs.kid : ∀ {ws : List W} {vs : List V} {as : List Addr} {n : Nat} {u : W}, RepWs K F B H ws vs as → ws[n]? = some u → ∃ x pre bs post, vs[n]? = some x ∧ RepW K F B H u x bs ∧ as = pre ++ (bs ++ post) ∧
    ∀ (F' B' H' : Hp) (u' : W) (bs' : List Addr), Same F F' → Same B B' → Kept (pre ++ post) H H' → RepW K F' B' H' u' x bs' → RepWs K F' B' H' (ws.set n u') vs (pre ++ (bs' ++ post))
  | [], _, _, _, _, _, h => by cases h
  | w :: ws, _, _, 0, u, ⟨v, r, a1, a2, e, ea, h, t⟩, hu => by
    cases hu
    subst e ea
    exact ⟨v, [], a1, a2, rfl, h, rfl, fun F' B' H' u' bs' sF sB k h' => ⟨v, r, bs', a2, rfl, rfl, h', t.frame sF sB k⟩⟩
  | w :: ws, _, _, n + 1, u, ⟨v, r, a1, a2, e, ea, h, t⟩, hu => by
    obtain ⟨x, pre, bs, post, h1, h2, h3, h4⟩ := RepWs.kid t (show ws[n]? = some u from hu)
    subst e ea h3
    refine ⟨x, a1 ++ pre, bs, post, h1, h2, by rw [List.append_assoc], fun F' B' H' u' bs' sF sB k h' => ?_⟩
    rw [List.append_assoc] at k ⊢
    exact ⟨v, _, a1, _, rfl, rfl, h.frame sF sB k.l, h4 F' B' H' u' bs' sF sB k.r h'⟩
theorem RepWF.kid {f : Str} : ∀ {ws : List (Str × W)} {vs : List (Str × V)} {as : List Addr} {u : W}, RepWF K F B H ws vs as → aget f ws = some u → ∃ x pre bs post, aget f vs = some x ∧ RepW K F B H u x bs ∧ as = pre ++ (bs ++ post) ∧
    ∀ (F' B' H' : Hp) (u' : W) (bs' : List Addr), Same F F' → Same B B' → Kept (pre ++ post) H H' → RepW K F' B' H' u' x bs' → RepWF K F' B' H' (aput f u' ws) vs (pre ++ (bs' ++ post))
  | [], _, _, _, _, h => by cases h
  | (g, w) :: ws, _, _, u, ⟨v, r, a1, a2, e, ea, h, t⟩, hu => by
    unfold aget at hu
    by_cases c : g = f
    · rw [if_pos c] at hu
      cases hu
      subst e ea
      refine ⟨v, [], a1, a2, by unfold aget; rw [if_pos c], h, rfl, fun F' B' H' u' bs' sF sB k h' => ?_⟩
      unfold aput
      rw [if_pos c]
      exact ⟨v, r, bs', a2, rfl, rfl, h', t.frame sF sB k⟩
    · rw [if_neg c] at hu
      obtain ⟨x, pre, bs, post, h1, h2, h3, h4⟩ := RepWF.kid t hu
      subst e ea h3
      refine ⟨x, a1 ++ pre, bs, post, by unfold aget; rw [if_neg c]; exact h1, h2, by rw [List.append_assoc], fun F' B' H' u' bs' sF sB k h' => ?_⟩
      rw [List.append_assoc] at k ⊢
      unfold aput
      rw [if_neg c]
      exact ⟨v, _, a1, _, rfl, rfl, h.frame sF sB k.l, h4 F' B' H' u' bs' sF sB k.r h'⟩
theorem RepWK.kid {f : Key} : ∀ {ws : List (Key × W)} {vs : List (Key × V)} {as : List Addr} {u : W}, RepWK K F B H ws vs as → aget f ws = some u → ∃ x pre bs post, aget f vs = some x ∧ RepW K F B H u x bs ∧ as = pre ++ (bs ++ post) ∧
    ∀ (F' B' H' : Hp) (u' : W) (bs' : List Addr), Same F F' → Same B B' → Kept (pre ++ post) H H' → RepW K F' B' H' u' x bs' → RepWK K F' B' H' (aput f u' ws) vs (pre ++ (bs' ++ post))
  | [], _, _, _, _, h => by cases h
  | (g, w) :: ws, _, _, u, ⟨v, r, a1, a2, e, ea, h, t⟩, hu => by
    unfold aget at hu
    by_cases c : g = f
    · rw [if_pos c] at hu
      cases hu
      subst e ea
      refine ⟨v, [], a1, a2, by unfold aget; rw [if_pos c], h, rfl, fun F' B' H' u' bs' sF sB k h' => ?_⟩
      unfold aput
      rw [if_pos c]
      exact ⟨v, r, bs', a2, rfl, rfl, h', t.frame sF sB k⟩
    · rw [if_neg c] at hu
      obtain ⟨x, pre, bs, post, h1, h2, h3, h4⟩ := RepWK.kid t hu
      subst e ea h3
      refine ⟨x, a1 ++ pre, bs, post, by unfold aget; rw [if_neg c]; exact h1, h2, by rw [List.append_assoc], fun F' B' H' u' bs' sF sB k h' => ?_⟩
      rw [List.append_assoc] at k ⊢
      unfold aput
      rw [if_neg c]
      exact ⟨v, _, a1, _, rfl, rfl, h.frame sF sB k.l, h4 F' B' H' u' bs' sF sB k.r h'⟩
theorem RepWT.kid {f : List Key} : ∀ {ws : List (List Key × W)} {vs : List (List Key × V)} {as : List Addr} {u : W}, RepWT K F B H ws vs as → aget f ws = some u → ∃ x pre bs post, aget f vs = some x ∧ RepW K F B H u x bs ∧ as = pre ++ (bs ++ post) ∧
    ∀ (F' B' H' : Hp) (u' : W) (bs' : List Addr), Same F F' → Same B B' → Kept (pre ++ post) H H' → RepW K F' B' H' u' x bs' → RepWT K F' B' H' (aput f u' ws) vs (pre ++ (bs' ++ post))
  | [], _, _, _, _, h => by cases h
  | (g, w) :: ws, _, _, u, ⟨v, r, a1, a2, e, ea, h, t⟩, hu => by
    unfold aget at hu
    by_cases c : g = f
    · rw [if_pos c] at hu
      cases hu
      subst e ea
      refine ⟨v, [], a1, a2, by unfold aget; rw [if_pos c], h, rfl, fun F' B' H' u' bs' sF sB k h' => ?_⟩
      unfold aput
      rw [if_pos c]
      exact ⟨v, r, bs', a2, rfl, rfl, h', t.frame sF sB k⟩
    · rw [if_neg c] at hu
      obtain ⟨x, pre, bs, post, h1, h2, h3, h4⟩ := RepWT.kid t hu
      subst e ea h3
      refine ⟨x, a1 ++ pre, bs, post, by unfold aget; rw [if_neg c]; exact h1, h2, by rw [List.append_assoc], fun F' B' H' u' bs' sF sB k h' => ?_⟩
      rw [List.append_assoc] at k ⊢
      unfold aput
      rw [if_neg c]
      exact ⟨v, _, a1, _, rfl, rfl, h.frame sF sB k.l, h4 F' B' H' u' bs' sF sB k.r h'⟩
theorem RepW.kid {w u : W} {v : V} {as : List Addr} {st : Step} (h : RepW K F B H w v as) (e : w.kid st = some u) : ∃ x pre bs post, (∀ H', Kept as H H' → KidV H' v st x) ∧ RepW K F B H u x bs ∧ as = pre ++ (bs ++ post) ∧
    ∀ (F' B' H' : Hp) (u' : W) (bs' : List Addr), Same F F' → Same B B' → Kept (pre ++ post) H H' → RepW K F' B' H' u' x bs' → RepW K F' B' H' (w.putk st u') v (pre ++ (bs' ++ post)) := by
  cases w with
  | frz d => cases st <;> cases e
  | brw d => cases st <;> cases e
  | olst ws => cases st with
    | ix n =>
      obtain ⟨a, vs, cs, e1, q, ea, r⟩ := h
      obtain ⟨x, pre, bs, post, h1, h2, h3, h4⟩ := RepWs.kid r e
      subst e1 ea h3
      exact ⟨x, a :: pre, bs, post, fun H' k => ⟨a, vs, rfl, .inl (k.h q), h1⟩, h2, rfl, fun F' B' H' u' bs' sF sB k h' => ⟨a, vs, _, rfl, Kept.h (show Kept (a :: (pre ++ post)) H H' from k) q, rfl, h4 F' B' H' u' bs' sF sB (show Kept (a :: (pre ++ post)) H H' from k).t h'⟩⟩
    | _ => cases e
  | otup ws => cases st with
    | ix n =>
      obtain ⟨a, vs, cs, e1, q, ea, r⟩ := h
      obtain ⟨x, pre, bs, post, h1, h2, h3, h4⟩ := RepWs.kid r e
      subst e1 ea h3
      exact ⟨x, a :: pre, bs, post, fun H' k => ⟨a, vs, rfl, .inr (k.h q), h1⟩, h2, rfl, fun F' B' H' u' bs' sF sB k h' => ⟨a, vs, _, rfl, Kept.h (show Kept (a :: (pre ++ post)) H H' from k) q, rfl, h4 F' B' H' u' bs' sF sB (show Kept (a :: (pre ++ post)) H H' from k).t h'⟩⟩
    | _ => cases e
  | odct kvs => cases st with
    | key n =>
      obtain ⟨a, vs, cs, e1, q, ea, r⟩ := h
      obtain ⟨x, pre, bs, post, h1, h2, h3, h4⟩ := RepWK.kid r e
      subst e1 ea h3
      exact ⟨x, a :: pre, bs, post, fun H' k => ⟨a, vs, rfl, k.h q, h1⟩, h2, rfl, fun F' B' H' u' bs' sF sB k h' => ⟨a, vs, _, rfl, Kept.h (show Kept (a :: (pre ++ post)) H H' from k) q, rfl, h4 F' B' H' u' bs' sF sB (show Kept (a :: (pre ++ post)) H H' from k).t h'⟩⟩
    | _ => cases e
  | odcT kvs => cases st with
    | keyT n =>
      obtain ⟨a, vs, cs, e1, q, ea, r⟩ := h
      obtain ⟨x, pre, bs, post, h1, h2, h3, h4⟩ := RepWT.kid r e
      subst e1 ea h3
      exact ⟨x, a :: pre, bs, post, fun H' k => ⟨a, vs, rfl, k.h q, h1⟩, h2, rfl, fun F' B' H' u' bs' sF sB k h' => ⟨a, vs, _, rfl, Kept.h (show Kept (a :: (pre ++ post)) H H' from k) q, rfl, h4 F' B' H' u' bs' sF sB (show Kept (a :: (pre ++ post)) H H' from k).t h'⟩⟩
    | _ => cases e
  | oobj C fs => cases st with
    | fld n =>
      obtain ⟨a, dx, vs, cs, e1, q, ea, r⟩ := h
      obtain ⟨x, pre, bs, post, h1, h2, h3, h4⟩ := RepWF.kid r e
      subst e1 ea h3
      exact ⟨x, a :: pre, bs, post, fun H' k => ⟨a, C, dx, vs, rfl, k.h q, h1⟩, h2, rfl, fun F' B' H' u' bs' sF sB k h' => ⟨a, dx, vs, _, rfl, Kept.h (show Kept (a :: (pre ++ post)) H H' from k) q, rfl, h4 F' B' H' u' bs' sF sB (show Kept (a :: (pre ++ post)) H H' from k).t h'⟩⟩
    | _ => cases e
theorem RepW.path : ∀ {p : List Step} {w u : W} {v : V} {as : List Addr}, RepW K F B H w v as → w.at p = some u → ∃ x pre bs post, (∀ H', Kept as H H' → PathV H' v p x) ∧ RepW K F B H u x bs ∧ as = pre ++ (bs ++ post) ∧
    ∀ (F' B' H' : Hp) (u' : W) (bs' : List Addr), Same F F' → Same B B' → Kept (pre ++ post) H H' → RepW K F' B' H' u' x bs' → RepW K F' B' H' (w.putAt p u') v (pre ++ (bs' ++ post))
  | [], w, u, v, as, h, e => by
    have e' : some w = some u := by
      have e2 := e
      unfold W.at at e2
      exact e2
    cases e'
    exact ⟨v, [], as, [], fun _ _ => rfl, h, by simp, fun F' B' H' u' bs' sF sB k h' => by rw [List.append_nil]; unfold W.putAt; exact h'⟩
  | s :: p, w, u, v, as, h, e => by
    unfold W.at at e
    split at e
    · rename_i z ez
      obtain ⟨y, pre, bs, post, h1, h2, h3, h4⟩ := RepW.kid h ez
      obtain ⟨x, pre2, bs2, post2, k1, k2, k3, k4⟩ := RepW.path h2 e
      subst h3 k3
      refine ⟨x, pre ++ pre2, bs2, post2 ++ post, fun H' k => ⟨y, h1 H' k, k1 H' fun q i => k q (in_r (in_l i))⟩, k2, by simp only [List.append_assoc], fun F' B' H' u' bs' sF sB k h' => ?_⟩
      have kk : Kept (pre ++ post) H H' ∧ Kept (pre2 ++ post2) H H' := ⟨fun q i => k q (by unfold In at *; simp only [List.count_append] at *; omega), fun q i => k q (by unfold In at *; simp only [List.count_append] at *; omega)⟩
      have r := h4 F' B' H' (z.putAt p u') (pre2 ++ (bs' ++ post2)) sF sB kk.1 (k4 F' B' H' u' bs' sF sB kk.2 h')
      have eq : w.putAt (s :: p) u' = w.putk s (z.putAt p u') := by
        rw [W.putAt, ez]
      rw [eq, show (pre ++ pre2) ++ (bs' ++ (post2 ++ post)) = pre ++ ((pre2 ++ (bs' ++ post2)) ++ post) by simp only [List.append_assoc]]
      exact r
    · cases e
theorem KidV.same {v : V} {s : Step} {x y : V} (h : KidV H v s x) (k : KidV H v s y) : x = y := by
  cases s with
  | ix n =>
    obtain ⟨a, vs, e1, q, l⟩ := h
    obtain ⟨b, us, e2, q2, l2⟩ := k
    subst e1
    cases e2
    have : vs = us := by
      rcases q with q | q <;> rcases q2 with q2 | q2 <;> rw [q] at q2 <;> cases q2 <;> rfl
    subst this
    rw [l] at l2
    exact Option.some.inj l2
  | fld f =>
    obtain ⟨a, C, dx, vs, e1, q, l⟩ := h
    obtain ⟨b, C2, dx2, us, e2, q2, l2⟩ := k
    subst e1
    cases e2
    rw [q] at q2
    cases q2
    rw [l] at l2
    exact Option.some.inj l2
  | key f =>
    obtain ⟨a, vs, e1, q, l⟩ := h
    obtain ⟨b, us, e2, q2, l2⟩ := k
    subst e1
    cases e2
    rw [q] at q2
    cases q2
    rw [l] at l2
    exact Option.some.inj l2
  | keyT f =>
    obtain ⟨a, vs, e1, q, l⟩ := h
    obtain ⟨b, us, e2, q2, l2⟩ := k
    subst e1
    cases e2
    rw [q] at q2
    cases q2
    rw [l] at l2
    exact Option.some.inj l2
theorem PathV.same : ∀ {p : List Step} {v x y : V}, PathV H v p x → PathV H v p y → x = y
  | [], _, _, _, h, k => (show _ = _ from h).trans (show _ = _ from k).symm
  | _ :: _, _, _, _, ⟨z, h, t⟩, ⟨z', h', t'⟩ => by
    have := h.same h'
    subst this
    exact PathV.same t t'
end
/-- slot i's content, on the way p -/
def wat (L : Lc) (i : Nat) (p : List Step) : Option W := match L[i]? with
  | some (some w) => w.at p
  | _ => none
def wput (L : Lc) (i : Nat) (p : List Step) (u : W) : Lc := match L[i]? with
  | some (some w) => L.set i (some (w.putAt p u))
  | _ => L
/-- slot i's owned part on the way p may be exchanged for one at the same place -/
theorem slot_path {K : PySem.W.Frag} {F B H : Hp} {σ : L2.St} {L : Lc} {as : List Addr} {i : Nat} {p : List Step} {u : W} (s : SRel K F B H σ L as) (e : wat L i p = some u) :
    ∃ vi x pre bs post, σ[i]? = some (some vi) ∧ (∀ H', Kept as H H' → PathV H' vi p x) ∧ RepW K F B H u x bs ∧ as = pre ++ (bs ++ post) ∧
      ∀ (F' B' H' : Hp) (u' : W) (bs' : List Addr), Same F F' → Same B B' → Kept (pre ++ post) H H' → RepW K F' B' H' u' x bs' → SRel K F' B' H' σ (wput L i p u') (pre ++ (bs' ++ post)) := by
  unfold wat at e
  split at e
  · rename_i w ew
    obtain ⟨s0, pre, a1, post, h1, ⟨v, ev, h2⟩, ea, k⟩ := SRel.at s ew
    subst ev ea
    obtain ⟨x, pre2, bs2, post2, k1, k2, k3, k4⟩ := RepW.path h2 e
    subst k3
    refine ⟨v, x, pre ++ pre2, bs2, post2 ++ post, h1, fun H' kk => k1 H' fun q j => kk q (in_r (in_l j)), k2, by simp only [List.append_assoc], fun F' B' H' u' bs' sF sB kk h' => ?_⟩
    have k3 : Kept (pre ++ post) H H' ∧ Kept (pre2 ++ post2) H H' := ⟨fun q j => kk q (by unfold In at *; simp only [List.count_append] at *; omega), fun q j => kk q (by unfold In at *; simp only [List.count_append] at *; omega)⟩
    have r := k F' B' H' (some v) (some (w.putAt p u')) (pre2 ++ (bs' ++ post2)) sF sB k3.1 ⟨v, rfl, k4 F' B' H' u' bs' sF sB k3.2 h'⟩
    rw [set_same h1] at r
    unfold wput
    rw [ew]
    dsimp only
    rw [show (pre ++ pre2) ++ (bs' ++ (post2 ++ post)) = pre ++ ((pre2 ++ (bs' ++ post2)) ++ post) by simp only [List.append_assoc]]
    exact r
  · cases e

/-! ### what is only looked at -/
abbrev Pk := Lc → Option D
def bvK (K : PySem.W.Frag) (pk : Pk) : TE := fun σ H Q => ∃ F B L as d, WF F B H as ∧ SRel K F B H σ L as ∧ pk L = some d ∧ ∀ v, Rep K H d v → Q v H
def kVar (i : Nat) : Pk := fun L => match L[i]? with
  | some (some w) => some w.rd
  | _ => none
def kC (d : D) : Pk := fun _ => some d
def kOp (f : Int → Int → D) (a b : Pk) : Pk := fun L => match a L, b L with
  | some (.int i), some (.int j) => some (f i j)
  | _, _ => none
def kLen (a : Pk) : Pk := fun L => (a L).bind lenD
def kFld (cs : List Addr) (f : Str) (a : Pk) : Pk := fun L => match a L with
  | some (.obj C fs) => if C ∈ cs then fs.lookup f else none
  | _ => none
def kIx (a b : Pk) : Pk := fun L => match a L, b L with
  | some d, some (.int i) => match d.seq with
    | some ds => atI ds i
    | none => none
  | _, _ => none
/-- a scalar that is looked at -/
def mPk (pk : Pk) : M R := fun L => match pk L with
  | some d => if d.scal = true then .ok (.val (.frz d)) L else .bad
  | none => .bad
/-- a walk to slot i's part, looked at -/
def bvP (K : PySem.W.Frag) (i : Nat) (pm : Lc → Option (List Step)) : TE := fun σ H Q => ∃ F B L as vi p, WF F B H as ∧ SRel K F B H σ L as ∧ σ[i]? = some (some vi) ∧ pm L = some p ∧ ∀ v, PathV H vi p v → Q v H
def p0 : Lc → Option (List Step) := fun _ => some []
/-- slot i's part p, then the item -/
def pIx (i : Nat) (pm : Lc → Option (List Step)) (b : Pk) : Lc → Option (List Step) := fun L => match pm L, b L with
  | some p, some (.int j) => match wat L i p with
    | some (.olst ws) => (ixN ws.length j).map fun n => p ++ [.ix n]
    | some (.otup ws) => (ixN ws.length j).map fun n => p ++ [.ix n]
    | _ => none
  | _, _ => none
def pFld (cs : List Addr) (i : Nat) (pm : Lc → Option (List Step)) (f : Str) : Lc → Option (List Step) := fun L => match pm L with
  | some p => match wat L i p with
    | some (.oobj C fs) => if C ∈ cs ∧ (aget f fs).isSome = true then some (p ++ [.fld f]) else none
    | _ => none
  | none => none
theorem aget_lookup {α : Type} (f : Str) : ∀ fs : List (Str × α), aget f fs = fs.lookup f
  | [] => rfl
  | (g, x) :: r => by
    rw [look_cons, aget, aget_lookup f r]
    by_cases c : g = f
    · rw [if_pos c, if_pos c.symm]
    · rw [if_neg c, if_neg fun z => c z.symm]
theorem atI_reps {K : PySem.W.Frag} {F : Hp} {ds : List D} {vs : List V} {i : Int} {d : D} (h : Reps K F ds vs) (e : atI ds i = some d) : ∃ v, atI vs i = some v ∧ Rep K F d v := by
  unfold atI at e ⊢
  rw [h.len]
  cases q : ixN ds.length i with
  | none => rw [q] at e; cases e
  | some j =>
    rw [q] at e
    exact reps_get h e
section
variable {X : Cx} {Wx : WX} {a b e : Expr} {x f : Str} {i : Nat} {pa pb pk : Pk} {pm : Lc → Option (List Step)} {pos p1 : Pos}
theorem pk_var (hN : X.N[i]? = some x) (hv : Vis X.env.scope x := by first | exact Or.inl rfl | exact Or.inr (Or.inl rfl) | exact Or.inr (Or.inr rfl)) (hd : (x == ("__debug__" : Str)) = false := by decide)
    (hcd : (x == ("__classdict__" : Str)) = false := by decide) : PE X (.Name x pos) (bvK X.K (kVar i)) := by
  refine pe_imp (pe_var hN hv hd hcd) fun σ H Q ⟨F, B, L, as, d, wf, s, h, q⟩ => ?_
  unfold kVar at h
  split at h
  · rename_i w ew
    cases h
    obtain ⟨s0, pre, a1, post, h1, ⟨v, ev, h2⟩, ea, k⟩ := SRel.at s ew
    subst ev
    exact ⟨v, h1, q v (RepW.rd wf.f wf.b h2)⟩
  · cases h
theorem pk_C {d : D} {v : V} (he : PE X e (tC v)) (hd : ∀ F, Rep X.K F d v) : PE X e (bvK X.K (kC d)) := pe_imp he fun σ H Q ⟨F, B, L, as, d', wf, s, h, q⟩ => by
  cases h
  exact q v (hd H)
theorem pk_int {j : Int} {n : Nat} : PE X (.Constant (.int j) n pos) (bvK X.K (kC (.int j))) := pk_C pe_int fun _ => rfl
theorem pk_op {op : Operator} {g : Int → Int → D} {gv : Int → Int → V} (ho : OpR X (binaryOp op) (rI0 gv)) (hg : ∀ i j F, Rep X.K F (g i j) (gv i j)) (ha : PE X a (bvK X.K pa)) (hb : PE X b (bvK X.K pb)) : PE X (.BinOp a op b pos) (bvK X.K (kOp g pa pb)) :=
  pe_imp (pe_op ho ha hb) fun σ H Q ⟨F, B, L, as, d, wf, s, h, q⟩ => by
    unfold kOp at h
    split at h
    · rename_i i j ei ej
      cases h
      exact ⟨F, B, L, as, _, wf, s, ei, fun v1 r1 => ⟨F, B, L, as, _, wf, s, ej, fun v2 r2 => ⟨i, j, r1, r2, q _ (hg i j H)⟩⟩⟩
    · cases h
theorem pk_add (ha : PE X a (bvK X.K pa)) (hb : PE X b (bvK X.K pb)) : PE X (.BinOp a .Add b pos) (bvK X.K (kOp (fun i j => .int (i + j)) pa pb)) := pk_op op_add (fun _ _ _ => rfl) ha hb
theorem pk_sub (ha : PE X a (bvK X.K pa)) (hb : PE X b (bvK X.K pb)) : PE X (.BinOp a .Sub b pos) (bvK X.K (kOp (fun i j => .int (i - j)) pa pb)) := pk_op op_sub (fun _ _ _ => rfl) ha hb
theorem pk_len {p : Pos} (hm : X.mg "len" = none) (ha : PE X a (bvK X.K pa)) (hg : Gl X "len" := by rfl) (he : starEach [a] X.env = (false, eval a X.env) :: starEach [] X.env := by rfl) (hpl : (backTo pos (starEach [] X.env)).any (·.1) = false := by rfl) : PE X (.Call (.Name "len" p) [a] [] pos) (bvK X.K (kLen pa)) :=
  pe_imp (pe_callB call_len hg hm PyProof.Rows.Boot.«len» (pa_cons ha pa_nil he) (by decide) (by decide) he hpl) fun σ H Q ⟨F, B, L, as, e, wf, s, h, q⟩ => by
    obtain ⟨d, ed, h⟩ := bind_some h
    refine ⟨F, B, L, as, d, wf, s, ed, fun v r => ?_⟩
    show ∃ x n, [v] = [x] ∧ LenV X.K x H n ∧ Q (.int n) H
    cases d with
    | str y => cases r; obtain ⟨c, rfl⟩ := ite_some (show (if y.length ≤ sizeLine then some (D.int y.length) else none) = some e from h); exact ⟨_, y.length, rfl, ⟨c, rfl⟩, q _ rfl⟩
    | lst xs => cases h; obtain ⟨a, vs, e1, hq, r⟩ := r; subst e1; exact ⟨_, xs.length, rfl, .inl ⟨vs, .inl (.inl hq), by rw [r.len]⟩, q _ rfl⟩
    | lok xs => cases h; obtain ⟨a, vs, e1, hq, r⟩ := r; subst e1; exact ⟨_, xs.length, rfl, .inl ⟨vs, hq, by rw [r.len]⟩, q _ rfl⟩
    | tup xs => cases h; obtain ⟨a, vs, e1, hq, r⟩ := r; subst e1; exact ⟨_, xs.length, rfl, .inr ⟨vs, hq, by rw [r.len]⟩, q _ rfl⟩
    | _ => cases h
theorem pk_fld (cs : List Addr) (hcs : ∀ C ∈ cs, Cls X.K C ∧ NoAttr X.K C f) (ha : PE X a (bvK X.K pa)) (hb : attributeBase a f X.env (eval a X.env) = eval a X.env := by rfl) : PE X (.Attribute a f pos) (bvK X.K (kFld cs f pa)) :=
  pe_imp (pe_fld ha hb) fun σ H Q ⟨F, B, L, as, e, wf, s, h, q⟩ => by
    unfold kFld at h
    split at h
    · rename_i C fs ed
      split at h
      · rename_i hC
        refine ⟨F, B, L, as, _, wf, s, ed, fun v ⟨z, dx, ws, e1, hq, r⟩ => ?_⟩
        obtain ⟨u, eu, ru⟩ := RepF.get r h
        exact ⟨z, C, dx, ws, u, e1, hq, (hcs C hC).1, (hcs C hC).2, eu, q u ru⟩
      · cases h
    · cases h
theorem pk_ix (ha : PE X a (bvK X.K pa)) (hb : PE X b (bvK X.K pb)) (hs : PlainIx b := by intro _ _; rfl) : PE X (.Subscript a b pos) (bvK X.K (kIx pa pb)) :=
  pe_imp (pe_ix ix_seq ha hb hs) fun σ H Q ⟨F, B, L, as, e, wf, s, h, q⟩ => by
    unfold kIx at h
    split at h
    · rename_i d j ed ej
      split at h
      · rename_i ds es
        refine ⟨F, B, L, as, _, wf, s, ed, fun v r => ⟨F, B, L, as, _, wf, s, ej, fun v2 r2 => ?_⟩⟩
        obtain ⟨z, vs, e1, hq, rs⟩ := repD_seq es r
        obtain ⟨u, eu, ru⟩ := atI_reps rs h
        rcases hq with hq | hq
        · exact .inl ⟨z, vs, j, u, e1, r2, hq, eu, q u ru⟩
        · exact .inr (.inl ⟨z, vs, j, u, e1, r2, hq, eu, q u ru⟩)
      · cases h
    · cases h
theorem be_pk (he : PE X e (bvK X.K pk)) : PE X e (bvE X.K Wx (mPk pk)) := pe_imp he fun σ H Q ⟨F, B, L, as, wf, s, h⟩ => by
  unfold mPk at h
  split at h
  · rename_i d ed
    obtain ⟨hs, h2⟩ := of_ite h
    exact ⟨F, B, L, as, d, wf, s, ed, fun v r => h2 v F H [] as (Go.refl wf) s ⟨r.scal hs, rfl⟩⟩
  · exact h.elim
/-! ways -/
theorem pp_0 (hN : X.N[i]? = some x) (hv : Vis X.env.scope x := by first | exact Or.inl rfl | exact Or.inr (Or.inl rfl) | exact Or.inr (Or.inr rfl)) (hd : (x == ("__debug__" : Str)) = false := by decide)
    (hcd : (x == ("__classdict__" : Str)) = false := by decide) : PE X (.Name x pos) (bvP X.K i p0) :=
  pe_imp (pe_var hN hv hd hcd) fun σ H Q ⟨F, B, L, as, vi, p, wf, s, hvi, h, q⟩ => by
    cases h
    exact ⟨vi, hvi, q vi rfl⟩
theorem pp_ix (ha : PE X a (bvP X.K i pm)) (hb : PE X b (bvK X.K pb)) (hs : PlainIx b := by intro _ _; rfl) : PE X (.Subscript a b pos) (bvP X.K i (pIx i pm pb)) :=
  pe_imp (pe_ix ix_seq ha hb hs) fun σ H Q ⟨F, B, L, as, vi, p, wf, s, hvi, h, q⟩ => by
    unfold pIx at h
    split at h
    · rename_i p' j ep ej
      refine ⟨F, B, L, as, vi, p', wf, s, hvi, ep, fun v r => ⟨F, B, L, as, _, wf, s, ej, fun v2 r2 => ?_⟩⟩
      have kk : ∀ l, Kept l H H := fun _ _ _ _ z => z
      split at h
      · rename_i ws ew
        obtain ⟨n, en, rfl⟩ := map_some h
        obtain ⟨vi', y, pre, bs, post, k1, k2, ⟨z, vs, cs, e1, hq, ez, rs⟩, _⟩ := slot_path s ew
        rw [hvi] at k1
        cases k1
        have := (k2 H (kk _)).same r
        subst this
        have hn : n < vs.length := by
          rw [rs.len]
          unfold ixN at en
          split at en
          · split at en
            · cases en; omega
            · cases en
          · split at en
            · cases en; omega
            · cases en
        refine .inl ⟨z, vs, j, vs[n], e1, r2, .inl (.inl hq), ?_, q _ (PathV.snoc (s := .ix n) (show KidV H _ (.ix n) vs[n] from ⟨z, vs, e1, .inl hq, List.getElem?_eq_getElem hn⟩) r)⟩
        unfold atI
        rw [rs.len, en]
        exact List.getElem?_eq_getElem hn
      · rename_i ws ew
        obtain ⟨n, en, rfl⟩ := map_some h
        obtain ⟨vi', y, pre, bs, post, k1, k2, ⟨z, vs, cs, e1, hq, ez, rs⟩, _⟩ := slot_path s ew
        rw [hvi] at k1
        cases k1
        have := (k2 H (kk _)).same r
        subst this
        have hn : n < vs.length := by
          rw [rs.len]
          unfold ixN at en
          split at en
          · split at en
            · cases en; omega
            · cases en
          · split at en
            · cases en; omega
            · cases en
        refine .inr (.inl ⟨z, vs, j, vs[n], e1, r2, .inl (.inl hq), ?_, q _ (PathV.snoc (s := .ix n) (show KidV H _ (.ix n) vs[n] from ⟨z, vs, e1, .inr hq, List.getElem?_eq_getElem hn⟩) r)⟩)
        unfold atI
        rw [rs.len, en]
        exact List.getElem?_eq_getElem hn
      · cases h
    · cases h
theorem pp_fld (cs : List Addr) (hcs : ∀ C ∈ cs, Cls X.K C ∧ NoAttr X.K C f) (ha : PE X a (bvP X.K i pm)) (hb : attributeBase a f X.env (eval a X.env) = eval a X.env := by rfl) : PE X (.Attribute a f pos) (bvP X.K i (pFld cs i pm f)) :=
  pe_imp (pe_fld ha hb) fun σ H Q ⟨F, B, L, as, vi, p, wf, s, hvi, h, q⟩ => by
    unfold pFld at h
    split at h
    · rename_i p' ep
      refine ⟨F, B, L, as, vi, p', wf, s, hvi, ep, fun v r => ?_⟩
      have kk : ∀ l, Kept l H H := fun _ _ _ _ z => z
      split at h
      · rename_i C fs ew
        obtain ⟨⟨hC, hf⟩, rfl⟩ := ite_some h
        obtain ⟨vi', y, pre, bs, post, k1, k2, ⟨z, dx, vs, cs', e1, hq, ez, rs⟩, _⟩ := slot_path s ew
        rw [hvi] at k1
        cases k1
        have := (k2 H (kk _)).same r
        subst this
        cases eu : aget f fs with
        | none => rw [eu] at hf; cases hf
        | some u =>
          obtain ⟨t, _, _, _, et, _⟩ := RepWF.kid rs eu
          exact ⟨z, C, dx, vs, t, e1, hq, (hcs C hC).1, (hcs C hC).2, by rw [← aget_lookup]; exact et, q _ (PathV.snoc (s := .fld f) (show KidV H _ (.fld f) t from ⟨z, C, dx, vs, e1, hq, et⟩) r)⟩
      · cases h
    · cases h
end
end BV

namespace BV
open PySem PySem.Spec PyProof.Rows L2
/-! ### writes within what is owned -/
theorem wput_len (L : Lc) (i : Nat) (p : List Step) (u : W) : (wput L i p u).length = L.length := by
  unfold wput
  split
  · rw [List.length_set]
  · rfl
/-- one owned list on the way p gets other items -/
theorem path_write {K : PySem.W.Frag} {F B H : Hp} {as : List Addr} {σ : L2.St} {L : Lc} {i : Nat} {p : List Step} {ws : List W} (wf : WF F B H as) (s : SRel K F B H σ L as) (e : wat L i p = some (.olst ws)) :
    ∃ vi a vs bs, σ[i]? = some (some vi) ∧ PathV H vi p (.ref a) ∧ H a = some (.lst vs) ∧ RepWs K F B H ws vs bs ∧ (∀ q, List.count q (a :: bs) ≤ List.count q as) ∧
      ∀ (F' : Hp) (ws' : List W) (vs' : List V) (bs' : List Addr), Go F B H as F' H as → RepWs K F' B H ws' vs' bs' → (∀ q, List.count q bs' ≤ List.count q bs) → ∃ as', Go F B H as F' (upd H a (.lst vs')) as' ∧ SRel K F' B (upd H a (.lst vs')) σ (wput L i p (.olst ws')) as' := by
  obtain ⟨vi, x, pre, bs, post, k1, k2, ⟨a, vs, cs, e1, hq, ec, rs⟩, ea, k⟩ := slot_path s e
  subst e1 ec ea
  refine ⟨vi, a, vs, cs, k1, k2 H fun _ _ _ z => z, hq, rs, fun q => by simp only [List.count_append, List.count_cons]; omega, fun F' ws' vs' bs' gF r' hb => ?_⟩
  have nd := wf.nd a
  have kp : ∀ l : List Addr, (∀ q, List.count q (a :: l) ≤ List.count q (pre ++ ((a :: cs) ++ post))) → Kept l H (upd H a (.lst vs')) := fun l hl q iq o eo => by
    rw [upd_ne (fun z => by
      subst z
      have := hl q
      rw [List.count_cons_self] at this
      have iq' : 0 < List.count q l := iq
      omega)]
    exact eo
  have g := Go.write (F := F') (B := B) (p := a) gF.wf (by unfold In; simp only [List.count_append, List.count_cons_self]; omega) (.lst vs')
  have r2 := RepWs.frame (Same.refl F') (Same.refl B) (kp bs' fun q => by have := hb q; simp only [List.count_append, List.count_cons]; omega) r'
  have s3 := k F' B _ (.olst ws') (a :: bs') gF.ext (Same.refl _) (kp (pre ++ post) fun q => by simp only [List.count_append, List.count_cons]; omega) ⟨a, vs', bs', rfl, upd_same, rfl, r2⟩
  exact ⟨_, (gF.trans g).sub fun q => by have := hb q; simp only [List.count_append, List.count_cons]; omega, s3⟩
/-- PATH[b] = e -/
def sSetP (i : Nat) (pm : Lc → Option (List Step)) (pb : Pk) (me : M R) : MS := fun L => (me L).thenS fun r L1 => (toF r L1).thenS fun d L2 => match pm L2, pb L2 with
  | some p, some (.int j) => match wat L2 i p with
    | some (.olst ws) => match ixN ws.length j with
      | some n => .next (wput L2 i p (.olst (ws.set n (.frz d))))
      | none => .bad
    | _ => .bad
  | _, _ => .bad
/-- PATH.append(e) -/
def sAppP (i : Nat) (pm : Lc → Option (List Step)) (me : M R) : MS := fun L => match pm L, L[i]? with
  | some p, some (some w) => match w.at p with
    | some (.olst ws) => (me (L.set i none)).thenS fun r L1 => (toF r L1).thenS fun d L2 => if ws.length < sizeLine ∧ i < L2.length then .next (wput (L2.set i (some w)) i p (.olst (ws ++ [.frz d]))) else .bad
    | _ => .bad
  | _, _ => .bad
section
variable {X : Cx} {Wx : WX} {fl : List Bool} {i : Nat} {x : Str} {o e b : Expr} {pm : Lc → Option (List Step)} {pb : Pk} {me : M R} {pos pos' apos cpos : Pos}
theorem setP_rel : ∀ T σ H, bvS X.K Wx fl (sSetP i pm pb me) T σ H → tAsg (bvE X.K Wx me) (gSub (bvP X.K i pm) (bvK X.K pb) rSetL) T σ H := fun T σ H ⟨F, B, L, as, wf, s, h⟩ => by
  refine ⟨F, B, L, as, wf, s, (EndS.thenS h).imp fun r L1 h1 v F1 H1 asr as1 g1 s1 r1 => ?_⟩
  obtain ⟨d, L2, e2, h2⟩ := toF_endS h1
  obtain ⟨F2, as2, g2, s2, q2⟩ := toF_ok g1.wf s1 r1 e2
  split at h2
  · rename_i p j ep ej
    split at h2
    · rename_i ws ew
      split at h2
      · rename_i n en
        obtain ⟨vi, a, vs, bs, k1, pv, hq, rs, _, wr⟩ := path_write g2.wf s2 ew
        refine ⟨F2, B, L2, as2, vi, p, g2.wf, s2, k1, ep, fun u pu => ⟨F2, B, L2, as2, _, g2.wf, s2, ej, fun w rw' => ?_⟩⟩
        have := pv.same pu
        subst this
        obtain ⟨bs', kb, rs'⟩ := RepWs.set (show RepW X.K F2 B H1 (.frz d) v [] from ⟨q2, rfl⟩) n rs
        obtain ⟨as', g4, s4⟩ := wr F2 _ _ bs' (Go.refl g2.wf) rs' kb
        refine ⟨a, vs, j, n, rfl, rw', hq, by rw [rs.len]; exact en, ?_⟩
        exact h2 σ F2 _ as' ((g1.trans g2).trans g4) s4 (Pin.refl _ _)
      · exact h2.elim
    · exact h2.elim
  · exact h2.elim
theorem bs_setP (ho : PE X o (bvP X.K i pm)) (hb : PE X b (bvK X.K pb)) (he : PE X e (bvE X.K Wx me))
    (hs : swapsWithSole [.Subscript o b pos'] e pos.line X.env = pure false := by rfl) (hw : swappedStores [.Subscript o b pos'] e X.env = pure none := by rfl) (h1 : (assignEach [.Subscript o b pos'] X.env).map (·.2) = [assign (.Subscript o b pos') X.env] := by rfl)
    (ha : ∀ v, assign (.Subscript o b pos') X.env v = (do
      let ov ← holding [v] (eval o X.env)
      let iv ← holding [v, ov] (eval b X.env)
      standAt pos'
      holding [v, ov, iv] (setItem ov iv v)
      release [v, ov, iv] []) := by intro _; rfl) :
    PS X (.Assign [.Subscript o b pos'] e pos) (bvS X.K Wx fl (sSetP i pm pb me)) := ps_imp (ps_asg he (pg_sub ho hb set_list ha) hs hw h1) setP_rel
theorem appP_rel (h0 : PE X o (bvP X.K i pm)) : ∀ T σ H, bvS X.K Wx fl (sAppP i pm me) T σ H → tDrop (tBM X.K "list" rAppend (bvP X.K i pm) (tCons (bvE X.K Wx me) tNil)) T σ H := fun T σ H ⟨F, B, L, as, wf, s, h⟩ => by
  unfold sAppP at h
  split at h
  · rename_i p w ep ew
    split at h
    · rename_i ws0 e0
      obtain ⟨s0, pre, a1, post, k1, ⟨vi, ev, rw1⟩, ea, k⟩ := SRel.at s ew
      subst ev ea
      obtain ⟨x0, pre2, bs2, post2, j1, ⟨a, vs, cs, e1, hq, ec, rs⟩, j3, j4⟩ := RepW.path rw1 e0
      subst e1 ec j3
      refine ⟨F, B, L, _, vi, p, wf, s, k1, ep, fun v pv => ?_⟩
      have := (j1 H fun _ _ _ z => z).same pv
      subst this
      refine ⟨.inl ⟨rfl, vs, .inl (.inl hq)⟩, ?_⟩
      -- the argument, slot i locked
      have s1 := k F B H (some vi) none [] (Same.refl _) (Same.refl _) (fun _ _ _ z => z) rfl
      rw [set_same k1] at s1
      have wf1 : WF F B H ((pre2 ++ ((a :: cs) ++ post2)) ++ (pre ++ ([] ++ post))) := wf.sub fun q => by simp only [List.count_append, List.count_nil]; omega
      refine ⟨F, B, L.set i none, pre ++ ([] ++ post), wf1.sub (le_r _ _), s1, ?_⟩
      have hh := EndS.thenS h
      have sub1 : ∀ q, List.count q (pre ++ ([] ++ post)) ≤ List.count q (pre ++ ((pre2 ++ ((a :: cs) ++ post2)) ++ post)) := fun q => by simp only [List.count_append, List.count_nil]; omega
      have hh2 := hh.behind ((Go.refl wf).sub sub1) fun _ _ z => z
      refine hh2.imp fun r L1 h1 y F1 H1 asr as1 g1 s2 r1 => ?_
      have gf := g1.frame wf1
      have kf := g1.kept wf1
      obtain ⟨d, L2, e2, h2⟩ := toF_endS h1
      obtain ⟨F2, as2, g2, s3, q2⟩ := toF_ok g1.wf s2 r1 e2
      have wf3 : WF F1 B H1 ((pre2 ++ ((a :: cs) ++ post2)) ++ (asr ++ as1)) := gf.wf
      have gf2 := g2.frame wf3
      split at h2
      · rename_i hz
        -- the slot back
        have rw2 : RepW X.K F2 B H1 w vi (pre2 ++ ((a :: cs) ++ post2)) := rw1.frame (g1.ext.trans g2.ext) (Same.refl _) kf
        have s4 : ∃ as4, (∀ q, List.count q as4 ≤ List.count q ((pre2 ++ ((a :: cs) ++ post2)) ++ as2)) ∧ SRel X.K F2 B H1 σ (L2.set i (some w)) as4 := by
          obtain ⟨s5, pre5, a5, post5, c1, c2, c3, c4⟩ := SRel.at s3 (List.getElem?_eq_getElem hz.2)
          subst c3
          have := c4 F2 B H1 (some vi) (some w) _ (Same.refl _) (Same.refl _) (fun _ _ _ z => z) ⟨vi, rfl, rw2⟩
          rw [show s5 = some vi from Option.some.inj (c1.symm.trans k1)] at c1
          rw [set_same c1] at this
          exact ⟨_, fun q => by simp only [List.count_append]; omega, this⟩
        obtain ⟨as4, k4, s4⟩ := s4
        have gT : Go F B H (pre ++ ((pre2 ++ ((a :: cs) ++ post2)) ++ post)) F2 H1 as4 := (((gf.sup fun q => by simp only [List.count_append, List.count_nil]; omega).trans gf2).sub fun q => k4 q)
        have ew4 : wat (L2.set i (some w)) i p = some (.olst ws0) := by
          unfold wat
          rw [List.getElem?_set_self hz.2]
          exact e0
        obtain ⟨vi', a', vs', bs', m1, m2, m3, m4, _, m6⟩ := path_write gT.wf s4 ew4
        rw [k1] at m1
        cases m1
        have := m2.same (j1 H1 kf)
        cases this
        have m3' := (kf.r.l.h hq)
        rw [m3'] at m3
        cases m3
        obtain ⟨as5, g5, s5⟩ := m6 F2 (ws0 ++ [.frz d]) (vs ++ [y]) (bs' ++ []) (Go.refl gT.wf) (RepWs.snoc m4 (show RepW X.K F2 B H1 (.frz d) y [] from ⟨q2, rfl⟩)) fun q => by rw [List.append_nil]; exact Nat.le_refl _
        refine ⟨a, vs, y, rfl, rfl, m3', by rw [rs.len]; exact hz.1, ?_⟩
        exact h2 σ F2 _ as5 (gT.trans g5) s5 (Pin.refl _ _)
      · exact h2.elim
    · exact h.elim
  · exact h.elim
theorem bs_appP (ho : PE X o (bvP X.K i pm)) (he : PE X e (bvE X.K Wx me))
    (hbase : attributeBase o "append" X.env (eval o X.env) = eval o X.env := by rfl)
    (hfew : ((backTo cpos (starEach [e] X.env)).all (fun x => !x.1) && (backToKw cpos (keywordEach [] X.env)).all (fun x => x.1.isSome)
      && decide ([e].length + ([] : List Keyword).length + (if ([] : List Keyword).isEmpty then 0 else 1) < 30)) = true := by rfl)
    (hline : (apos.endLine == cpos.line) = true := by rfl) (hst : starEach [e] X.env = (false, eval e X.env) :: starEach [] X.env := by rfl) (hplain : (backTo cpos (starEach [] X.env)).any (·.1) = false := by rfl)
    (hs : swapsWith (.Call (.Attribute o "append" apos) [e] [] cpos) none pos.line X.env = pure false := by rfl) :
    PS X (.Expr (.Call (.Attribute o "append" apos) [e] [] cpos) pos) (bvS X.K Wx fl (sAppP i pm me)) :=
  ps_imp (ps_expr (pe_bm PySem.F.plainAttrs_list PySem.F.slot_list_append PySem.F.type_list_append mt_append ho (pa_cons he pa_nil hst) hbase hfew hline hst hplain) hs) (appP_rel ho)
end
end BV

namespace BV
open PySem PySem.Spec PyProof.Rows L2
/-! ### list(range(..)) -/
instance instRgOk (a b : Int) : Decidable (RgOk a b) := inferInstanceAs (Decidable (-(2 ^ 62) ≤ a ∧ a < 2 ^ 62 ∧ -(2 ^ 62) ≤ b ∧ b < 2 ^ 62 ∧ (b - a).toNat ≤ 2 ^ 24))
def lrR (a b : Int) (L : Lc) : Res R := if RgOk a b then .ok (.val (.olst (intsW a (b - a).toNat))) L else .bad
def lr1 (rs : R) (L : Lc) : Res R := match rs with
  | .val (.frz (.int j)) => lrR 0 j L
  | _ => .bad
def lr2 (r u : R) (L : Lc) : Res R := match r, u with
  | .val (.frz (.int i)), .val (.frz (.int j)) => lrR i j L
  | _, _ => .bad
def mListR1 (m : M R) : M R := fun L => (m L).bind lr1
def mListR2 (m m2 : M R) : M R := fun L => (m L).bind fun r L1 => (m2 L1).bind fun u L2 => lr2 r u L2
theorem repws_rg {K : PySem.W.Frag} {F B H : Hp} (a b : Int) : RepWs K F B H (intsW a (b - a).toNat) (rgV a b) [] := by
  unfold intsW rgV
  generalize List.range (b - a).toNat = l
  induction l with
  | nil => exact ⟨rfl, rfl⟩
  | cons k l ih => exact ⟨_, _, [], [], rfl, rfl, ⟨rfl, rfl⟩, ih⟩
section
variable {X : Cx} {Wx : WX} {e e2 : Expr} {m m2 : M R} {p p2 pos pos2 : Pos} {j : Nat}
theorem lr_fin {K : PySem.W.Frag} {F B H : Hp} {as asr as' : List Addr} {σ : L2.St} {L : Lc} {a b : Int} {Q : VK} {F' H' : Hp} (g : Go F B H as F' H' (asr ++ as')) (s : SRel K F' B H' σ L as') (h : End K Wx F B H as σ (okE K F B H as σ Q) (lrR a b L)) : RgOk a b ∧ ∀ q, H' q = none → Q (.ref q) (upd H' q (.lst (rgV a b))) := by
  obtain ⟨hc, h2⟩ := of_ite h
  refine ⟨hc, fun q nq => ?_⟩
  have g1 := g.sub (le_r asr as')
  have g2 := Go.alloc g1.wf nq (.lst (rgV a b))
  exact h2 (.ref q) F' _ [q] as' (g1.trans g2) (SRel.frame (Same.refl _) (Same.refl _) (keep_new nq _) s) ⟨q, _, [], rfl, upd_same, rfl, repws_rg a b⟩
theorem be_listR1 (c : Bd X Wx j) (hl : X.mg "list" = none) (hr : X.mg "range" = none) (he : PE X e (bvE X.K Wx m)) (gl : Gl X "list" := by rfl) (gr : Gl X "range" := by rfl)
    (n1 : starEach [.Call (.Name "range" p2) [e] [] pos2] X.env = (false, eval (.Call (.Name "range" p2) [e] [] pos2) X.env) :: starEach [] X.env := by rfl) (n2 : starEach [e] X.env = (false, eval e X.env) :: starEach [] X.env := by rfl) :
    PE X (.Call (.Name "list" p) [.Call (.Name "range" p2) [e] [] pos2] [] pos) (bvE X.K Wx (mListR1 m)) :=
  pe_imp (pe_listRg c.calm gl hl (prg_1 gr hr he n2) n1) fun σ H Q ⟨F, B, L, as, wf, s, h⟩ => ⟨F, B, L, as, wf, s, (End.bind h).imp fun r L1 h1 v F' H' asr as' g' s' r' => by
    unfold lr1 at h1
    split at h1
    · rename_i j
      exact ⟨j, r'.1, lr_fin g' s' h1⟩
    · exact h1.elim⟩
theorem be_listR2 (c : Bd X Wx j) (hl : X.mg "list" = none) (hr : X.mg "range" = none) (he : PE X e (bvE X.K Wx m)) (he2 : PE X e2 (bvE X.K Wx m2)) (gl : Gl X "list" := by rfl) (gr : Gl X "range" := by rfl)
    (n1 : starEach [.Call (.Name "range" p2) [e, e2] [] pos2] X.env = (false, eval (.Call (.Name "range" p2) [e, e2] [] pos2) X.env) :: starEach [] X.env := by rfl) (n2 : starEach [e, e2] X.env = (false, eval e X.env) :: starEach [e2] X.env := by rfl)
    (n3 : starEach [e2] X.env = (false, eval e2 X.env) :: starEach [] X.env := by rfl) (hp : (backTo pos2 (starEach [e2] X.env)).any (·.1) = false := by rfl) :
    PE X (.Call (.Name "list" p) [.Call (.Name "range" p2) [e, e2] [] pos2] [] pos) (bvE X.K Wx (mListR2 m m2)) :=
  pe_imp (pe_listRg c.calm gl hl (prg_2 gr hr he he2 n2 n3 hp) n1) fun σ H Q ⟨F, B, L, as, wf, s, h⟩ => ⟨F, B, L, as, wf, s, (End.bind h).imp fun r L1 h1 v F1 H1 asr as1 g1 s1 r1 => by
    refine ⟨F1, B, L1, as1, g1.wf.sub (le_r _ _), s1, (End.bind h1).behind (g1.sub (le_r _ _)) fun u L2 h2 v2 F2 H2 asr2 as2 g2 s2 r2 => ?_⟩
    unfold lr2 at h2
    split at h2
    · rename_i i j
      exact ⟨i, j, r1.1, r2.1, lr_fin ((g1.sub (le_r asr as1)).trans g2) s2 h2⟩
    · exact h2.elim⟩
end
/-! ### evaluation -/
section
variable {L : Lc} {fl : List Bool}
@[simp] theorem e_listR1 (m : M R) : mListR1 m L = (m L).bind lr1 := (rfl)
@[simp] theorem e_lr1 (j : Int) (h : RgOk 0 j) : lr1 (.val (.frz (.int j))) L = .ok (.val (.olst (intsW 0 j.toNat))) L := by
  show lrR 0 j L = _
  unfold lrR
  rw [if_pos h, Int.sub_zero]
@[simp] theorem e_prepB_nil : prepB [] [] L = .ok ([], [], []) L := (rfl)
@[simp] theorem e_prepB_cons (f b : Bool) (ms : List (Bool × Bool)) (r : R) (rs : List R) : prepB ((f, b) :: ms) (r :: rs) L = (arg1 f b r L).bind fun p L1 => (prepB ms rs L1).bind fun q L2 => .ok (p.1 :: q.1, p.2.1 ++ q.2.1, p.2.2 ++ q.2.2) L2 := by rw [prepB]
@[simp] theorem e_arg_ff (r : R) : arg1 false false r L = (toF r L).bind fun d L1 => .ok (.frz d, [], []) L1 := by
  unfold arg1
  cases r <;> rfl
def lentA (i : Nat) (o : Option (Option W)) (L : Lc) : Res (W × List Nat × List (Nat × W)) := match o with
  | some (some w) => .ok (.brw w.rd, [], [(i, w)]) (L.set i none)
  | _ => .bad
@[simp] theorem e_arg_la (i : Nat) : arg1 false true (.al i) L = lentA i L[i]? L := (rfl)
@[simp] theorem e_lentA (i : Nat) (w : W) : lentA i (some (some w)) L = .ok (.brw w.rd, [], [(i, w)]) (L.set i none) := (rfl)
@[simp] theorem e_arg_lf (d : D) : arg1 false true (.val (.frz d)) L = .ok (.frz d, [], []) L := (rfl)
@[simp] theorem e_arg_lb (d : D) : arg1 false true (.val (.brw d)) L = .ok (.brw d, [], []) L := (rfl)
def ownA (i : Nat) (o : Option (Option W)) (L : Lc) : Res (W × List Nat × List (Nat × W)) := match o with
  | some (some w) => .ok (w, [i], []) (L.set i none)
  | _ => .bad
@[simp] theorem e_arg_ta (b : Bool) (i : Nat) : arg1 true b (.al i) L = ownA i L[i]? L := by cases b <;> rfl
@[simp] theorem e_ownA (i : Nat) (w : W) : ownA i (some (some w)) L = .ok (w, [i], []) (L.set i none) := (rfl)
@[simp] theorem e_arg_tv (b : Bool) (w : W) : arg1 true b (.val w) L = .ok (w, [L.length], []) L := by cases b <;> rfl
@[simp] theorem e_callL (ms : List (Bool × Bool)) (fn : Fn) (m : M (List R)) : mCallL ms fn m L = (m L).bind fun rs L1 => callRB ms fn rs L1 := (rfl)
@[simp] theorem e_callRB (ms : List (Bool × Bool)) (fn : Fn) (rs : List R) : callRB ms fn rs L = (prepB ms rs L).bind fun p L1 => calledB fn p L1 := (rfl)
def calledBR (r : FRes) (is : List Nat) (lk : List (Nat × W)) (L : Lc) : Res R := match r with
  | .ok w os => if w.nb = true ∧ nbs os = true then bkR w (backB is os lk L) else .bad
  | .exc x os => if nbs os = true then bkX x (backB is os lk L) else .bad
  | .bad => .bad
@[simp] theorem e_calledB (fn : Fn) (ws : List W) (is : List Nat) (lk : List (Nat × W)) : calledB fn (ws, is, lk) L = calledBR (fn ws) is lk L := by
  unfold calledB calledBR bkR bkX
  dsimp only
  all_goals cases fn ws with
  | ok w os =>
    dsimp only
    by_cases c : w.nb = true ∧ nbs os = true
    · rw [if_pos c, if_pos c]; cases backB is os lk L <;> rfl
    · rw [if_neg c, if_neg c]
  | exc w os =>
    dsimp only
    by_cases c : nbs os = true
    · rw [if_pos c, if_pos c]; cases backB is os lk L <;> rfl
    · rw [if_neg c, if_neg c]
  | bad => rfl
@[simp] theorem e_calledBR (w : W) (os : List W) (is : List Nat) (lk : List (Nat × W)) (h : w.nb = true) (h2 : nbs os = true) : calledBR (.ok w os) is lk L = bkR w (backB is os lk L) := if_pos ⟨h, h2⟩
@[simp] theorem e_calledBX (x : Ex) (os : List W) (is : List Nat) (lk : List (Nat × W)) (h2 : nbs os = true) : calledBR (.exc x os) is lk L = bkX x (backB is os lk L) := if_pos h2
def lkBack (lk : List (Nat × W)) (o : Option Lc) : Option Lc := o.bind fun L1 => back (lk.map (·.1)) (lk.map (·.2)) L1
@[simp] theorem e_backB (is : List Nat) (os : List W) (lk : List (Nat × W)) : backB is os lk L = lkBack lk (back is os L) := (rfl)
@[simp] theorem e_lkBack_nil : lkBack [] (some L) = some L := (rfl)
@[simp] theorem e_lkBack_cons (i : Nat) (w : W) (lk : List (Nat × W)) : lkBack ((i, w) :: lk) (some L) = lkBack lk (some (L.set i (some w))) := by
  unfold lkBack
  rw [Option.bind_some, Option.bind_some, List.map_cons, List.map_cons, e_back_cons]
@[simp] theorem e_nbs_nil : nbs [] = true := (rfl)
@[simp] theorem e_nbs_cons (w : W) (ws : List W) : nbs (w :: ws) = (w.nb && nbs ws) := (rfl)
@[simp] theorem e_nb_f (d : D) : (W.frz d).nb = true := (rfl)
@[simp] theorem e_nb_l (ws : List W) : (W.olst ws).nb = nbs ws := (rfl)
@[simp] theorem e_nb_o (C : Addr) (fs : List (Str × W)) : (W.oobj C fs).nb = nbF fs := (rfl)
@[simp] theorem e_nbF_nil : nbF [] = true := (rfl)
@[simp] theorem e_nbF_cons (f : Str) (w : W) (ws : List (Str × W)) : nbF ((f, w) :: ws) = (w.nb && nbF ws) := (rfl)
theorem nbs_frz (ds : List D) : nbs (ds.map .frz) = true := by
  induction ds with
  | nil => rfl
  | cons d ds ih => rw [List.map_cons, e_nbs_cons, e_nb_f, ih]; rfl
@[simp] theorem e_nbs_map (ds : List D) : nbs (ds.map .frz) = true := nbs_frz ds
def madeBR (r : FRes) (is : List Nat) (lk : List (Nat × W)) (L : Lc) : Res R := match r with
  | .ok (.frz .non) (o :: os) => if nbs (o :: os) = true then bkR o (backB is os lk L) else .bad
  | .exc x (o :: os) => if nbs (o :: os) = true then bkX x (backB is os lk L) else .bad
  | _ => .bad
theorem madeB_is (fn : Fn) (C : Addr) (ws : List W) (is : List Nat) (lk : List (Nat × W)) : madeB fn C (ws, is, lk) L = madeBR (fn (.oobj C [] :: ws)) is lk L := by
  unfold madeB madeBR bkR bkX
  dsimp only
  all_goals cases fn (.oobj C [] :: ws) with
  | bad => rfl
  | exc x os => cases os with
    | nil => rfl
    | cons o os =>
      dsimp only
      by_cases c : nbs (o :: os) = true
      · rw [if_pos c, if_pos c]; cases backB is os lk L <;> rfl
      · rw [if_neg c, if_neg c]
  | ok w os => cases os with
    | nil => cases w with
      | frz d => cases d <;> rfl
      | _ => rfl
    | cons o os => cases w with
      | frz d => cases d with
        | non =>
          dsimp only
          by_cases c : nbs (o :: os) = true
          · rw [if_pos c, if_pos c]; cases backB is os lk L <;> rfl
          · rw [if_neg c, if_neg c]
        | _ => rfl
      | _ => rfl
@[simp] theorem e_makeL (C : Addr) (ms : List (Bool × Bool)) (fn : Fn) (m : M (List R)) : mMakeL C ms fn m L = (m L).bind fun rs L1 => (prepB ms rs L1).bind fun p L2 => madeBR (fn (.oobj C [] :: p.1)) p.2.1 p.2.2 L2 := by
  unfold mMakeL
  cases m L with
  | ok rs L1 =>
    show madeRB C ms fn rs L1 = (prepB ms rs L1).bind fun p L2 => madeBR (fn (.oobj C [] :: p.1)) p.2.1 p.2.2 L2
    unfold madeRB
    cases prepB ms rs L1 with
    | ok p L2 => exact madeB_is fn C p.1 p.2.1 p.2.2
    | exc x L2 => rfl
    | bad => rfl
  | exc x L1 => rfl
  | bad => rfl
@[simp] theorem e_madeBR (o : W) (os : List W) (is : List Nat) (lk : List (Nat × W)) (h : o.nb = true) (h2 : nbs os = true) : madeBR (.ok (.frz .non) (o :: os)) is lk L = bkR o (backB is os lk L) := if_pos (by rw [e_nbs_cons, h, h2]; rfl)
def methLR (C : Addr) (ms : List (Bool × Bool)) (fn : Fn) (m : Str) (r : R) (o : Option W) (mr : M (List R)) (L1 : Lc) : Res R := match o with
  | some w => if w.cls = some C ∧ w.nofld m = true then (mr L1).bind fun rs L2 => callRB ms fn (r :: rs) L2 else .bad
  | none => .bad
@[simp] theorem e_methL (C : Addr) (ms : List (Bool × Bool)) (fn : Fn) (m : Str) (ma : M R) (mr : M (List R)) : mMethL C ms fn m ma mr L = (ma L).bind fun r L1 => methLR C ms fn m r (r.get L1) mr L1 := (rfl)
theorem methLR_of {C : Addr} {ms : List (Bool × Bool)} {fn : Fn} {m : Str} {r : R} {w : W} {mr : M (List R)} (h1 : w.cls = some C) (h2 : w.nofld m = true) : methLR C ms fn m r (some w) mr L = (mr L).bind fun rs L2 => callRB ms fn (r :: rs) L2 := if_pos ⟨h1, h2⟩
@[simp] theorem e_methLR_f (C : Addr) (ms : List (Bool × Bool)) (fn : Fn) (m : Str) (r : R) (fs : List (Str × D)) (mr : M (List R)) (h : (fs.lookup m).isNone = true) : methLR C ms fn m r (some (.frz (.obj C fs))) mr L = (mr L).bind fun rs L2 => callRB ms fn (r :: rs) L2 := methLR_of rfl h
@[simp] theorem e_toWs_nil : toWs [] L = .ok [] L := (rfl)
@[simp] theorem e_toWs_cons (r : R) (rs : List R) : toWs (r :: rs) L = (toW true r L).bind fun w L1 => (toWs rs L1).bind fun ws L2 => .ok (w :: ws) L2 := by rw [toWs]
def lstWR (ws : List W) (L2 : Lc) : Res R := if ws.length ≤ sizeLine then .ok (.val (.olst ws)) L2 else .bad
@[simp] theorem e_lstW (m : M (List R)) : mLstW m L = (m L).bind fun rs L1 => (toWs rs L1).bind lstWR := (rfl)
@[simp] theorem e_lstWR (ws : List W) (h : ws.length ≤ 1000) : lstWR ws L = .ok (.val (.olst ws)) L := if_pos (small_le h)
def pkR (o : Option D) (L : Lc) : Res R := match o with
  | some d => if d.scal = true then .ok (.val (.frz d)) L else .bad
  | none => .bad
@[simp] theorem e_mPk (pk : Pk) : mPk pk L = pkR (pk L) L := (rfl)
@[simp] theorem e_pkR_i (i : Int) : pkR (some (.int i)) L = .ok (.val (.frz (.int i))) L := (rfl)
@[simp] theorem e_pkR_s (i : Str) : pkR (some (.str i)) L = .ok (.val (.frz (.str i))) L := (rfl)
@[simp] theorem e_pkR_b (i : Bool) : pkR (some (.bl i)) L = .ok (.val (.frz (.bl i))) L := (rfl)
def setPR (i : Nat) (d : D) (p : Option (List Step)) (j : Option D) (L2 : Lc) : SRes := match p, j with
  | some p, some (.int j) => match wat L2 i p with
    | some (.olst ws) => match ixN ws.length j with
      | some n => .next (wput L2 i p (.olst (ws.set n (.frz d))))
      | none => .bad
    | _ => .bad
  | _, _ => .bad
@[simp] theorem e_setP (i : Nat) (pm : Lc → Option (List Step)) (pb : Pk) (me : M R) : sSetP i pm pb me L = (me L).thenS fun r L1 => (toF r L1).thenS fun d L2 => setPR i d (pm L2) (pb L2) L2 := (rfl)
theorem setPR_of {i : Nat} {d : D} {p : List Step} {j : Int} {ws : List W} {n : Nat} (h1 : wat L i p = some (.olst ws)) (h2 : ixN ws.length j = some n) : setPR i d (some p) (some (.int j)) L = .next (wput L i p (.olst (ws.set n (.frz d)))) := by
  unfold setPR
  dsimp only
  rw [h1]
  dsimp only
  rw [h2]
def appPR (i : Nat) (w : W) (p : List Step) (ws : List W) (d : D) (L2 : Lc) : SRes := if ws.length < sizeLine ∧ i < L2.length then .next (wput (L2.set i (some w)) i p (.olst (ws ++ [.frz d]))) else .bad
theorem appP_of {i : Nat} {pm : Lc → Option (List Step)} {me : M R} {p : List Step} {w : W} {ws : List W} (h1 : pm L = some p) (h2 : L[i]? = some (some w)) (h3 : w.at p = some (.olst ws)) : sAppP i pm me L = (me (L.set i none)).thenS fun r L1 => (toF r L1).thenS fun d L2 => appPR i w p ws d L2 := by
  unfold sAppP
  rw [h1, h2]
  dsimp only
  rw [h3]
  rfl
theorem appPR_of {i : Nat} {w : W} {p : List Step} {ws : List W} {d : D} (h : ws.length < sizeLine) (h2 : i < L.length) : appPR i w p ws d L = .next (wput (L.set i (some w)) i p (.olst (ws ++ [.frz d]))) := if_pos ⟨h, h2⟩
end
end BV

namespace BV
open PySem PySem.Spec PyProof.Rows L2
/-! ### texts, and lists of texts -/
/-- an own list of data -/
abbrev oL (ds : List D) : W := .olst (ds.map .frz)
abbrev sD (ts : List Str) : List D := ts.map D.str
theorem flat_strs (ts : List Str) : (sD ts).all D.flat = true := by
  rw [List.all_eq_true]
  intro d hd
  obtain ⟨t, _, rfl⟩ := List.mem_map.mp hd
  rfl
theorem eqF_str (a b : Str) : eqF (.str a) (.str b) = decide (b = a) := by
  show (a == b) = decide (b = a)
  by_cases h : b = a
  · subst h; simp
  · rw [decide_eq_false h, beq_eq_false_iff_ne]
    exact fun e => h e.symm
theorem inF_strs (t : Str) (ts : List Str) : inF (.str t) (sD ts) = decide (t ∈ ts) := by
  unfold inF
  induction ts with
  | nil => rfl
  | cons a ts ih =>
    show ((D.str a :: sD ts).any fun y => eqF y (D.str t)) = _
    rw [List.any_cons, ih, eqF_str]
    by_cases h : t = a <;> simp [h]
theorem gIn_strs (t : Str) {d : D} {ts : List Str} (h : d.items = some (sD ts)) : gIn (.str t) d = some (decide (t ∈ ts)) := by
  unfold gIn
  rw [h]
  show (if (D.str t).flat = true ∧ (sD ts).all D.flat = true then some (inF (.str t) (sD ts)) else none) = _
  rw [if_pos ⟨rfl, flat_strs ts⟩, inF_strs]
section
variable {L : Lc}
theorem inU_of {x y : R} {w1 w2 : W} {b : Bool} (h1 : x.get L = some w1) (h2 : y.get L = some w2) (h : gIn w1.rd w2.rd = some b) : cInU x y L = .ok (.val (.frz (.bl b))) L := by
  have e : cInQ x y L = .ok (.val (.frz (.bl b))) L := by
    unfold cInQ mkS
    rw [h1, h2]
    dsimp only
    rw [h]
    rfl
  unfold cInU gOr
  rw [e]
theorem ninU_of {x y : R} {w1 w2 : W} {b : Bool} (h1 : x.get L = some w1) (h2 : y.get L = some w2) (h : gIn w1.rd w2.rd = some b) : cNinU x y L = .ok (.val (.frz (.bl (!b)))) L := by
  have e : cNinQ x y L = .ok (.val (.frz (.bl (!b)))) L := by
    unfold cNinQ mkS
    rw [h1, h2]
    dsimp only
    rw [h]
    rfl
  unfold cNinU gOr
  rw [e]
def inR (t : Str) (y : R) (o : Option W) (L : Lc) : Res R := cInU (.val (.frz (.str t))) y L
def ninR (t : Str) (y : R) (o : Option W) (L : Lc) : Res R := cNinU (.val (.frz (.str t))) y L
@[simp] theorem e_nin_al (t : Str) (i : Nat) : cNinU (.val (.frz (.str t))) (.al i) L = ninR t (.al i) (slotW L[i]?) L := (rfl)
@[simp] theorem e_in_al (t : Str) (i : Nat) : cInU (.val (.frz (.str t))) (.al i) L = inR t (.al i) (slotW L[i]?) L := (rfl)
theorem ninR_l {t : Str} {i : Nat} {ts : List Str} (h : L[i]? = some (some (oL (sD ts)))) : ninR t (.al i) (some (oL (sD ts))) L = .ok (.val (.frz (.bl (!decide (t ∈ ts))))) L :=
  ninU_of rfl (by rw [e_get_a, h]; rfl) (by rw [e_rd_f, rd_lst]; exact gIn_strs t rfl)
theorem inR_l {t : Str} {i : Nat} {ts : List Str} (h : L[i]? = some (some (oL (sD ts)))) : inR t (.al i) (some (oL (sD ts))) L = .ok (.val (.frz (.bl (decide (t ∈ ts))))) L :=
  inU_of rfl (by rw [e_get_a, h]; rfl) (by rw [e_rd_f, rd_lst]; exact gIn_strs t rfl)
theorem in_frz {t : Str} {d : D} {ts : List Str} (h : d.items = some (sD ts)) : cInU (.val (.frz (.str t))) (.val (.frz d)) L = .ok (.val (.frz (.bl (decide (t ∈ ts))))) L :=
  inU_of rfl rfl (by rw [e_rd_f, e_rd_f]; exact gIn_strs t h)
theorem nin_frz {t : Str} {d : D} {ts : List Str} (h : d.items = some (sD ts)) : cNinU (.val (.frz (.str t))) (.val (.frz d)) L = .ok (.val (.frz (.bl (!decide (t ∈ ts))))) L :=
  ninU_of rfl rfl (by rw [e_rd_f, e_rd_f]; exact gIn_strs t h)
@[simp] theorem e_in_ft (t : Str) (ts : List Str) : cInU (.val (.frz (.str t))) (.val (.frz (.tup (sD ts)))) L = .ok (.val (.frz (.bl (decide (t ∈ ts))))) L := in_frz rfl
@[simp] theorem e_in_fl (t : Str) (ts : List Str) : cInU (.val (.frz (.str t))) (.val (.frz (.lst (sD ts)))) L = .ok (.val (.frz (.bl (decide (t ∈ ts))))) L := in_frz rfl
@[simp] theorem e_nin_ft (t : Str) (ts : List Str) : cNinU (.val (.frz (.str t))) (.val (.frz (.tup (sD ts)))) L = .ok (.val (.frz (.bl (!decide (t ∈ ts))))) L := nin_frz rfl
@[simp] theorem e_nin_fl (t : Str) (ts : List Str) : cNinU (.val (.frz (.str t))) (.val (.frz (.lst (sD ts)))) L = .ok (.val (.frz (.bl (!decide (t ∈ ts))))) L := nin_frz rfl
/-! texts -/
theorem addU_s (a b : Str) (h : a.length + b.length ≤ sizeLine) : aAddU (.val (.frz (.str a))) (.val (.frz (.str b))) L = .ok (.val (.frz (.str (a ++ b)))) L := by
  have e : aCatS (.val (.frz (.str a))) (.val (.frz (.str b))) L = .ok (.val (.frz (.str (a ++ b)))) L := by
    show (match (if a.length + b.length ≤ sizeLine then some (D.str (a ++ b)) else none) with
      | some d => Res.ok (R.val (.frz d)) L
      | none => .bad) = _
    rw [if_pos h]
  show (match aAdd (.val (.frz (.str a))) (.val (.frz (.str b))) L with
    | .bad => gOr aCatS aCatL (.val (.frz (.str a))) (.val (.frz (.str b))) L
    | r => r) = _
  rw [show aAdd (.val (.frz (.str a))) (.val (.frz (.str b))) L = .bad from rfl]
  dsimp only
  unfold gOr
  rw [e]
@[simp] theorem e_eqS (a b : Str) : cEqS (.val (.frz (.str a))) (.val (.frz (.str b))) L = .ok (.val (.frz (.bl (decide (a = b))))) L := (rfl)
@[simp] theorem e_neS (a b : Str) : cNeS (.val (.frz (.str a))) (.val (.frz (.str b))) L = .ok (.val (.frz (.bl (!decide (a = b))))) L := (rfl)
@[simp] theorem e_eqB (a b : Bool) : cEqS (.val (.frz (.bl a))) (.val (.frz (.bl b))) L = .ok (.val (.frz (.bl (decide (a = b))))) L := (rfl)
@[simp] theorem e_neB (a b : Bool) : cNeS (.val (.frz (.bl a))) (.val (.frz (.bl b))) L = .ok (.val (.frz (.bl (!decide (a = b))))) L := (rfl)
/-- one sign -/
abbrev sg (c : Nat) : Str := ⟨#[c]⟩
theorem ix_str {z : Str} {i : Nat} (h : i < z.cps.toList.length) (hl : z.length ≤ 1000) : kR ixW (some (.frz (.str z))) (some (.frz (.int (i : Nat)))) L = .ok (.val (.frz (.str (sg z.cps.toList[i])))) L := by
  refine kR_of ?_
  show (match (W.frz (.str z)).str? with
    | some z => if z.length ≤ sizeLine then (atI z.cps.toList (i : Nat)).map fun c => W.frz (.str ⟨#[c]⟩) else none
    | none => (W.frz (.str z)).seq.bind fun ws => atI ws (i : Nat)) = _
  rw [show (W.frz (.str z)).str? = some z from rfl]
  dsimp only
  rw [if_pos (small_le hl), BV.atI_nat (List.getElem?_eq_getElem h)]
  rfl
@[simp] theorem e_sl_s (z : Str) (lo hi : Option Int) (h : z.length ≤ 1000) : slR lo hi (some (.frz (.str z))) L = .ok (.val (.frz (.str (cutS z lo hi)))) L := slR_of (by
  show (if z.length ≤ sizeLine then some (W.frz (.str (cutS z lo hi))) else none) = _
  rw [if_pos (small_le h)])
end
theorem len_str (z : Str) : z.cps.toList.length = z.length := Array.length_toList
theorem tl_app (a b : Str) : (a ++ b).cps.toList = a.cps.toList ++ b.cps.toList := TL.tl_append a b
theorem len_app (a b : Str) : (a ++ b).length = a.length + b.length := by rw [← len_str, tl_app, List.length_append, len_str, len_str]
theorem len_sg (c : Nat) : (sg c).length = 1 := rfl
theorem cut_tl (z : Str) (lo hi : Option Int) : (cutS z lo hi).cps.toList = (z.cps.toList.drop (HT.sIx z.length 0 lo)).take (HT.sIx z.length z.length hi - HT.sIx z.length 0 lo) := by
  unfold cutS
  rw [List.toList_toArray]
theorem cut_mem {z : Str} {lo hi : Option Int} {c : Nat} (h : c ∈ (cutS z lo hi).cps.toList) : c ∈ z.cps.toList := by
  rw [cut_tl] at h
  exact List.mem_of_mem_drop (List.mem_of_mem_take h)
theorem cut_len (z : Str) (lo hi : Option Int) : (cutS z lo hi).length ≤ z.length := by
  rw [← len_str, ← len_str, cut_tl, List.length_take, List.length_drop]; omega
theorem cut_to (z : Str) (n : Nat) : (cutS z none (some (n : Int))).cps.toList = z.cps.toList.take n := by
  rw [cut_tl, HT.sIx_none, HT.sIx_nat, List.drop_zero, Nat.sub_zero]
  rw [← len_str]
  rw [← List.take_take, List.take_length]
theorem cut_from (z : Str) (n : Nat) : (cutS z (some (n : Int)) none).cps.toList = z.cps.toList.drop n := by
  rw [cut_tl, HT.sIx_none, HT.sIx_nat, ← len_str]
  by_cases h : n ≤ z.cps.toList.length
  · rw [Nat.min_eq_left h]
    exact List.take_of_length_le (by rw [List.length_drop]; omega)
  · rw [Nat.min_eq_right (by omega), List.drop_length, List.take_nil, List.drop_of_length_le (by omega)]
/-! lists of data -/
section
variable {L : Lc}
def handedA (i : Nat) (o : Option (Option W)) (L : Lc) : SRes := match o with
  | some (some w) => .ret w (L.set i none)
  | _ => .bad
@[simp] theorem e_handed_a (i : Nat) : handed (.al i) L = handedA i L[i]? L := (rfl)
@[simp] theorem e_handedA (i : Nat) (w : W) : handedA i (some (some w)) L = .ret w (L.set i none) := (rfl)
theorem len_oL (ds : List D) : lenD (oL ds).rd = some (.int ds.length) := by rw [rd_lst]; rfl
@[simp] theorem e_f1R_len (ds : List D) : f1R lenD (some (.olst (ds.map .frz))) L = .ok (.val (.frz (.int ds.length))) L := f1R_of (len_oL ds)
theorem ix_oL {ds : List D} {i : Nat} {d : D} (h : ds[i]? = some d) : kR ixW (some (.olst (ds.map .frz))) (some (.frz (.int (i : Nat)))) L = .ok (.val (.frz d)) L := kR_of (ixl_nat h)
theorem ix_fL {ds : List D} {i : Nat} {d : D} (h : ds[i]? = some d) : kR ixW (some (.frz (.lst ds))) (some (.frz (.int (i : Nat)))) L = .ok (.val (.frz d)) L := kR_of (ixf_nat h)
theorem ix_fT {ds : List D} {i : Nat} {d : D} (h : ds[i]? = some d) : kR ixW (some (.frz (.tup ds))) (some (.frz (.int (i : Nat)))) L = .ok (.val (.frz d)) L := kR_of (ix_nat rfl rfl (by rw [List.getElem?_map, h]; rfl))
@[simp] theorem e_kR2 {a b c : D} {r : List D} : kR ixW (some (.frz (.tup (a :: b :: c :: r)))) (some (.frz (.int 2))) L = .ok (.val (.frz c)) L := ix_fT (i := 2) rfl
def seqK (d : D) (L : Lc) : Res (List W) := match d.seq with
  | some ds => .ok (ds.map .frz) L
  | none => .bad
@[simp] theorem e_seqK_l (ds : List D) : seqK (.lst ds) L = .ok (ds.map .frz) L := (rfl)
@[simp] theorem e_seqK_t (ds : List D) : seqK (.tup ds) L = .ok (ds.map .frz) L := (rfl)
@[simp] theorem e_items_al (i : Nat) : itemsOf (.al i) L = (toFa i L[i]? L).bind seqK := (rfl)
@[simp] theorem e_items_fl (ds : List D) : itemsOf (.val (.frz (.lst ds))) L = .ok (ds.map .frz) L := (rfl)
@[simp] theorem e_items_ft (ds : List D) : itemsOf (.val (.frz (.tup ds))) L = .ok (ds.map .frz) L := (rfl)
@[simp] theorem e_items_ol (ds : List D) : itemsOf (.val (.olst (ds.map .frz))) L = .ok (ds.map .frz) L := by
  show (toF (.val (.olst (ds.map .frz))) L).bind seqK = _
  rw [e_toF_v, e_fr_l, e_frs_frz]
  rfl
end
end BV

namespace BV
open PySem PySem.Spec PyProof.Rows L2
section
variable {L : Lc}
theorem strsD_sD (ts : List Str) : strsD (sD ts) = some ts := by
  induction ts with
  | nil => rfl
  | cons t ts ih => show strsD (.str t :: sD ts) = _; rw [strsD, ih]; rfl
theorem sorted_of {r : R} {w : W} {ts : List Str} (h : r.get L = some w) (hw : w.rd.list? = some (sD ts)) (hl : ts.length < 64) : bSorted [r] L = .ok (.val (oL (sD (sortS ts)))) L := by
  unfold bSorted
  dsimp only
  rw [h]
  dsimp only
  rw [hw, Option.bind_some, strsD_sD]
  dsimp only
  rw [if_pos hl]
  show Res.ok (R.val (W.olst ((sortS ts).map fun x => .frz (.str x)))) L = _
  rw [oL, List.map_map]
  rfl
theorem sorted_b (ts : List Str) (hl : ts.length < 64) : bSorted [.val (.brw (.lst (sD ts)))] L = .ok (.val (oL (sD (sortS ts)))) L := sorted_of rfl (by rw [W.rd]; rfl) hl
theorem sorted_f (ts : List Str) (hl : ts.length < 64) : bSorted [.val (.frz (.lst (sD ts)))] L = .ok (.val (oL (sD (sortS ts)))) L := sorted_of rfl (by rw [W.rd]; rfl) hl
theorem sorted_o (ts : List Str) (hl : ts.length < 64) : bSorted [.val (oL (sD ts))] L = .ok (.val (oL (sD (sortS ts)))) L := sorted_of rfl (by rw [rd_lst]; rfl) hl
theorem sorted_a {i : Nat} {w : W} (ts : List Str) (h : L[i]? = some (some w)) (hw : w.rd.list? = some (sD ts)) (hl : ts.length < 64) : bSorted [.al i] L = .ok (.val (oL (sD (sortS ts)))) L := sorted_of (by rw [e_get_a, h]; rfl) hw hl
theorem tuple_of {r : R} {ds : List D} (h : r.get L = some (oL ds)) : bTuple [r] L = .ok (.val (.frz (.tup ds))) L := by
  unfold bTuple
  dsimp only
  rw [h]
  dsimp only
  rw [show (oL ds).isTup = false from rfl, show (oL ds).isLst = true from rfl, if_neg (by decide), if_pos rfl, seq_l]
  dsimp only
  unfold mkT
  rw [e_frs_frz]
@[simp] theorem e_tuple_v (ds : List D) : bTuple [.val (.olst (ds.map .frz))] L = .ok (.val (.frz (.tup ds))) L := tuple_of rfl
def tupA (i : Nat) (o : Option W) (L : Lc) : Res R := match o with
  | some w => if w.isTup = true then .ok (.val w) L else if w.isLst = true then match w.seq with
        | some ws => .ok (.val (mkT ws)) L
        | none => .bad
      else .bad
  | none => .bad
@[simp] theorem e_tuple_a (i : Nat) : bTuple [.al i] L = tupA i (slotW L[i]?) L := (rfl)
@[simp] theorem e_tupA (i : Nat) (ds : List D) : tupA i (some (.olst (ds.map .frz))) L = .ok (.val (.frz (.tup ds))) L := by
  unfold tupA
  dsimp only
  rw [show (W.olst (ds.map .frz)).isTup = false from rfl, show (W.olst (ds.map .frz)).isLst = true from rfl, if_neg (by decide), if_pos rfl, seq_l]
  dsimp only
  unfold mkT
  rw [e_frs_frz]
@[simp] theorem e_tuple_l (ds : List D) : bTuple [.val (.frz (.lst ds))] L = .ok (.val (.frz (.tup ds))) L := by
  show Res.ok (R.val (mkT (ds.map .frz))) L = _
  unfold mkT
  rw [e_frs_frz]
@[simp] theorem e_tuple_t (ds : List D) : bTuple [.val (.frz (.tup ds))] L = .ok (.val (.frz (.tup ds))) L := (rfl)
@[simp] theorem e_list_l (ds : List D) : bList [.val (.frz (.lst ds))] L = .ok (.val (.olst (ds.map .frz))) L := (rfl)
@[simp] theorem e_list_t (ds : List D) : bList [.val (.frz (.tup ds))] L = .ok (.val (.olst (ds.map .frz))) L := (rfl)
theorem list_of {r : R} {w : W} {ws : List W} (h : r.get L = some w) (hw : w.seq = some ws) : bList [r] L = .ok (.val (.olst ws)) L := by
  unfold bList
  dsimp only
  rw [h]
  dsimp only
  rw [hw]
@[simp] theorem e_list_o (ds : List D) : bList [.val (.olst (ds.map .frz))] L = .ok (.val (.olst (ds.map .frz))) L := list_of rfl (seq_l ds)
/-! taking apart -/
theorem gTp_of {n : Nat} {gs : List W → MS} {w : W} {ws : List W} (h : w.seq = some ws) (hl : ws.length = n) : gTp n gs (.val w) L = gs ws L := by
  unfold gTp
  show (match w.seq with
    | some ws => if ws.length = n then gs ws L else .bad
    | none => .bad) = _
  rw [h]
  dsimp only
  rw [if_pos hl]
theorem seq_pair {d : D} {w : W} (h : w.no = true) : (pairW (.frz d) w).seq = some [.frz d, w] := by
  cases w with
  | frz e => rfl
  | brw e => rfl
  | _ => cases h
theorem gTp_pair {gs : List W → MS} {d : D} {w : W} (h : w.no = true) : gTp 2 gs (.val (pairW (.frz d) w)) L = gs [.frz d, w] L := gTp_of (seq_pair h) rfl
theorem frs_cons_of {w : W} {d : D} {ws : List W} {ds : List D} (h1 : w.fr = some d) (h2 : frs ws = some ds) : frs (w :: ws) = some (d :: ds) := by
  rw [frs, h1, h2]
end
def augA (fl : List Bool) (i : Nat) (g : R → R → M R) (m : M R) (o : Option (Option W)) (L : Lc) : SRes := match o with
  | some (some (.frz d)) => (m L).thenS fun r L1 => (g (sc d) r L1).thenS fun z L2 => asgn fl i z L2
  | _ => .bad
@[simp] theorem e_aug {L : Lc} (fl : List Bool) (i : Nat) (g : R → R → M R) (m : M R) : sAug fl i g m L = augA fl i g m L[i]? L := (rfl)
@[simp] theorem e_augA {L : Lc} (fl : List Bool) (i : Nat) (g : R → R → M R) (m : M R) (d : D) : augA fl i g m (some (some (.frz d))) L = (m L).thenS fun r L1 => (g (.val (.frz d)) r L1).thenS fun z L2 => asgn fl i z L2 := (rfl)
@[simp] theorem e_addI {L : Lc} (a b : Int) : gOr aAdd aCatS (.val (.frz (.int a))) (.val (.frz (.int b))) L = .ok (.val (.frz (.int (a + b)))) L := (rfl)
@[simp] theorem e_subI {L : Lc} (a b : Int) : aSub (.val (.frz (.int a))) (.val (.frz (.int b))) L = .ok (.val (.frz (.int (a - b)))) L := (rfl)
def chK (g' : R → R → M R) (c : M R) (d : D) (z : R) (L : Lc) : Res R := match z with
  | .val (.frz (.bl k)) => if k = true then (c L).bind fun u L4 => g' (sc d) u L4 else .ok (sc (.bl false)) L
  | _ => .bad
def chR (g g' : R → R → M R) (c : M R) (x y : R) (L : Lc) : Res R := match y with
  | .val (.frz d) => (g x y L).bind (chK g' c d)
  | _ => .bad
@[simp] theorem e_chain {L : Lc} (g g' : R → R → M R) (a b c : M R) : mChain g g' a b c L = (a L).bind fun x L1 => (b L1).bind fun y L2 => chR g g' c x y L2 := by
  unfold mChain
  cases a L with
  | ok x L1 =>
    show (b L1).bind _ = (b L1).bind _
    cases b L1 with
    | ok y L2 =>
      show (match y with | .val (.frz d) => _ | _ => _) = chR g g' c x y L2
      unfold chR
      cases y with
      | val w => cases w with
        | frz d => rfl
        | _ => rfl
      | al i => rfl
    | _ => rfl
  | _ => rfl
@[simp] theorem e_chR {L : Lc} (g g' : R → R → M R) (c : M R) (x : R) (d : D) : chR g g' c x (.val (.frz d)) L = (g x (.val (.frz d)) L).bind (chK g' c d) := (rfl)
@[simp] theorem e_chK {L : Lc} (g' : R → R → M R) (c : M R) (d : D) (k : Bool) : chK g' c d (.val (.frz (.bl k))) L = if k = true then (c L).bind fun u L4 => g' (.val (.frz d)) u L4 else .ok (.val (.frz (.bl false))) L := (rfl)
theorem intsW_oL (n : Nat) : intsW 0 n = (((List.range n).map fun k => ((k : Nat) : Int)).map D.int).map W.frz := by
  unfold intsW
  rw [List.map_map, List.map_map]
  refine List.map_congr_left fun k _ => ?_
  rw [Int.zero_add]
  rfl
/-! fields of what is frozen -/
@[simp] theorem e_fldR_f {L : Lc} (C : Addr) (f : Str) (d : D) (fs : List (Str × D)) : fldR [C] f (some (.frz (.obj C ((f, d) :: fs)))) L = .ok (.val (.frz d)) L := fldR_of rfl List.mem_cons_self (by
  show (((f, d) :: fs).lookup f).map W.frz = _
  rw [look_cons, if_pos rfl]; rfl)
theorem fldR_o {L : Lc} {C : Addr} {f : Str} {w : W} {fs : List (Str × W)} (h : fs.lookup f = some w) (hn : w.no = true) : fldR [C] f (some (.oobj C fs)) L = .ok (.val w) L := fldR_of rfl List.mem_cons_self (by
  show (match fs.lookup f with
    | some u => if u.no = true then some u else none
    | none => none) = _
  rw [h]
  dsimp only
  rw [if_pos hn])
theorem fldR_l {L : Lc} {C : Addr} {f : Str} {d : D} {fs : List (Str × D)} (h : fs.lookup f = some d) : fldR [C] f (some (.frz (.obj C fs))) L = .ok (.val (.frz d)) L := fldR_of rfl List.mem_cons_self (by
  show (fs.lookup f).map W.frz = _
  rw [h]; rfl)
theorem for_ret {g : MG} {body : MS} {w v : W} {L L' : Lc} (h : turnF g body w L = .ret v L') (ws : List W) : forL g body (w :: ws) L = .ret v L' := by
  rw [forL]
  unfold turnF at h
  cases e1 : g (.val w) L with
  | next L1 =>
    rw [e1] at h
    dsimp only at h ⊢
    cases e2 : body L1 with
    | next L2 => rw [e2] at h; cases h
    | cnt L2 => rw [e2] at h; cases h
    | brk L2 => rw [e2] at h; cases h
    | ret v L2 => rw [e2] at h; cases h; rfl
    | exc x L2 => rw [e2] at h; cases h
    | bad => rw [e2] at h; cases h
  | _ => rw [e1] at h; cases h
/-! enumerate -/
def enumI : Nat → List W → List W
  | _, [] => []
  | i, w :: ws => pairW (.frz (.int (i : Nat))) w :: enumI (i + 1) ws
theorem enumW_is (ws : List W) : enumW ws = enumI 0 ws := by
  have key : ∀ (ws : List W) (k : Nat), (ws.mapIdx fun i w => pairW (.frz (.int ((i + k : Nat) : Int))) w) = enumI k ws := by
    intro ws
    induction ws with
    | nil => intro k; rfl
    | cons w ws ih =>
      intro k
      rw [List.mapIdx_cons, enumI, ← ih (k + 1), Nat.zero_add]
      congr 1
      refine congrArg (fun f => List.mapIdx f ws) ?_
      funext i w
      rw [show i + 1 + k = i + (k + 1) by omega]
  unfold enumW
  rw [← key ws 0]
  rfl
/-! comprehensions that leave the slots -/
theorem lc_map {α : Type} {kp : Bool} {vs : List Nat} {g : MG} {mt : M Bool} {me : M R} (enc f : α → W) (P : α → Bool) {L : Lc} : ∀ (xs : List α) (acc : List W),
    (∀ x ∈ xs, ∃ L1 L2 L3 L4, g (.val (enc x)) L = .next L1 ∧ mt L1 = .ok (P x) L2 ∧ (P x = false → wipeL L2 vs = L) ∧ (P x = true → ∃ r, me L2 = .ok r L3 ∧ toW kp r L3 = .ok (f x) L4 ∧ wipeL L4 vs = L)) → acc.length + xs.length ≤ 100000 →
    lcL kp vs g mt me (xs.map enc) L acc = some (acc ++ (xs.filter P).map f, L)
  | [], acc, _, _ => by rw [List.map_nil, lcL]; simp
  | x :: xs, acc, h, hl => by
    obtain ⟨L1, L2, L3, L4, h1, h2, h3, h4⟩ := h x List.mem_cons_self
    have ih := fun acc hl => lc_map enc f P xs acc (fun y hy => h y (List.mem_cons_of_mem _ hy)) hl
    rw [List.map_cons, lcL, h1]
    dsimp only
    rw [h2]
    cases hp : P x with
    | false =>
      dsimp only
      rw [h3 hp, ih acc (by rw [List.length_cons] at hl; omega), List.filter_cons_of_neg (by rw [hp]; decide)]
    | true =>
      obtain ⟨r, h5, h6, h7⟩ := h4 hp
      dsimp only
      rw [h5]
      dsimp only
      rw [h6]
      dsimp only
      rw [if_pos (show acc.length < sizeLine from Nat.lt_of_lt_of_le (show acc.length < 1000000 by rw [List.length_cons] at hl; omega) (by decide)), h7, ih _ (by rw [List.length_append, List.length_singleton]; rw [List.length_cons] at hl; omega), List.filter_cons_of_pos hp, List.map_cons, List.append_assoc]
      rfl
/-- without a test -/
theorem lc_all {α : Type} {kp : Bool} {vs : List Nat} {g : MG} {me : M R} (enc f : α → W) {L : Lc} (xs : List α)
    (h : ∀ x ∈ xs, ∃ L1 L3 L4 r, g (.val (enc x)) L = .next L1 ∧ me L1 = .ok r L3 ∧ toW kp r L3 = .ok (f x) L4 ∧ wipeL L4 vs = L) (hl : xs.length ≤ 100000) :
    lcL kp vs g mYes me (xs.map enc) L [] = some (xs.map f, L) := by
  have := lc_map (kp := kp) (vs := vs) (g := g) (mt := mYes) (me := me) enc f (fun _ => true) xs [] (fun x hx => by
    obtain ⟨L1, L3, L4, r, h1, h2, h3, h4⟩ := h x hx
    exact ⟨L1, L1, L3, L4, h1, rfl, fun z => Bool.noConfusion z, fun _ => ⟨r, h2, h3, h4⟩⟩) (by simpa using hl)
  rw [this, List.nil_append, List.filter_eq_self.mpr (fun _ _ => rfl)]
end BV

namespace L
open PySem PySem.Spec PyProof.Rows L2 BV
def topS (i : Nat) : Stmt := PySem.Challenge.pw_marktruly_k25_keys_by_numbers.main.body.getD i (.Pass ⟨0, 0, 0, 0⟩)
structure Ad where
  Marking : Addr
abbrev s_l_start : Stmt := topS 11
abbrev s_l_draw : Stmt := topS 12
abbrev s_l_signs : Stmt := topS 14
abbrev s_l_text : Stmt := topS 15
abbrev s_l_texts : Stmt := topS 16
abbrev s_l_pool : Stmt := topS 18
abbrev s_l_wide : Stmt := topS 13
abbrev s_l_weight : Stmt := topS 17
abbrev s_l_some : Stmt := topS 19
abbrev s_l_entries : Stmt := topS 20
abbrev s_Marking_init : Stmt := inClass (topS 8) 0
abbrev s_l_numbers : Stmt := topS 22
abbrev s__is_below : Stmt := topS 7
abbrev s_Marking_key_of : Stmt := inClass (topS 8) 2
abbrev s_l_integer : Stmt := topS 10
abbrev s_l_at : Stmt := topS 21
abbrev s_l_keys_are : Stmt := topS 23
abbrev s_Marking_accuses : Stmt := inClass (topS 8) 4
abbrev s_Marking_write : Stmt := inClass (topS 8) 3
abbrev s_l_counted : Stmt := topS 24
abbrev s_l_body : Stmt := topS 25
abbrev s_law : Stmt := topS 26
abbrev fl_l_start : List Bool := [false]
def m_l_start (K : PySem.W.Frag) (A : Ad) : MS := (sRet (mLst (mCons (mCallB bList (mCons (mVar 0) mNil)) (mCons (mC (.int 0)) (mCons (mC (.int 0)) (mCons (mC (.int 0)) (mCons (mC (.int 7)) mNil)))))))
def fn_l_start (K : PySem.W.Frag) (A : Ad) : Fn := runF 1 fl_l_start (m_l_start K A)
abbrev fl_l_draw : List Bool := [true, false]
def m_l_draw (K : PySem.W.Frag) (A : Ad) : MS := (sSeq (sIf (mBl (mOp cLt (mVar 1) (mC (.int 2))))
  (sSet fl_l_draw 1 (mC (.int 1)))
  sNil)
  (sSeq (sIf (mAnd (mBl (mOp cEqS (mOp (mkK ixW) (mVar 0) (mC (.int 3))) (mC (.int 0)))) (mBl (mOp cLt (mOp (mkK ixW) (mVar 0) (mC (.int 1))) (mCallB (f1 lenD) (mCons (mOp (mkK ixW) (mVar 0) (mC (.int 0))) mNil)))))
  (sSeq (sSet fl_l_draw 2 (mCallB (f1 absD) (mCons (mCallB (f1 intD) (mCons (mOp (mkK ixW) (mOp (mkK ixW) (mVar 0) (mC (.int 0))) (mOp (mkK ixW) (mVar 0) (mC (.int 1)))) mNil)) mNil)))
  (sSeq (sSetIx 0 (mC (.int 1)) (mOp aAddU (mOp (mkK ixW) (mVar 0) (mC (.int 1))) (mC (.int 1))))
  (sSeq (sSetIx 0 (mC (.int 3)) (mC (.int 4)))
  (sIf (mBl (mOp cGe (mVar 2) (mOp aPow (mC (.int 10)) (mC (.int 18)))))
  (sSeq (sSetIx 0 (mC (.int 2)) (mVar 2))
  (sSetIx 0 (mC (.int 3)) (mC (.int 60))))
  (sSetIx 0 (mC (.int 4)) (mOp aMod (mCallB (f1 intD) (mCons (mOp aAddU (mOp aAddU (mOp aMul (mOp (mkK ixW) (mVar 0) (mC (.int 4))) (mC (.int 48271))) (mVar 2)) (mOp (mkK ixW) (mVar 0) (mC (.int 1)))) mNil)) (mC (.int 2147483647))))))))
  sNil)
  (sSeq (sIf (mBl (mOp cGt (mOp (mkK ixW) (mVar 0) (mC (.int 2))) (mC (.int 0))))
  (sSeq (sSet fl_l_draw 3 (mOp aMod (mCallB (f1 intD) (mCons (mOp (mkK ixW) (mVar 0) (mC (.int 2))) mNil)) (mVar 1)))
  (sSeq (sSetIx 0 (mC (.int 2)) (mOp aDiv (mOp (mkK ixW) (mVar 0) (mC (.int 2))) (mVar 1)))
  (sSeq (sSetIx 0 (mC (.int 3)) (mOp aSub (mOp (mkK ixW) (mVar 0) (mC (.int 3))) (mC (.int 1))))
  (sSeq (sIf (mOr (mBl (mOp cEqS (mOp (mkK ixW) (mVar 0) (mC (.int 2))) (mC (.int 0)))) (mBl (mOp cEqS (mOp (mkK ixW) (mVar 0) (mC (.int 3))) (mC (.int 0)))))
  (sSeq (sSetIx 0 (mC (.int 2)) (mC (.int 0)))
  (sSetIx 0 (mC (.int 3)) (mC (.int 0))))
  sNil)
  (sRet (mVar 3))))))
  sNil)
  (sSeq (sSetIx 0 (mC (.int 3)) (mCallB (f2 maxD) (mCons (mC (.int 0)) (mCons (mOp aSub (mOp (mkK ixW) (mVar 0) (mC (.int 3))) (mC (.int 1))) mNil))))
  (sSeq (sSetIx 0 (mC (.int 4)) (mOp aMod (mCallB (f1 intD) (mCons (mOp aAddU (mOp aMul (mOp (mkK ixW) (mVar 0) (mC (.int 4))) (mC (.int 48271))) (mC (.int 12345))) mNil)) (mC (.int 2147483647))))
  (sRet (mOp aMod (mCallB (f1 intD) (mCons (mOp aMod (mCallB (f1 intD) (mCons (mOp aAddU (mOp aMul (mOp (mkK ixW) (mVar 0) (mC (.int 4))) (mC (.int 40692))) (mC (.int 3791))) mNil)) (mC (.int 2147483399))) mNil)) (mVar 1))))))))
def fn_l_draw (K : PySem.W.Frag) (A : Ad) : Fn := runF 4 fl_l_draw (m_l_draw K A)
abbrev fl_l_signs : List Bool := []
def m_l_signs (K : PySem.W.Frag) (A : Ad) : MS := (sRet (mC (.str " !\"#$&'()*+,-./0123456789:;<=>?@ABCDEFGHIJKLMNOPQRSTUVWXYZ[\\]^_`abcdefghijklmnopqrstuvwxyz{|}~")))
def fn_l_signs (K : PySem.W.Frag) (A : Ad) : Fn := runF 0 fl_l_signs (m_l_signs K A)
abbrev fl_l_text : List Bool := [true, false]
def m_l_text_b1 (K : PySem.W.Frag) (A : Ad) : MS := (sSet fl_l_text 5 (mOp aAddU (mVar 5) (mOp (mkK ixW) (mVar 4) (mCall fl_l_draw (fn_l_draw K A) (mCons (mVar 0) (mCons (mCallB (f1 lenD) (mCons (mVar 4) mNil)) mNil))))))
def m_l_text (K : PySem.W.Frag) (A : Ad) : MS := (sSeq (sSet fl_l_text 2 (mCall fl_l_draw (fn_l_draw K A) (mCons (mVar 0) (mCons (mC (.int 4)) mNil))))
  (sSeq (sSet fl_l_text 3 (mCall fl_l_draw (fn_l_draw K A) (mCons (mVar 0) (mCons (mC (.int 4)) mNil))))
  (sSeq (sSet fl_l_text 4 (mC (.str "ab")))
  (sSeq (sIf (mBl (mOp cEqS (mVar 2) (mC (.int 2))))
  (sSet fl_l_text 4 (mC (.str "abAB01")))
  sNil)
  (sSeq (sIf (mBl (mOp cEqS (mVar 2) (mC (.int 3))))
  (sSeq (sSet fl_l_text 4 (mCall [] (fn_l_signs K A) mNil))
  (sSet fl_l_text 3 (mCall fl_l_draw (fn_l_draw K A) (mCons (mVar 0) (mCons (mOp aAddU (mVar 1) (mC (.int 1))) mNil)))))
  sNil)
  (sSeq (sSet fl_l_text 5 (mC (.str "")))
  (sSeq (sFor (mRange1 (mCons (mCallB (f2 minD) (mCons (mVar 3) (mCons (mVar 1) mNil))) mNil)) (gNm fl_l_text 6) (m_l_text_b1 K A))
  (sRet (mVar 5)))))))))
def fn_l_text (K : PySem.W.Frag) (A : Ad) : Fn := runF 7 fl_l_text (m_l_text K A)
abbrev fl_l_texts : List Bool := [true, false, false]
def m_l_texts_b1 (K : PySem.W.Frag) (A : Ad) : MS := (sSeq (sIf (mTru (mVar 3))
  (sSet fl_l_texts 8 (mOp aAddU (mOp aAddU (mSl (mVar 4) pNone (pSome (mVar 5))) (mOp (mkK ixW) (mCall [] (fn_l_signs K A) mNil) (mCall fl_l_draw (fn_l_draw K A) (mCons (mVar 0) (mCons (mC (.int 94)) mNil))))) (mSl (mVar 4) (pSome (mOp aAddU (mVar 5) (mC (.int 1)))) pNone)))
  (sSet fl_l_texts 8 (mCall fl_l_text (fn_l_text K A) (mCons (mVar 0) (mCons (mVar 2) mNil)))))
  (sIf (mBl (mOp cNinU (mVar 8) (mVar 6)))
  (sExp (mBM "list" gAppend (mVar 6) (mCons (mVar 8) mNil)))
  sNil))
def m_l_texts (K : PySem.W.Frag) (A : Ad) : MS := (sSeq (sSet fl_l_texts 3 (mOp cEqS (mCall fl_l_draw (fn_l_draw K A) (mCons (mVar 0) (mCons (mC (.int 3)) mNil))) (mC (.int 0))))
  (sSeq (sSet fl_l_texts 4 (mCall fl_l_text (fn_l_text K A) (mCons (mVar 0) (mCons (mOp aSub (mVar 2) (mC (.int 1))) mNil))))
  (sSeq (sSet fl_l_texts 5 (mCall fl_l_draw (fn_l_draw K A) (mCons (mVar 0) (mCons (mOp aAddU (mCallB (f1 lenD) (mCons (mVar 4) mNil)) (mC (.int 1))) mNil))))
  (sSeq (sSet fl_l_texts 6 (mLst mNil))
  (sSeq (sFor (mRange1 (mCons (mVar 1) mNil)) (gNm fl_l_texts 7) (m_l_texts_b1 K A))
  (sRet (mVar 6)))))))
def fn_l_texts (K : PySem.W.Frag) (A : Ad) : Fn := runF 9 fl_l_texts (m_l_texts K A)
abbrev fl_l_pool : List Bool := [true]
def m_l_pool (K : PySem.W.Frag) (A : Ad) : MS := (sSeq (sSet fl_l_pool 1 (mOp aAddU (mC (.int 1)) (mCall fl_l_draw (fn_l_draw K A) (mCons (mVar 0) (mCons (mC (.int 6)) mNil)))))
  (sSeq (sIf (mBl (mOp cEqS (mCall fl_l_draw (fn_l_draw K A) (mCons (mVar 0) (mCons (mC (.int 8)) mNil))) (mC (.int 0))))
  (sSet fl_l_pool 1 (mOp aAddU (mC (.int 1)) (mCall fl_l_draw (fn_l_draw K A) (mCons (mVar 0) (mCons (mC (.int 24)) mNil)))))
  sNil)
  (sRet (mCall fl_l_texts (fn_l_texts K A) (mCons (mVar 0) (mCons (mVar 1) (mCons (mC (.int 10)) mNil)))))))
def fn_l_pool (K : PySem.W.Frag) (A : Ad) : Fn := runF 2 fl_l_pool (m_l_pool K A)
abbrev fl_l_wide : List Bool := [true]
def m_l_wide_b1 (K : PySem.W.Frag) (A : Ad) : MS := (sSet fl_l_wide 1 (mOp aAddU (mOp aMul (mVar 1) (mOp aPow (mC (.int 10)) (mC (.int 9)))) (mCall fl_l_draw (fn_l_draw K A) (mCons (mVar 0) (mCons (mOp aPow (mC (.int 10)) (mC (.int 9))) mNil)))))
def m_l_wide_b2 (K : PySem.W.Frag) (A : Ad) : MS := (sSet fl_l_wide 3 (mOp aMul (mVar 3) (mC (.int 10))))
def m_l_wide (K : PySem.W.Frag) (A : Ad) : MS := (sSeq (sSet fl_l_wide 1 (mC (.int 0)))
  (sSeq (sFor (mRange1 (mCons (mC (.int 5)) mNil)) (gNm fl_l_wide 2) (m_l_wide_b1 K A))
  (sSeq (sSet fl_l_wide 3 (mC (.int 1)))
  (sSeq (sFor (mRange1 (mCons (mCall fl_l_draw (fn_l_draw K A) (mCons (mVar 0) (mCons (mC (.int 41)) mNil))) mNil)) (gNm fl_l_wide 2) (m_l_wide_b2 K A))
  (sRet (mOp aMod (mCallB (f1 intD) (mCons (mVar 1) mNil)) (mVar 3)))))))
def fn_l_wide (K : PySem.W.Frag) (A : Ad) : Fn := runF 4 fl_l_wide (m_l_wide K A)
abbrev fl_l_weight : List Bool := [true, false]
def m_l_weight (K : PySem.W.Frag) (A : Ad) : MS := (sSeq (sIf (mBl (mOp cLt (mVar 1) (mC (.int 4))))
  (sRet (mOp aAddU (mC (.int 1)) (mCall fl_l_draw (fn_l_draw K A) (mCons (mVar 0) (mCons (mC (.int 4)) mNil)))))
  sNil)
  (sSeq (sIf (mBl (mOp cLt (mVar 1) (mC (.int 6))))
  (sRet (mOp aAddU (mC (.int 1)) (mCall fl_l_draw (fn_l_draw K A) (mCons (mVar 0) (mCons (mC (.int 20)) mNil)))))
  sNil)
  (sSeq (sIf (mBl (mOp cEqS (mVar 1) (mC (.int 6))))
  (sRet (mOp aAddU (mC (.int 6)) (mOp aMul (mC (.int 6)) (mCall fl_l_draw (fn_l_draw K A) (mCons (mVar 0) (mCons (mC (.int 6)) mNil))))))
  sNil)
  (sRet (mCallB (f2 maxD) (mCons (mC (.int 1)) (mCons (mCall fl_l_wide (fn_l_wide K A) (mCons (mVar 0) mNil)) mNil)))))))
def fn_l_weight (K : PySem.W.Frag) (A : Ad) : Fn := runF 2 fl_l_weight (m_l_weight K A)
abbrev fl_l_some : List Bool := [true, false, false]
def m_l_some_b1 (K : PySem.W.Frag) (A : Ad) : MS := (sSeq (sSet fl_l_some 5 (mOp (mkK ixW) (mVar 1) (mCall fl_l_draw (fn_l_draw K A) (mCons (mVar 0) (mCons (mCallB (f1 lenD) (mCons (mVar 1) mNil)) mNil)))))
  (sIf (mBl (mOp cNinU (mVar 5) (mVar 3)))
  (sExp (mBM "list" gAppend (mVar 3) (mCons (mVar 5) mNil)))
  sNil))
def m_l_some (K : PySem.W.Frag) (A : Ad) : MS := (sSeq (sSet fl_l_some 3 (mLst mNil))
  (sSeq (sFor (mRange1 (mCons (mCall fl_l_draw (fn_l_draw K A) (mCons (mVar 0) (mCons (mOp aAddU (mVar 2) (mC (.int 1))) mNil))) mNil)) (gNm fl_l_some 4) (m_l_some_b1 K A))
  (sRet (mVar 3))))
def fn_l_some (K : PySem.W.Frag) (A : Ad) : Fn := runF 6 fl_l_some (m_l_some K A)
abbrev fl_l_entries : List Bool := [true, false]
def m_l_entries_b1 (K : PySem.W.Frag) (A : Ad) : MS := (sSeq (sSet fl_l_entries 7 (mOp (mkK ixW) (mVar 1) (mCall fl_l_draw (fn_l_draw K A) (mCons (mVar 0) (mCons (mCallB (f1 lenD) (mCons (mVar 1) mNil)) mNil)))))
  (sExp (mBM "list" gAppend (mVar 5) (mCons (mTup (mCons (mCall fl_l_weight (fn_l_weight K A) (mCons (mVar 0) (mCons (mVar 3) mNil))) (mCons (mVar 7) (mCons (mCall fl_l_some (fn_l_some K A) (mCons (mVar 0) (mCons (mVar 1) (mCons (mVar 4) mNil)))) mNil)))) mNil))))
def m_l_entries (K : PySem.W.Frag) (A : Ad) : MS := (sSeq (sSet fl_l_entries 2 (mOp aAddU (mC (.int 1)) (mCall fl_l_draw (fn_l_draw K A) (mCons (mVar 0) (mCons (mC (.int 6)) mNil)))))
  (sSeq (sIf (mBl (mOp cEqS (mCall fl_l_draw (fn_l_draw K A) (mCons (mVar 0) (mCons (mC (.int 8)) mNil))) (mC (.int 0))))
  (sSet fl_l_entries 2 (mOp aAddU (mC (.int 1)) (mCall fl_l_draw (fn_l_draw K A) (mCons (mVar 0) (mCons (mC (.int 60)) mNil)))))
  sNil)
  (sSeq (sSet fl_l_entries 3 (mCall fl_l_draw (fn_l_draw K A) (mCons (mVar 0) (mCons (mC (.int 8)) mNil))))
  (sSeq (sSet fl_l_entries 4 (mOp (mkK ixW) (mLst (mCons (mC (.int 2)) (mCons (mC (.int 4)) (mCons (mCallB (f1 lenD) (mCons (mVar 1) mNil)) mNil)))) (mCall fl_l_draw (fn_l_draw K A) (mCons (mVar 0) (mCons (mC (.int 3)) mNil)))))
  (sSeq (sSet fl_l_entries 5 (mLst mNil))
  (sSeq (sFor (mRange1 (mCons (mVar 2) mNil)) (gNm fl_l_entries 6) (m_l_entries_b1 K A))
  (sRet (mVar 5))))))))
def fn_l_entries (K : PySem.W.Frag) (A : Ad) : Fn := runF 8 fl_l_entries (m_l_entries K A)
abbrev fl_Marking_init : List Bool := [true, false]
def m_Marking_init_b1 (K : PySem.W.Frag) (A : Ad) : MS := (sSeq (sIf (mOr (mNot (mTru (mCallB (f2 (isi K [A.Marking])) (mCons (mVar 5) (mCons (mC (.ty "int")) mNil))))) (mOr (mTru (mCallB (f2 (isi K [A.Marking])) (mCons (mVar 5) (mCons (mC (.ty "bool")) mNil)))) (mBl (mOp cLt (mVar 5) (mC (.int 1))))))
  sBad
  sNil)
  (sSeq (sExp (mBM "list" gAppend (mVar 2) (mCons (mTup (mCons (mVar 5) (mCons (mVar 6) (mCons (mCallB bTuple (mCons (mCallB bSorted (mCons (mVar 7) mNil)) mNil)) mNil)))) mNil)))
  (sAug fl_Marking_init 3 (gOr aAdd aCatS) (mVar 5))))
def m_Marking_init (K : PySem.W.Frag) (A : Ad) : MS := (sSeq (sSet fl_Marking_init 2 (mLst mNil))
  (sSeq (sSet fl_Marking_init 3 (mC (.int 0)))
  (sSeq (sFor (mEnum (mCons (mVar 1) mNil)) (gTp 2 (gsCons (gNm fl_Marking_init 4) (gsCons (gTp 3 (gsCons (gNm fl_Marking_init 5) (gsCons (gNm fl_Marking_init 6) (gsCons (gNm fl_Marking_init 7) gsNil)))) gsNil))) (m_Marking_init_b1 K A))
  (sSeq (sFldSet [A.Marking] 0 "entries" (mCallB bTuple (mCons (mVar 2) mNil)))
  (sFldSet [A.Marking] 0 "whole" (mVar 3))))))
def fn_Marking_init (K : PySem.W.Frag) (A : Ad) : Fn := runF 8 fl_Marking_init (m_Marking_init K A)
abbrev fl_l_numbers : List Bool := [true, false, false]
def m_l_numbers_b1 (K : PySem.W.Frag) (A : Ad) : MS := (sSeq (sExp (mBM "list" gAppend (mVar 3) (mCons (mVar 4) mNil)))
  (sSeq (sExp (mBM "list" gAppend (mVar 3) (mCons (mOp aSub (mOp aAddU (mVar 4) (mVar 6)) (mC (.int 1))) mNil)))
  (sSet fl_l_numbers 4 (mOp aAddU (mVar 4) (mVar 6)))))
def m_l_numbers_b2 (K : PySem.W.Frag) (A : Ad) : MS := (sExp (mBM "list" gAppend (mVar 3) (mCons (mOp aMod (mCallB (f1 intD) (mCons (mCall fl_l_wide (fn_l_wide K A) (mCons (mVar 0) mNil)) mNil)) (mVar 2)) mNil)))
def m_l_numbers (K : PySem.W.Frag) (A : Ad) : MS := (sSeq (sIf (mBl (mOp cLe (mVar 2) (mC (.int 40))))
  (sRet (mListR1 (mVar 2)))
  sNil)
  (sSeq (sSet fl_l_numbers 3 (mLst mNil))
  (sSeq (sSet fl_l_numbers 4 (mC (.int 0)))
  (sSeq (sFor (mIter (mVar 1)) (gTp 3 (gsCons (gNm fl_l_numbers 6) (gsCons (gNm fl_l_numbers 7) (gsCons (gNm fl_l_numbers 8) gsNil)))) (m_l_numbers_b1 K A))
  (sSeq (sFor (mRange1 (mCons (mC (.int 6)) mNil)) (gNm fl_l_numbers 5) (m_l_numbers_b2 K A))
  (sRet (mVar 3)))))))
def fn_l_numbers (K : PySem.W.Frag) (A : Ad) : Fn := runF 9 fl_l_numbers (m_l_numbers K A)
abbrev fl__is_below : List Bool := [false, false]
def m__is_below (K : PySem.W.Frag) (A : Ad) : MS := (sRet (mAndV (mCallB (f2 (isi K [A.Marking])) (mCons (mVar 0) (mCons (mC (.ty "int")) mNil))) (mAndV (mNotV (mCallB (f2 (isi K [A.Marking])) (mCons (mVar 0) (mCons (mC (.ty "bool")) mNil)))) (mChain cLe cLt (mC (.int 0)) (mVar 0) (mVar 1)))))
def fn__is_below (K : PySem.W.Frag) (A : Ad) : Fn := runF 2 fl__is_below (m__is_below K A)
abbrev fl_Marking_key_of : List Bool := [false, false]
def m_Marking_key_of_b1 (K : PySem.W.Frag) (A : Ad) : MS := (sSeq (sAug fl_Marking_key_of 2 (gOr aAdd aCatS) (mVar 4))
  (sIf (mBl (mOp cLt (mVar 1) (mVar 2)))
  (sRet (mVar 3))
  sNil))
def m_Marking_key_of (K : PySem.W.Frag) (A : Ad) : MS := (sSeq (sIf (mNot (mTru (mCall fl__is_below (fn__is_below K A) (mCons (mVar 1) (mCons (mFld [A.Marking] "whole" (mVar 0)) mNil)))))
  sBad
  sNil)
  (sSeq (sSet fl_Marking_key_of 2 (mC (.int 0)))
  (sSeq (sFor (mEnum (mCons (mFld [A.Marking] "entries" (mVar 0)) mNil)) (gTp 2 (gsCons (gNm fl_Marking_key_of 3) (gsCons (gTp 3 (gsCons (gNm fl_Marking_key_of 4) (gsCons (gNm fl_Marking_key_of 5) (gsCons (gNm fl_Marking_key_of 6) gsNil)))) gsNil))) (m_Marking_key_of_b1 K A))
  (sRet (mOp aSub (mCallB (f1 lenD) (mCons (mFld [A.Marking] "entries" (mVar 0)) mNil)) (mC (.int 1)))))))
def fn_Marking_key_of (K : PySem.W.Frag) (A : Ad) : Fn := runF 7 fl_Marking_key_of (m_Marking_key_of K A)
abbrev fl_l_integer : List Bool := [false]
def m_l_integer (K : PySem.W.Frag) (A : Ad) : MS := (sRet (mAndV (mCallB (f2 (isi K [A.Marking])) (mCons (mVar 0) (mCons (mC (.ty "int")) mNil))) (mNotV (mCallB (f2 (isi K [A.Marking])) (mCons (mVar 0) (mCons (mC (.ty "bool")) mNil))))))
def fn_l_integer (K : PySem.W.Frag) (A : Ad) : Fn := runF 1 fl_l_integer (m_l_integer K A)
abbrev fl_l_at : List Bool := [false, false]
def m_l_at_b1 (K : PySem.W.Frag) (A : Ad) : MS := (sSeq (sIf (mBl (mOp cLt (mVar 1) (mOp (mkK ixW) (mOp (mkK ixW) (mVar 0) (mVar 2)) (mC (.int 0)))))
  (sRet (mVar 2))
  sNil)
  (sSet fl_l_at 1 (mOp aSub (mVar 1) (mOp (mkK ixW) (mOp (mkK ixW) (mVar 0) (mVar 2)) (mC (.int 0))))))
def m_l_at (K : PySem.W.Frag) (A : Ad) : MS := (sSeq (sFor (mRange1 (mCons (mCallB (f1 lenD) (mCons (mVar 0) mNil)) mNil)) (gNm fl_l_at 2) (m_l_at_b1 K A))
  (sRet (mOp aSub (mC (.int 0)) (mC (.int 1)))))
def fn_l_at (K : PySem.W.Frag) (A : Ad) : Fn := runF 3 fl_l_at (m_l_at K A)
abbrev fl_l_keys_are : List Bool := [false, false, false]
def m_l_keys_are_b1 (K : PySem.W.Frag) (A : Ad) : MS := (sSeq (sSet fl_l_keys_are 4 (mMeth (dOne A.Marking fl_Marking_key_of (fn_Marking_key_of K A)) "key_of" (mVar 0) (mCons (mVar 3) mNil)))
  (sIf (mOr (mNot (mTru (mCall fl_l_integer (fn_l_integer K A) (mCons (mVar 4) mNil)))) (mBl (mOp cNeS (mVar 4) (mCall fl_l_at (fn_l_at K A) (mCons (mVar 1) (mCons (mVar 3) mNil))))))
  (sRet (mC (.bl false)))
  sNil))
def m_l_keys_are (K : PySem.W.Frag) (A : Ad) : MS := (sSeq (sFor (mIter (mVar 2)) (gNm fl_l_keys_are 3) (m_l_keys_are_b1 K A))
  (sRet (mC (.bl true))))
def fn_l_keys_are (K : PySem.W.Frag) (A : Ad) : Fn := runF 5 fl_l_keys_are (m_l_keys_are K A)
abbrev fl_Marking_accuses : List Bool := [false, false, false]
def m_Marking_accuses (K : PySem.W.Frag) (A : Ad) : MS := (sSeq (sIf (mNot (mTru (mCall fl__is_below (fn__is_below K A) (mCons (mVar 1) (mCons (mCallB (f1 lenD) (mCons (mFld [A.Marking] "entries" (mVar 0)) mNil)) mNil)))))
  sBad
  sNil)
  (sRet (mOp cInU (mVar 2) (mOp (mkK ixW) (mOp (mkK ixW) (mFld [A.Marking] "entries" (mVar 0)) (mVar 1)) (mC (.int 2))))))
def fn_Marking_accuses (K : PySem.W.Frag) (A : Ad) : Fn := runF 3 fl_Marking_accuses (m_Marking_accuses K A)
abbrev fl_Marking_write : List Bool := [false, false]
def m_Marking_write (K : PySem.W.Frag) (A : Ad) : MS := (sSeq (sIf (mNot (mTru (mCall fl__is_below (fn__is_below K A) (mCons (mVar 1) (mCons (mCallB (f1 lenD) (mCons (mFld [A.Marking] "entries" (mVar 0)) mNil)) mNil)))))
  sBad
  sNil)
  (sRet (mOp (mkK ixW) (mOp (mkK ixW) (mFld [A.Marking] "entries" (mVar 0)) (mVar 1)) (mC (.int 1)))))
def fn_Marking_write (K : PySem.W.Frag) (A : Ad) : Fn := runF 2 fl_Marking_write (m_Marking_write K A)
abbrev fl_l_counted : List Bool := [false, false, false, false]
def m_l_counted_b1 (K : PySem.W.Frag) (A : Ad) : MS := (sSeq (sSet fl_l_counted 8 (mMeth (dOne A.Marking fl_Marking_key_of (fn_Marking_key_of K A)) "key_of" (mVar 0) (mCons (mVar 7) mNil)))
  (sSeq (sIf (mBl (mOp cEqS (mMeth (dOne A.Marking fl_Marking_write (fn_Marking_write K A)) "write" (mVar 0) (mCons (mVar 8) mNil)) (mVar 4)))
  (sSet fl_l_counted 5 (mOp aAddU (mVar 5) (mC (.int 1))))
  sNil)
  (sIf (mTru (mMeth (dOne A.Marking fl_Marking_accuses (fn_Marking_accuses K A)) "accuses" (mVar 0) (mCons (mVar 8) (mCons (mVar 4) mNil))))
  (sSet fl_l_counted 6 (mOp aAddU (mVar 6) (mC (.int 1))))
  sNil)))
def fo_l_counted_2 (K : PySem.W.Frag) (A : Ad) : List Bool := [true, true, true, true, true, true, true, true, true, false]
def m_l_counted_e3 (K : PySem.W.Frag) (A : Ad) : M R := (mOp (mkK ixW) (mVar 9) (mC (.int 0)))
def fo_l_counted_4 (K : PySem.W.Frag) (A : Ad) : List Bool := [true, true, true, true, true, true, true, true, true, false]
def m_l_counted_e5 (K : PySem.W.Frag) (A : Ad) : M R := (mOp (mkK ixW) (mVar 9) (mC (.int 0)))
def m_l_counted_b6 (K : PySem.W.Frag) (A : Ad) : MS := (sSeq (sSet fl_l_counted 5 (mC (.int 0)))
  (sSeq (sSet fl_l_counted 6 (mC (.int 0)))
  (sSeq (sFor (mRange1 (mCons (mCallB (f2 minD) (mCons (mVar 3) (mCons (mC (.int 40)) mNil))) mNil)) (gNm fl_l_counted 7) (m_l_counted_b1 K A))
  (sSeq (sIf (mBl (mOp cNeS (mVar 5) (mCallB (f1 sumD) (mCons (mLc true (fo_l_counted_2 K A) [9] (mIter (mVar 1)) (gNm (fo_l_counted_2 K A) 9) (mBl (mOp cEqS (mOp (mkK ixW) (mVar 9) (mC (.int 1))) (mVar 4))) (m_l_counted_e3 K A)) mNil))))
  (sRet (mC (.bl false)))
  sNil)
  (sIf (mBl (mOp cNeS (mVar 6) (mCallB (f1 sumD) (mCons (mLc true (fo_l_counted_4 K A) [9] (mIter (mVar 1)) (gNm (fo_l_counted_4 K A) 9) (mBl (mOp cInU (mVar 4) (mOp (mkK ixW) (mVar 9) (mC (.int 2))))) (m_l_counted_e5 K A)) mNil))))
  (sRet (mC (.bl false)))
  sNil)))))
def m_l_counted (K : PySem.W.Frag) (A : Ad) : MS := (sSeq (sFor (mIter (mSl (mVar 2) pNone (pSome (mC (.int 4))))) (gNm fl_l_counted 4) (m_l_counted_b6 K A))
  (sRet (mC (.bl true))))
def fn_l_counted (K : PySem.W.Frag) (A : Ad) : Fn := runF 10 fl_l_counted (m_l_counted K A)
abbrev fl_l_body : List Bool := [false]
def fo_l_body_1 (K : PySem.W.Frag) (A : Ad) : List Bool := [true, true, true, true, true, true, true, true, false, true]
def m_l_body_e2 (K : PySem.W.Frag) (A : Ad) : M R := (mLstW (mCons (mOp (mkK ixW) (mVar 8) (mC (.int 0))) (mCons (mOp (mkK ixW) (mVar 8) (mC (.int 1))) (mCons (mCallB bList (mCons (mOp (mkK ixW) (mVar 8) (mC (.int 2))) mNil)) mNil))))
def fo_l_body_3 (K : PySem.W.Frag) (A : Ad) : List Bool := [true, true, true, true, true, true, true, true, false, true]
def m_l_body_e4 (K : PySem.W.Frag) (A : Ad) : M R := (mOp (mkK ixW) (mVar 8) (mC (.int 0)))
def fo_l_body_5 (K : PySem.W.Frag) (A : Ad) : List Bool := [true, true, true, true, true, true, true, true, true, false]
def m_l_body_e6 (K : PySem.W.Frag) (A : Ad) : M R := (mOp (mkK ixW) (mVar 7) (mOp aSub (mOp aSub (mCallB (f1 lenD) (mCons (mVar 7) mNil)) (mC (.int 1))) (mVar 9)))
def m_l_body (K : PySem.W.Frag) (A : Ad) : MS := (sSeq (sSet fl_l_body 1 (mCall fl_l_start (fn_l_start K A) (mCons (mVar 0) mNil)))
  (sSeq (sSet fl_l_body 2 (mCall fl_l_pool (fn_l_pool K A) (mCons (mVar 1) mNil)))
  (sSeq (sSet fl_l_body 3 (mCall fl_l_entries (fn_l_entries K A) (mCons (mVar 1) (mCons (mVar 2) mNil))))
  (sSeq (sSet fl_l_body 4 (mLc true (fo_l_body_1 K A) [8] (mIter (mVar 3)) (gNm (fo_l_body_1 K A) 8) mYes (m_l_body_e2 K A)))
  (sSeq (sSet fl_l_body 5 (mMakeL A.Marking [(false, true)] (fn_Marking_init K A) (mCons (mVar 4) mNil)))
  (sSeq (sSetP 4 (pIx 4 p0 (kC (.int 0))) (kC (.int 0)) (mOp aAddU (mPk (kIx (kIx (kVar 4) (kC (.int 0))) (kC (.int 0)))) (mC (.int 3))))
  (sSeq (sAppP 4 (pIx 4 (pIx 4 p0 (kOp (fun i j => .int (i - j)) (kLen (kVar 4)) (kC (.int 1)))) (kC (.int 2))) (mC (.str "later")))
  (sSeq (sExp (mBM "list" gAppend (mVar 4) (mCons (mLstW (mCons (mC (.int 2)) (mCons (mC (.str "other")) (mCons (mLstW mNil) mNil)))) mNil)))
  (sSeq (sSet fl_l_body 6 (mCallB (f1 sumD) (mCons (mLc true (fo_l_body_3 K A) [8] (mIter (mVar 3)) (gNm (fo_l_body_3 K A) 8) mYes (m_l_body_e4 K A)) mNil)))
  (sSeq (sIf (mOr (mNot (mTru (mCall fl_l_integer (fn_l_integer K A) (mCons (mFld [A.Marking] "whole" (mVar 5)) mNil)))) (mBl (mOp cNeS (mFld [A.Marking] "whole" (mVar 5)) (mVar 6))))
  (sRet (mC (.bl false)))
  sNil)
  (sSeq (sSet fl_l_body 7 (mCall fl_l_numbers (fn_l_numbers K A) (mCons (mVar 1) (mCons (mVar 3) (mCons (mVar 6) mNil)))))
  (sSeq (sIf (mNot (mTru (mCall fl_l_keys_are (fn_l_keys_are K A) (mCons (mVar 5) (mCons (mVar 3) (mCons (mVar 7) mNil))))))
  (sRet (mC (.bl false)))
  sNil)
  (sSeq (sIf (mAnd (mBl (mOp cLe (mVar 6) (mC (.int 40)))) (mNot (mTru (mCall fl_l_counted (fn_l_counted K A) (mCons (mVar 5) (mCons (mVar 3) (mCons (mVar 2) (mCons (mVar 6) mNil))))))))
  (sRet (mC (.bl false)))
  sNil)
  (sRet (mCall fl_l_keys_are (fn_l_keys_are K A) (mCons (mVar 5) (mCons (mVar 3) (mCons (mLc true (fo_l_body_5 K A) [9] (mRange1 (mCons (mCallB (f1 lenD) (mCons (mVar 7) mNil)) mNil)) (gNm (fo_l_body_5 K A) 9) mYes (m_l_body_e6 K A)) mNil))))))))))))))))))
def fn_l_body (K : PySem.W.Frag) (A : Ad) : Fn := runF 10 fl_l_body (m_l_body K A)
abbrev fl_law : List Bool := [false]
def m_law (K : PySem.W.Frag) (A : Ad) : MS := (noX (sRet (mCall fl_l_body (fn_l_body K A) (mCons (mVar 0) mNil))))
def fn_law (K : PySem.W.Frag) (A : Ad) : Fn := runF 1 fl_law (m_law K A)
end L

namespace L
open PySem PySem.Spec PyProof.Rows L2 BV
structure Txt (K : PySem.W.Frag) (mg : Str → Option Value) (A : Ad) : Prop where
  z_abs : mg "abs" = none
  z_bool : mg "bool" = none
  z_enumerate : mg "enumerate" = none
  z_int : mg "int" = none
  z_isinstance : mg "isinstance" = none
  z_len : mg "len" = none
  z_list : mg "list" = none
  z_max : mg "max" = none
  z_min : mg "min" = none
  z_range : mg "range" = none
  z_sorted : mg "sorted" = none
  z_sum : mg "sum" = none
  z_tuple : mg "tuple" = none
  c_Marking : mg "Marking" = some (.ref A.Marking)
  cls_Marking : Cls K A.Marking
  isc_Marking : IsC K A.Marking
  na_Marking_entries : NoAttr K A.Marking "entries"
  na_Marking_whole : NoAttr K A.Marking "whole"
  t_l_start : DefAt K mg "_law_start" "_law_start" s_l_start ["_law_script"]
  t_l_draw : DefAt K mg "_law_draw" "_law_draw" s_l_draw ["_law_state", "_law_limit"]
  t_l_signs : DefAt K mg "_law_signs" "_law_signs" s_l_signs []
  t_l_text : DefAt K mg "_law_text" "_law_text" s_l_text ["_law_state", "_law_most"]
  t_l_texts : DefAt K mg "_law_texts" "_law_texts" s_l_texts ["_law_state", "_law_many", "_law_most"]
  t_l_pool : DefAt K mg "_law_pool" "_law_pool" s_l_pool ["_law_state"]
  t_l_wide : DefAt K mg "_law_wide" "_law_wide" s_l_wide ["_law_state"]
  t_l_weight : DefAt K mg "_law_weight" "_law_weight" s_l_weight ["_law_state", "_law_kind"]
  t_l_some : DefAt K mg "_law_some" "_law_some" s_l_some ["_law_state", "_law_pool_here", "_law_most"]
  t_l_entries : DefAt K mg "_law_entries" "_law_entries" s_l_entries ["_law_state", "_law_pool_here"]
  t_Marking_init : MakeAt K A.Marking "Marking.__init__" s_Marking_init ["self", "entries"]
  t_l_numbers : DefAt K mg "_law_numbers" "_law_numbers" s_l_numbers ["_law_state", "_law_entries_here", "_law_whole"]
  t__is_below : DefAt K mg "_is_below" "_is_below" s__is_below ["value", "many"]
  t_Marking_key_of : MethAt K A.Marking "key_of" "Marking.key_of" s_Marking_key_of ["self", "number"]
  t_l_integer : DefAt K mg "_law_integer" "_law_integer" s_l_integer ["_law_value"]
  t_l_at : DefAt K mg "_law_at" "_law_at" s_l_at ["_law_entries_here", "_law_number"]
  t_l_keys_are : DefAt K mg "_law_keys_are" "_law_keys_are" s_l_keys_are ["_law_marking", "_law_entries_here", "_law_numbers_here"]
  t_Marking_accuses : MethAt K A.Marking "accuses" "Marking.accuses" s_Marking_accuses ["self", "key", "text"]
  t_Marking_write : MethAt K A.Marking "write" "Marking.write" s_Marking_write ["self", "key"]
  t_l_counted : DefAt K mg "_law_counted" "_law_counted" s_l_counted ["_law_marking", "_law_entries_here", "_law_pool_here", "_law_whole"]
  t_l_body : DefAt K mg "_law_body" "_law_body" s_l_body ["_law_script"]
  t_law : LawAt K mg "law" "law" s_law "_law_script"
section
variable {P : Program} {w : World} {K : PySem.W.Frag} {mg : Str → Option Value} {base : Heap} {A : Ad}
theorem sc_l_start : FnScope ["_law_script"] ["_law_script"] (defScope s_l_start) := ⟨rfl, rfl, rfl, by decide +kernel, rfl, by decide +kernel, by decide +kernel⟩
theorem d_l_start (T : Txt K mg A) : DefOk P w K mg base 1 "_law_start" fl_l_start (fn_l_start K A) := T.t_l_start.ok fun f fd F => fn_bv F sc_l_start rfl fun cdv A0 outer s0 H0 E0 c =>
  (bss_one (bs_ret (be_lst (ba_cons (be_callTy call_list_of ok_list (by rfl) T.z_list PyProof.Rows.Boot.«list» (ba_cons (be_var 0) ba_nil)) (ba_cons be_int (ba_cons be_int (ba_cons be_int (ba_cons be_int ba_nil))))))))
theorem sc_l_draw : FnScope ["_law_state", "_law_limit", "_law_cell", "_law_got"] ["_law_state", "_law_limit"] (defScope s_l_draw) := ⟨rfl, rfl, rfl, by decide +kernel, rfl, by decide +kernel, by decide +kernel⟩
theorem d_l_draw (T : Txt K mg A) : DefOk P w K mg base 1 "_law_draw" fl_l_draw (fn_l_draw K A) := T.t_l_draw.ok fun f fd F => fn_bv F sc_l_draw rfl fun cdv A0 outer s0 H0 E0 c =>
  (bss_cons (bs_if (bt_cmp op_ltU ok_ltU (be_var 1) be_int (by rfl))
  (bss_one (bs_set (i := 1) c.nd rfl (.inl rfl) be_int))
  bss_nil)
  (bss_cons (bs_if (bw_and (bt_cmp op_eq ok_eqS (be_ix (be_var 0) be_int (fun _ _ => rfl)) be_int (by rfl)) (bw_and1 (bt_cmp op_ltU ok_ltU (be_ix (be_var 0) be_int (fun _ _ => rfl)) (be_callB call_len ok_len (by rfl) T.z_len PyProof.Rows.Boot.«len» (ba_cons (be_ix (be_var 0) be_int (fun _ _ => rfl)) ba_nil)) (by rfl)))).pt
  (bss_cons (bs_set (i := 2) c.nd rfl (.inl rfl) (be_callB call_abs ok_abs (by rfl) T.z_abs PyProof.Rows.Boot.«abs» (ba_cons (be_callTy call_int1 ok_int (by rfl) T.z_int PyProof.Rows.Boot.«int» (ba_cons (be_ix (be_ix (be_var 0) be_int (fun _ _ => rfl)) (be_ix (be_var 0) be_int (fun _ _ => rfl)) (fun _ _ => rfl)) ba_nil)) ba_nil)))
  (bss_cons (bs_setIx (i := 0) rfl (Or.inl rfl) (by decide) (by decide) be_int (be_op op_addU ok_addU (be_ix (be_var 0) be_int (fun _ _ => rfl)) be_int))
  (bss_cons (bs_setIx (i := 0) rfl (Or.inl rfl) (by decide) (by decide) be_int be_int)
  (bss_one (bs_if (bt_cmp op_geU ok_geU (be_var 2) (be_op op_pow ok_pow be_int be_int) (by rfl))
  (bss_cons (bs_setIx (i := 0) rfl (Or.inl rfl) (by decide) (by decide) be_int (be_var 2))
  (bss_one (bs_setIx (i := 0) rfl (Or.inl rfl) (by decide) (by decide) be_int be_int)))
  (bss_one (bs_setIx (i := 0) rfl (Or.inl rfl) (by decide) (by decide) be_int (be_op op_modN ok_mod (be_callTy call_int1 ok_int (by rfl) T.z_int PyProof.Rows.Boot.«int» (ba_cons (be_op op_addU ok_addU (be_op op_addU ok_addU (be_op op_mulW ok_mul (be_ix (be_var 0) be_int (fun _ _ => rfl)) be_int) (be_var 2)) (be_ix (be_var 0) be_int (fun _ _ => rfl))) ba_nil)) be_int))))))))
  bss_nil)
  (bss_cons (bs_if (bt_cmp op_gtU ok_gtU (be_ix (be_var 0) be_int (fun _ _ => rfl)) be_int (by rfl))
  (bss_cons (bs_set (i := 3) c.nd rfl (.inl rfl) (be_op op_modN ok_mod (be_callTy call_int1 ok_int (by rfl) T.z_int PyProof.Rows.Boot.«int» (ba_cons (be_ix (be_var 0) be_int (fun _ _ => rfl)) ba_nil)) (be_var 1)))
  (bss_cons (bs_setIx (i := 0) rfl (Or.inl rfl) (by decide) (by decide) be_int (be_op op_fdivX ok_div (be_ix (be_var 0) be_int (fun _ _ => rfl)) (be_var 1)))
  (bss_cons (bs_setIx (i := 0) rfl (Or.inl rfl) (by decide) (by decide) be_int (be_op op_sub ok_sub (be_ix (be_var 0) be_int (fun _ _ => rfl)) be_int))
  (bss_cons (bs_if (bw_or (bt_cmp op_eq ok_eqS (be_ix (be_var 0) be_int (fun _ _ => rfl)) be_int (by rfl)) (bw_or1 (bt_cmp op_eq ok_eqS (be_ix (be_var 0) be_int (fun _ _ => rfl)) be_int (by rfl)))).pt
  (bss_cons (bs_setIx (i := 0) rfl (Or.inl rfl) (by decide) (by decide) be_int be_int)
  (bss_one (bs_setIx (i := 0) rfl (Or.inl rfl) (by decide) (by decide) be_int be_int)))
  bss_nil)
  (bss_one (bs_ret (be_var 3)))))))
  bss_nil)
  (bss_cons (bs_setIx (i := 0) rfl (Or.inl rfl) (by decide) (by decide) be_int (be_callB (call_max2 c.calm) ok_max2 (by rfl) T.z_max PyProof.Rows.Boot.«max» (ba_cons be_int (ba_cons (be_op op_sub ok_sub (be_ix (be_var 0) be_int (fun _ _ => rfl)) be_int) ba_nil))))
  (bss_cons (bs_setIx (i := 0) rfl (Or.inl rfl) (by decide) (by decide) be_int (be_op op_modN ok_mod (be_callTy call_int1 ok_int (by rfl) T.z_int PyProof.Rows.Boot.«int» (ba_cons (be_op op_addU ok_addU (be_op op_mulW ok_mul (be_ix (be_var 0) be_int (fun _ _ => rfl)) be_int) be_int) ba_nil)) be_int))
  (bss_one (bs_ret (be_op op_modN ok_mod (be_callTy call_int1 ok_int (by rfl) T.z_int PyProof.Rows.Boot.«int» (ba_cons (be_op op_modN ok_mod (be_callTy call_int1 ok_int (by rfl) T.z_int PyProof.Rows.Boot.«int» (ba_cons (be_op op_addU ok_addU (be_op op_mulW ok_mul (be_ix (be_var 0) be_int (fun _ _ => rfl)) be_int) be_int) ba_nil)) be_int) ba_nil)) (be_var 1)))))))))
theorem sc_l_signs : FnScope [] [] (defScope s_l_signs) := ⟨rfl, rfl, rfl, by decide +kernel, rfl, by decide +kernel, by decide +kernel⟩
theorem d_l_signs (T : Txt K mg A) : DefOk P w K mg base 1 "_law_signs" fl_l_signs (fn_l_signs K A) := T.t_l_signs.ok fun f fd F => fn_bv F sc_l_signs rfl fun cdv A0 outer s0 H0 E0 c =>
  (bss_one (bs_ret be_str))
theorem sc_l_text : FnScope ["_law_state", "_law_most", "_law_kind", "_law_size", "_law_signs_here", "_law_text_here", "_law_k"] ["_law_state", "_law_most"] (defScope s_l_text) := ⟨rfl, rfl, rfl, by decide +kernel, rfl, by decide +kernel, by decide +kernel⟩
theorem d_l_text (T : Txt K mg A) : DefOk P w K mg base 2 "_law_text" fl_l_text (fn_l_text K A) := T.t_l_text.ok fun f fd F => fn_bv F sc_l_text rfl fun cdv A0 outer s0 H0 E0 c =>
  (bss_cons (bs_set (i := 2) c.nd rfl (.inl rfl) (be_callD c (d_l_draw T) (ba_cons (be_var 0) (ba_cons be_int ba_nil))))
  (bss_cons (bs_set (i := 3) c.nd rfl (.inl rfl) (be_callD c (d_l_draw T) (ba_cons (be_var 0) (ba_cons be_int ba_nil))))
  (bss_cons (bs_set (i := 4) c.nd rfl (.inl rfl) be_str)
  (bss_cons (bs_if (bt_cmp op_eq ok_eqS (be_var 2) be_int (by rfl))
  (bss_one (bs_set (i := 4) c.nd rfl (.inl rfl) be_str))
  bss_nil)
  (bss_cons (bs_if (bt_cmp op_eq ok_eqS (be_var 2) be_int (by rfl))
  (bss_cons (bs_set (i := 4) c.nd rfl (.inl rfl) (be_callD0 c (d_l_signs T)))
  (bss_one (bs_set (i := 3) c.nd rfl (.inl rfl) (be_callD c (d_l_draw T) (ba_cons (be_var 0) (ba_cons (be_op op_addU ok_addU (be_var 1) be_int) ba_nil))))))
  bss_nil)
  (bss_cons (bs_set (i := 5) c.nd rfl (.inl rfl) be_str)
  (bss_cons (bs_forr c (bi_range1 (by rfl) T.z_range (ba_cons (be_callB (call_min2 c.calm) ok_min2 (by rfl) T.z_min PyProof.Rows.Boot.«min» (ba_cons (be_var 3) (ba_cons (be_var 1) ba_nil))) ba_nil)) (bg_name (i := 6) c.nd rfl (.inl rfl))
  (bss_one (bs_set (i := 5) c.nd rfl (.inl rfl) (be_op op_addU ok_addU (be_var 5) (be_ix (be_var 4) (be_callD c (d_l_draw T) (ba_cons (be_var 0) (ba_cons (be_callB call_len ok_len (by rfl) T.z_len PyProof.Rows.Boot.«len» (ba_cons (be_var 4) ba_nil)) ba_nil))) (fun _ _ => rfl))))))
  (bss_one (bs_ret (be_var 5))))))))))
theorem sc_l_texts : FnScope ["_law_state", "_law_many", "_law_most", "_law_one_place", "_law_base", "_law_place", "_law_found", "_law_k", "_law_text_here"] ["_law_state", "_law_many", "_law_most"] (defScope s_l_texts) := ⟨rfl, rfl, rfl, by decide +kernel, rfl, by decide +kernel, by decide +kernel⟩
theorem d_l_texts (T : Txt K mg A) : DefOk P w K mg base 3 "_law_texts" fl_l_texts (fn_l_texts K A) := T.t_l_texts.ok fun f fd F => fn_bv F sc_l_texts rfl fun cdv A0 outer s0 H0 E0 c =>
  (bss_cons (bs_set (i := 3) c.nd rfl (.inl rfl) (be_cmp op_eq ok_eqS (be_callD c (d_l_draw T) (ba_cons (be_var 0) (ba_cons be_int ba_nil))) be_int (by rfl)))
  (bss_cons (bs_set (i := 4) c.nd rfl (.inl rfl) (be_callD c (d_l_text T) (ba_cons (be_var 0) (ba_cons (be_op op_sub ok_sub (be_var 2) be_int) ba_nil))))
  (bss_cons (bs_set (i := 5) c.nd rfl (.inl rfl) (be_callD c (d_l_draw T) (ba_cons (be_var 0) (ba_cons (be_op op_addU ok_addU (be_callB call_len ok_len (by rfl) T.z_len PyProof.Rows.Boot.«len» (ba_cons (be_var 4) ba_nil)) be_int) ba_nil))))
  (bss_cons (bs_set (i := 6) c.nd rfl (.inl rfl) (be_lst ba_nil))
  (bss_cons (bs_forr c (bi_range1 (by rfl) T.z_range (ba_cons (be_var 1) ba_nil)) (bg_name (i := 7) c.nd rfl (.inl rfl))
  (bss_cons (bs_if (bt_tru (be_var 3))
  (bss_one (bs_set (i := 8) c.nd rfl (.inl rfl) (be_op op_addU ok_addU (be_op op_addU ok_addU (be_slice (be_var 4) bo_none (bo_some (be_var 5))) (be_ix (be_callD0 c (d_l_signs T)) (be_callD c (d_l_draw T) (ba_cons (be_var 0) (ba_cons be_int ba_nil))) (fun _ _ => rfl))) (be_slice (be_var 4) (bo_some (be_op op_addU ok_addU (be_var 5) be_int)) bo_none))))
  (bss_one (bs_set (i := 8) c.nd rfl (.inl rfl) (be_callD c (d_l_text T) (ba_cons (be_var 0) (ba_cons (be_var 2) ba_nil))))))
  (bss_one (bs_if (bt_cmp op_ninU ok_ninU (be_var 8) (be_var 6) (by rfl))
  (bss_one (bs_expr (be_bm (by decide) PySem.F.plainAttrs_list PySem.F.slot_list_append PySem.F.type_list_append mt_append ok_append (be_var 6) (ba_cons (be_var 8) ba_nil))))
  bss_nil))))
  (bss_one (bs_ret (be_var 6))))))))
theorem sc_l_pool : FnScope ["_law_state", "_law_many"] ["_law_state"] (defScope s_l_pool) := ⟨rfl, rfl, rfl, by decide +kernel, rfl, by decide +kernel, by decide +kernel⟩
theorem d_l_pool (T : Txt K mg A) : DefOk P w K mg base 4 "_law_pool" fl_l_pool (fn_l_pool K A) := T.t_l_pool.ok fun f fd F => fn_bv F sc_l_pool rfl fun cdv A0 outer s0 H0 E0 c =>
  (bss_cons (bs_set (i := 1) c.nd rfl (.inl rfl) (be_op op_addU ok_addU be_int (be_callD c (d_l_draw T) (ba_cons (be_var 0) (ba_cons be_int ba_nil)))))
  (bss_cons (bs_if (bt_cmp op_eq ok_eqS (be_callD c (d_l_draw T) (ba_cons (be_var 0) (ba_cons be_int ba_nil))) be_int (by rfl))
  (bss_one (bs_set (i := 1) c.nd rfl (.inl rfl) (be_op op_addU ok_addU be_int (be_callD c (d_l_draw T) (ba_cons (be_var 0) (ba_cons be_int ba_nil))))))
  bss_nil)
  (bss_one (bs_ret (be_callD c (d_l_texts T) (ba_cons (be_var 0) (ba_cons (be_var 1) (ba_cons be_int ba_nil))))))))
theorem sc_l_wide : FnScope ["_law_state", "_law_number", "_law_k", "_law_limit"] ["_law_state"] (defScope s_l_wide) := ⟨rfl, rfl, rfl, by decide +kernel, rfl, by decide +kernel, by decide +kernel⟩
theorem d_l_wide (T : Txt K mg A) : DefOk P w K mg base 2 "_law_wide" fl_l_wide (fn_l_wide K A) := T.t_l_wide.ok fun f fd F => fn_bv F sc_l_wide rfl fun cdv A0 outer s0 H0 E0 c =>
  (bss_cons (bs_set (i := 1) c.nd rfl (.inl rfl) be_int)
  (bss_cons (bs_forr c (bi_range1 (by rfl) T.z_range (ba_cons be_int ba_nil)) (bg_name (i := 2) c.nd rfl (.inl rfl))
  (bss_one (bs_set (i := 1) c.nd rfl (.inl rfl) (be_op op_addU ok_addU (be_op op_mulW ok_mul (be_var 1) (be_op op_pow ok_pow be_int be_int)) (be_callD c (d_l_draw T) (ba_cons (be_var 0) (ba_cons (be_op op_pow ok_pow be_int be_int) ba_nil)))))))
  (bss_cons (bs_set (i := 3) c.nd rfl (.inl rfl) be_int)
  (bss_cons (bs_forr c (bi_range1 (by rfl) T.z_range (ba_cons (be_callD c (d_l_draw T) (ba_cons (be_var 0) (ba_cons be_int ba_nil))) ba_nil)) (bg_name (i := 2) c.nd rfl (.inl rfl))
  (bss_one (bs_set (i := 3) c.nd rfl (.inl rfl) (be_op op_mulW ok_mul (be_var 3) be_int))))
  (bss_one (bs_ret (be_op op_modN ok_mod (be_callTy call_int1 ok_int (by rfl) T.z_int PyProof.Rows.Boot.«int» (ba_cons (be_var 1) ba_nil)) (be_var 3))))))))
theorem sc_l_weight : FnScope ["_law_state", "_law_kind"] ["_law_state", "_law_kind"] (defScope s_l_weight) := ⟨rfl, rfl, rfl, by decide +kernel, rfl, by decide +kernel, by decide +kernel⟩
theorem d_l_weight (T : Txt K mg A) : DefOk P w K mg base 3 "_law_weight" fl_l_weight (fn_l_weight K A) := T.t_l_weight.ok fun f fd F => fn_bv F sc_l_weight rfl fun cdv A0 outer s0 H0 E0 c =>
  (bss_cons (bs_if (bt_cmp op_ltU ok_ltU (be_var 1) be_int (by rfl))
  (bss_one (bs_ret (be_op op_addU ok_addU be_int (be_callD c (d_l_draw T) (ba_cons (be_var 0) (ba_cons be_int ba_nil))))))
  bss_nil)
  (bss_cons (bs_if (bt_cmp op_ltU ok_ltU (be_var 1) be_int (by rfl))
  (bss_one (bs_ret (be_op op_addU ok_addU be_int (be_callD c (d_l_draw T) (ba_cons (be_var 0) (ba_cons be_int ba_nil))))))
  bss_nil)
  (bss_cons (bs_if (bt_cmp op_eq ok_eqS (be_var 1) be_int (by rfl))
  (bss_one (bs_ret (be_op op_addU ok_addU be_int (be_op op_mulW ok_mul be_int (be_callD c (d_l_draw T) (ba_cons (be_var 0) (ba_cons be_int ba_nil)))))))
  bss_nil)
  (bss_one (bs_ret (be_callB (call_max2 c.calm) ok_max2 (by rfl) T.z_max PyProof.Rows.Boot.«max» (ba_cons be_int (ba_cons (be_callD c (d_l_wide T) (ba_cons (be_var 0) ba_nil)) ba_nil))))))))
theorem sc_l_some : FnScope ["_law_state", "_law_pool_here", "_law_most", "_law_found", "_law_k", "_law_text_here"] ["_law_state", "_law_pool_here", "_law_most"] (defScope s_l_some) := ⟨rfl, rfl, rfl, by decide +kernel, rfl, by decide +kernel, by decide +kernel⟩
theorem d_l_some (T : Txt K mg A) : DefOk P w K mg base 2 "_law_some" fl_l_some (fn_l_some K A) := T.t_l_some.ok fun f fd F => fn_bv F sc_l_some rfl fun cdv A0 outer s0 H0 E0 c =>
  (bss_cons (bs_set (i := 3) c.nd rfl (.inl rfl) (be_lst ba_nil))
  (bss_cons (bs_forr c (bi_range1 (by rfl) T.z_range (ba_cons (be_callD c (d_l_draw T) (ba_cons (be_var 0) (ba_cons (be_op op_addU ok_addU (be_var 2) be_int) ba_nil))) ba_nil)) (bg_name (i := 4) c.nd rfl (.inl rfl))
  (bss_cons (bs_set (i := 5) c.nd rfl (.inl rfl) (be_ix (be_var 1) (be_callD c (d_l_draw T) (ba_cons (be_var 0) (ba_cons (be_callB call_len ok_len (by rfl) T.z_len PyProof.Rows.Boot.«len» (ba_cons (be_var 1) ba_nil)) ba_nil))) (fun _ _ => rfl)))
  (bss_one (bs_if (bt_cmp op_ninU ok_ninU (be_var 5) (be_var 3) (by rfl))
  (bss_one (bs_expr (be_bm (by decide) PySem.F.plainAttrs_list PySem.F.slot_list_append PySem.F.type_list_append mt_append ok_append (be_var 3) (ba_cons (be_var 5) ba_nil))))
  bss_nil))))
  (bss_one (bs_ret (be_var 3)))))
theorem sc_l_entries : FnScope ["_law_state", "_law_pool_here", "_law_many", "_law_kind", "_law_most", "_law_entries_here", "_law_k", "_law_text_here"] ["_law_state", "_law_pool_here"] (defScope s_l_entries) := ⟨rfl, rfl, rfl, by decide +kernel, rfl, by decide +kernel, by decide +kernel⟩
theorem d_l_entries (T : Txt K mg A) : DefOk P w K mg base 4 "_law_entries" fl_l_entries (fn_l_entries K A) := T.t_l_entries.ok fun f fd F => fn_bv F sc_l_entries rfl fun cdv A0 outer s0 H0 E0 c =>
  (bss_cons (bs_set (i := 2) c.nd rfl (.inl rfl) (be_op op_addU ok_addU be_int (be_callD c (d_l_draw T) (ba_cons (be_var 0) (ba_cons be_int ba_nil)))))
  (bss_cons (bs_if (bt_cmp op_eq ok_eqS (be_callD c (d_l_draw T) (ba_cons (be_var 0) (ba_cons be_int ba_nil))) be_int (by rfl))
  (bss_one (bs_set (i := 2) c.nd rfl (.inl rfl) (be_op op_addU ok_addU be_int (be_callD c (d_l_draw T) (ba_cons (be_var 0) (ba_cons be_int ba_nil))))))
  bss_nil)
  (bss_cons (bs_set (i := 3) c.nd rfl (.inl rfl) (be_callD c (d_l_draw T) (ba_cons (be_var 0) (ba_cons be_int ba_nil))))
  (bss_cons (bs_set (i := 4) c.nd rfl (.inl rfl) (be_ix (be_lst (ba_cons be_int (ba_cons be_int (ba_cons (be_callB call_len ok_len (by rfl) T.z_len PyProof.Rows.Boot.«len» (ba_cons (be_var 1) ba_nil)) ba_nil)))) (be_callD c (d_l_draw T) (ba_cons (be_var 0) (ba_cons be_int ba_nil))) (fun _ _ => rfl)))
  (bss_cons (bs_set (i := 5) c.nd rfl (.inl rfl) (be_lst ba_nil))
  (bss_cons (bs_forr c (bi_range1 (by rfl) T.z_range (ba_cons (be_var 2) ba_nil)) (bg_name (i := 6) c.nd rfl (.inl rfl))
  (bss_cons (bs_set (i := 7) c.nd rfl (.inl rfl) (be_ix (be_var 1) (be_callD c (d_l_draw T) (ba_cons (be_var 0) (ba_cons (be_callB call_len ok_len (by rfl) T.z_len PyProof.Rows.Boot.«len» (ba_cons (be_var 1) ba_nil)) ba_nil))) (fun _ _ => rfl)))
  (bss_one (bs_expr (be_bm (by decide) PySem.F.plainAttrs_list PySem.F.slot_list_append PySem.F.type_list_append mt_append ok_append (be_var 5) (ba_cons (be_tup (ba_cons (be_callD c (d_l_weight T) (ba_cons (be_var 0) (ba_cons (be_var 3) ba_nil))) (ba_cons (be_var 7) (ba_cons (be_callD c (d_l_some T) (ba_cons (be_var 0) (ba_cons (be_var 1) (ba_cons (be_var 4) ba_nil)))) ba_nil)))) ba_nil))))))
  (bss_one (bs_ret (be_var 5)))))))))
theorem sc_Marking_init : FnScope ["self", "entries", "kept", "whole", "at", "weight", "text", "accused"] ["self", "entries"] (defScope s_Marking_init) := ⟨rfl, rfl, rfl, by decide +kernel, rfl, by decide +kernel, by decide +kernel⟩
theorem d_Marking_init (T : Txt K mg A) : MakeOk P w K mg base 1 A.Marking [false] (fn_Marking_init K A) := T.t_Marking_init.ok fun f fd F => fn_bv F sc_Marking_init rfl fun cdv A0 outer s0 H0 E0 c =>
  (bss_cons (bs_set (i := 2) c.nd rfl (.inl rfl) (be_lst ba_nil))
  (bss_cons (bs_set (i := 3) c.nd rfl (.inl rfl) be_int)
  (bss_cons (bs_forr c (bi_enum (by rfl) T.z_enumerate (ba_cons (be_var 1) ba_nil)) (bg_tup c.calm (bgs_cons (bg_name (i := 4) c.nd rfl (.inl rfl)) (bgs_cons (bg_tup c.calm (bgs_cons (bg_name (i := 5) c.nd rfl (.inl rfl)) (bgs_cons (bg_name (i := 6) c.nd rfl (.inl rfl)) (bgs_cons (bg_name (i := 7) c.nd rfl (.inl rfl)) bgs_nil)))) bgs_nil)))
  (bss_cons (bs_if (bw_or (bt_not (bt_tru (be_callB call_isi (ok_isi [A.Marking] (one_cls T.isc_Marking)) (by rfl) T.z_isinstance PyProof.Rows.Boot.«isinstance» (ba_cons (be_var 5) (ba_cons (be_ty (by rfl) T.z_int PyProof.Rows.Boot.«int») ba_nil))))) (bw_or (bt_tru (be_callB call_isi (ok_isi [A.Marking] (one_cls T.isc_Marking)) (by rfl) T.z_isinstance PyProof.Rows.Boot.«isinstance» (ba_cons (be_var 5) (ba_cons (be_ty (by rfl) T.z_bool PyProof.Rows.Boot.«bool») ba_nil)))) (bw_or1 (bt_cmp op_ltU ok_ltU (be_var 5) be_int (by rfl))))).pt
  (bss_one bs_bad)
  bss_nil)
  (bss_cons (bs_expr (be_bm (by decide) PySem.F.plainAttrs_list PySem.F.slot_list_append PySem.F.type_list_append mt_append ok_append (be_var 2) (ba_cons (be_tup (ba_cons (be_var 5) (ba_cons (be_var 6) (ba_cons (be_callTy call_tuple_of ok_tuple (by rfl) T.z_tuple PyProof.Rows.Boot.«tuple» (ba_cons (be_callB cr_sortedS ok_sorted (by rfl) T.z_sorted PyProof.Rows.Boot.«sorted» (ba_cons (be_var 7) ba_nil)) ba_nil)) ba_nil)))) ba_nil)))
  (bss_one (bs_aug (i := 3) c.nd rfl (.inl rfl) iop_addU ok_iaddU (be_var 5))))))
  (bss_cons (bs_fld [A.Marking] (one_cls ⟨T.cls_Marking, T.na_Marking_entries⟩) (i := 0) rfl (Or.inl rfl) (by decide) (by decide) (be_callTy call_tuple_of ok_tuple (by rfl) T.z_tuple PyProof.Rows.Boot.«tuple» (ba_cons (be_var 2) ba_nil)))
  (bss_one (bs_fld [A.Marking] (one_cls ⟨T.cls_Marking, T.na_Marking_whole⟩) (i := 0) rfl (Or.inl rfl) (by decide) (by decide) (be_var 3)))))))
theorem sc_l_numbers : FnScope ["_law_state", "_law_entries_here", "_law_whole", "_law_numbers_here", "_law_first", "_law_k", "_law_weight_here", "_law_text_here", "_law_accused"] ["_law_state", "_law_entries_here", "_law_whole"] (defScope s_l_numbers) := ⟨rfl, rfl, rfl, by decide +kernel, rfl, by decide +kernel, by decide +kernel⟩
theorem d_l_numbers (T : Txt K mg A) : DefOk P w K mg base 3 "_law_numbers" fl_l_numbers (fn_l_numbers K A) := T.t_l_numbers.ok fun f fd F => fn_bv F sc_l_numbers rfl fun cdv A0 outer s0 H0 E0 c =>
  (bss_cons (bs_if (bt_cmp op_leU ok_leU (be_var 2) be_int (by rfl))
  (bss_one (bs_ret (be_listR1 c T.z_list T.z_range (be_var 2))))
  bss_nil)
  (bss_cons (bs_set (i := 3) c.nd rfl (.inl rfl) (be_lst ba_nil))
  (bss_cons (bs_set (i := 4) c.nd rfl (.inl rfl) be_int)
  (bss_cons (bs_forr c (bi_seq (be_var 1)) (bg_tup c.calm (bgs_cons (bg_name (i := 6) c.nd rfl (.inl rfl)) (bgs_cons (bg_name (i := 7) c.nd rfl (.inl rfl)) (bgs_cons (bg_name (i := 8) c.nd rfl (.inl rfl)) bgs_nil))))
  (bss_cons (bs_expr (be_bm (by decide) PySem.F.plainAttrs_list PySem.F.slot_list_append PySem.F.type_list_append mt_append ok_append (be_var 3) (ba_cons (be_var 4) ba_nil)))
  (bss_cons (bs_expr (be_bm (by decide) PySem.F.plainAttrs_list PySem.F.slot_list_append PySem.F.type_list_append mt_append ok_append (be_var 3) (ba_cons (be_op op_sub ok_sub (be_op op_addU ok_addU (be_var 4) (be_var 6)) be_int) ba_nil)))
  (bss_one (bs_set (i := 4) c.nd rfl (.inl rfl) (be_op op_addU ok_addU (be_var 4) (be_var 6)))))))
  (bss_cons (bs_forr c (bi_range1 (by rfl) T.z_range (ba_cons be_int ba_nil)) (bg_name (i := 5) c.nd rfl (.inl rfl))
  (bss_one (bs_expr (be_bm (by decide) PySem.F.plainAttrs_list PySem.F.slot_list_append PySem.F.type_list_append mt_append ok_append (be_var 3) (ba_cons (be_op op_modN ok_mod (be_callTy call_int1 ok_int (by rfl) T.z_int PyProof.Rows.Boot.«int» (ba_cons (be_callD c (d_l_wide T) (ba_cons (be_var 0) ba_nil)) ba_nil)) (be_var 2)) ba_nil)))))
  (bss_one (bs_ret (be_var 3))))))))
theorem sc__is_below : FnScope ["value", "many"] ["value", "many"] (defScope s__is_below) := ⟨rfl, rfl, rfl, by decide +kernel, rfl, by decide +kernel, by decide +kernel⟩
theorem d__is_below (T : Txt K mg A) : DefOk P w K mg base 1 "_is_below" fl__is_below (fn__is_below K A) := T.t__is_below.ok fun f fd F => fn_bv F sc__is_below rfl fun cdv A0 outer s0 H0 E0 c =>
  (bss_one (bs_ret (be_and (be_callB call_isi (ok_isi [A.Marking] (one_cls T.isc_Marking)) (by rfl) T.z_isinstance PyProof.Rows.Boot.«isinstance» (ba_cons (be_var 0) (ba_cons (be_ty (by rfl) T.z_int PyProof.Rows.Boot.«int») ba_nil))) (be_and (be_not (be_callB call_isi (ok_isi [A.Marking] (one_cls T.isc_Marking)) (by rfl) T.z_isinstance PyProof.Rows.Boot.«isinstance» (ba_cons (be_var 0) (ba_cons (be_ty (by rfl) T.z_bool PyProof.Rows.Boot.«bool») ba_nil)))) (be_one (be_chainD op_leU ok_leU op_ltU ok_ltU be_int (be_var 0) (be_var 1)))))))
theorem sc_Marking_key_of : FnScope ["self", "number", "behind", "at", "weight", "text", "accused"] ["self", "number"] (defScope s_Marking_key_of) := ⟨rfl, rfl, rfl, by decide +kernel, rfl, by decide +kernel, by decide +kernel⟩
theorem d_Marking_key_of (T : Txt K mg A) : MetOk P w K mg base 2 A.Marking "key_of" fl_Marking_key_of (fn_Marking_key_of K A) := T.t_Marking_key_of.ok T.cls_Marking fun f fd F => fn_bv F sc_Marking_key_of rfl fun cdv A0 outer s0 H0 E0 c =>
  (bss_cons (bs_if (bt_not (bt_tru (be_callD c (d__is_below T) (ba_cons (be_var 1) (ba_cons (be_fld [A.Marking] (one_cls ⟨T.cls_Marking, T.na_Marking_whole⟩) (be_var 0) (by rfl)) ba_nil)))))
  (bss_one bs_bad)
  bss_nil)
  (bss_cons (bs_set (i := 2) c.nd rfl (.inl rfl) be_int)
  (bss_cons (bs_forr c (bi_enum (by rfl) T.z_enumerate (ba_cons (be_fld [A.Marking] (one_cls ⟨T.cls_Marking, T.na_Marking_entries⟩) (be_var 0) (by rfl)) ba_nil)) (bg_tup c.calm (bgs_cons (bg_name (i := 3) c.nd rfl (.inl rfl)) (bgs_cons (bg_tup c.calm (bgs_cons (bg_name (i := 4) c.nd rfl (.inl rfl)) (bgs_cons (bg_name (i := 5) c.nd rfl (.inl rfl)) (bgs_cons (bg_name (i := 6) c.nd rfl (.inl rfl)) bgs_nil)))) bgs_nil)))
  (bss_cons (bs_aug (i := 2) c.nd rfl (.inl rfl) iop_addU ok_iaddU (be_var 4))
  (bss_one (bs_if (bt_cmp op_ltU ok_ltU (be_var 1) (be_var 2) (by rfl))
  (bss_one (bs_ret (be_var 3)))
  bss_nil))))
  (bss_one (bs_ret (be_op op_sub ok_sub (be_callB call_len ok_len (by rfl) T.z_len PyProof.Rows.Boot.«len» (ba_cons (be_fld [A.Marking] (one_cls ⟨T.cls_Marking, T.na_Marking_entries⟩) (be_var 0) (by rfl)) ba_nil)) be_int))))))
theorem sc_l_integer : FnScope ["_law_value"] ["_law_value"] (defScope s_l_integer) := ⟨rfl, rfl, rfl, by decide +kernel, rfl, by decide +kernel, by decide +kernel⟩
theorem d_l_integer (T : Txt K mg A) : DefOk P w K mg base 1 "_law_integer" fl_l_integer (fn_l_integer K A) := T.t_l_integer.ok fun f fd F => fn_bv F sc_l_integer rfl fun cdv A0 outer s0 H0 E0 c =>
  (bss_one (bs_ret (be_and (be_callB call_isi (ok_isi [A.Marking] (one_cls T.isc_Marking)) (by rfl) T.z_isinstance PyProof.Rows.Boot.«isinstance» (ba_cons (be_var 0) (ba_cons (be_ty (by rfl) T.z_int PyProof.Rows.Boot.«int») ba_nil))) (be_one (be_not (be_callB call_isi (ok_isi [A.Marking] (one_cls T.isc_Marking)) (by rfl) T.z_isinstance PyProof.Rows.Boot.«isinstance» (ba_cons (be_var 0) (ba_cons (be_ty (by rfl) T.z_bool PyProof.Rows.Boot.«bool») ba_nil))))))))
theorem sc_l_at : FnScope ["_law_entries_here", "_law_number", "_law_key"] ["_law_entries_here", "_law_number"] (defScope s_l_at) := ⟨rfl, rfl, rfl, by decide +kernel, rfl, by decide +kernel, by decide +kernel⟩
theorem d_l_at (T : Txt K mg A) : DefOk P w K mg base 1 "_law_at" fl_l_at (fn_l_at K A) := T.t_l_at.ok fun f fd F => fn_bv F sc_l_at rfl fun cdv A0 outer s0 H0 E0 c =>
  (bss_cons (bs_forr c (bi_range1 (by rfl) T.z_range (ba_cons (be_callB call_len ok_len (by rfl) T.z_len PyProof.Rows.Boot.«len» (ba_cons (be_var 0) ba_nil)) ba_nil)) (bg_name (i := 2) c.nd rfl (.inl rfl))
  (bss_cons (bs_if (bt_cmp op_ltU ok_ltU (be_var 1) (be_ix (be_ix (be_var 0) (be_var 2) (fun _ _ => rfl)) be_int (fun _ _ => rfl)) (by rfl))
  (bss_one (bs_ret (be_var 2)))
  bss_nil)
  (bss_one (bs_set (i := 1) c.nd rfl (.inl rfl) (be_op op_sub ok_sub (be_var 1) (be_ix (be_ix (be_var 0) (be_var 2) (fun _ _ => rfl)) be_int (fun _ _ => rfl)))))))
  (bss_one (bs_ret (be_op op_sub ok_sub be_int be_int))))
theorem sc_l_keys_are : FnScope ["_law_marking", "_law_entries_here", "_law_numbers_here", "_law_number", "_law_key"] ["_law_marking", "_law_entries_here", "_law_numbers_here"] (defScope s_l_keys_are) := ⟨rfl, rfl, rfl, by decide +kernel, rfl, by decide +kernel, by decide +kernel⟩
theorem d_l_keys_are (T : Txt K mg A) : DefOk P w K mg base 3 "_law_keys_are" fl_l_keys_are (fn_l_keys_are K A) := T.t_l_keys_are.ok fun f fd F => fn_bv F sc_l_keys_are rfl fun cdv A0 outer s0 H0 E0 c =>
  (bss_cons (bs_forr c (bi_seq (be_var 2)) (bg_name (i := 3) c.nd rfl (.inl rfl))
  (bss_cons (bs_set (i := 4) c.nd rfl (.inl rfl) (be_methD c (d_Marking_key_of T) (be_var 0) (ba_cons (be_var 3) ba_nil)))
  (bss_one (bs_if (bw_or (bt_not (bt_tru (be_callD c (d_l_integer T) (ba_cons (be_var 4) ba_nil)))) (bw_or1 (bt_cmp op_ne ok_neS (be_var 4) (be_callD c (d_l_at T) (ba_cons (be_var 1) (ba_cons (be_var 3) ba_nil))) (by rfl)))).pt
  (bss_one (bs_ret be_bl))
  bss_nil))))
  (bss_one (bs_ret be_bl)))
theorem sc_Marking_accuses : FnScope ["self", "key", "text"] ["self", "key", "text"] (defScope s_Marking_accuses) := ⟨rfl, rfl, rfl, by decide +kernel, rfl, by decide +kernel, by decide +kernel⟩
theorem d_Marking_accuses (T : Txt K mg A) : MetOk P w K mg base 2 A.Marking "accuses" fl_Marking_accuses (fn_Marking_accuses K A) := T.t_Marking_accuses.ok T.cls_Marking fun f fd F => fn_bv F sc_Marking_accuses rfl fun cdv A0 outer s0 H0 E0 c =>
  (bss_cons (bs_if (bt_not (bt_tru (be_callD c (d__is_below T) (ba_cons (be_var 1) (ba_cons (be_callB call_len ok_len (by rfl) T.z_len PyProof.Rows.Boot.«len» (ba_cons (be_fld [A.Marking] (one_cls ⟨T.cls_Marking, T.na_Marking_entries⟩) (be_var 0) (by rfl)) ba_nil)) ba_nil)))))
  (bss_one bs_bad)
  bss_nil)
  (bss_one (bs_ret (be_cmp op_inU ok_inU (be_var 2) (be_ix (be_ix (be_fld [A.Marking] (one_cls ⟨T.cls_Marking, T.na_Marking_entries⟩) (be_var 0) (by rfl)) (be_var 1) (fun _ _ => rfl)) be_int (fun _ _ => rfl)) (by rfl)))))
theorem sc_Marking_write : FnScope ["self", "key"] ["self", "key"] (defScope s_Marking_write) := ⟨rfl, rfl, rfl, by decide +kernel, rfl, by decide +kernel, by decide +kernel⟩
theorem d_Marking_write (T : Txt K mg A) : MetOk P w K mg base 2 A.Marking "write" fl_Marking_write (fn_Marking_write K A) := T.t_Marking_write.ok T.cls_Marking fun f fd F => fn_bv F sc_Marking_write rfl fun cdv A0 outer s0 H0 E0 c =>
  (bss_cons (bs_if (bt_not (bt_tru (be_callD c (d__is_below T) (ba_cons (be_var 1) (ba_cons (be_callB call_len ok_len (by rfl) T.z_len PyProof.Rows.Boot.«len» (ba_cons (be_fld [A.Marking] (one_cls ⟨T.cls_Marking, T.na_Marking_entries⟩) (be_var 0) (by rfl)) ba_nil)) ba_nil)))))
  (bss_one bs_bad)
  bss_nil)
  (bss_one (bs_ret (be_ix (be_ix (be_fld [A.Marking] (one_cls ⟨T.cls_Marking, T.na_Marking_entries⟩) (be_var 0) (by rfl)) (be_var 1) (fun _ _ => rfl)) be_int (fun _ _ => rfl)))))
theorem sc_l_counted : FnScope ["_law_marking", "_law_entries_here", "_law_pool_here", "_law_whole", "_law_text_here", "_law_written", "_law_accused", "_law_number", "_law_key", "_law_entry"] ["_law_marking", "_law_entries_here", "_law_pool_here", "_law_whole"] (defScope s_l_counted) := ⟨rfl, rfl, rfl, by decide +kernel, rfl, by decide +kernel, by decide +kernel⟩
theorem d_l_counted (T : Txt K mg A) : DefOk P w K mg base 3 "_law_counted" fl_l_counted (fn_l_counted K A) := T.t_l_counted.ok fun f fd F => fn_bv F sc_l_counted rfl fun cdv A0 outer s0 H0 E0 c =>
  (bss_cons (bs_forr c (bi_seq (be_slice (be_var 2) bo_none (bo_some be_int))) (bg_name (i := 4) c.nd rfl (.inr rfl))
  (bss_cons (bs_set (i := 5) c.nd rfl (.inl rfl) be_int)
  (bss_cons (bs_set (i := 6) c.nd rfl (.inl rfl) be_int)
  (bss_cons (bs_forr c (bi_range1 (by rfl) T.z_range (ba_cons (be_callB (call_min2 c.calm) ok_min2 (by rfl) T.z_min PyProof.Rows.Boot.«min» (ba_cons (be_var 3) (ba_cons be_int ba_nil))) ba_nil)) (bg_name (i := 7) c.nd rfl (.inl rfl))
  (bss_cons (bs_set (i := 8) c.nd rfl (.inl rfl) (be_methD c (d_Marking_key_of T) (be_var 0) (ba_cons (be_var 7) ba_nil)))
  (bss_cons (bs_if (bt_cmp op_eq ok_eqS (be_methD c (d_Marking_write T) (be_var 0) (ba_cons (be_var 8) ba_nil)) (be_var 4) (by rfl))
  (bss_one (bs_set (i := 5) c.nd rfl (.inl rfl) (be_op op_addU ok_addU (be_var 5) be_int)))
  bss_nil)
  (bss_one (bs_if (bt_tru (be_methD c (d_Marking_accuses T) (be_var 0) (ba_cons (be_var 8) (ba_cons (be_var 4) ba_nil))))
  (bss_one (bs_set (i := 6) c.nd rfl (.inl rfl) (be_op op_addU ok_addU (be_var 6) be_int)))
  bss_nil)))))
  (bss_cons (bs_if (bt_cmp op_ne ok_neS (be_var 5) (be_callB (cr_sum c.calm) ok_sum (by rfl) T.z_sum PyProof.Rows.Boot.«sum» (ba_cons (be_lc c true (bi_seq (be_var 1)) (own := [("_law_entry", 9)]) (blkAt ["_law_marking", "_law_entries_here", "_law_pool_here", "_law_whole", "_law_text_here", "_law_written", "_law_accused", "_law_number", "_law_key", "_law_entry"] (defScope s_l_counted) ⟨rfl, by decide +kernel, by decide +kernel, by decide +kernel, by decide +kernel⟩) (fun s H C cl fp => (bg_name (i := 9) (c.blk _ _ _ _ _).nd rfl (.inl rfl))) (fun s H C cl fp => bts_one (bt_cmp op_eq ok_eqS (be_ix (be_var 9) be_int (fun _ _ => rfl)) (be_var 4) (by rfl))) (fun s H C cl fp => (be_ix (be_var 9) be_int (fun _ _ => rfl)))) ba_nil)) (by rfl))
  (bss_one (bs_ret be_bl))
  bss_nil)
  (bss_one (bs_if (bt_cmp op_ne ok_neS (be_var 6) (be_callB (cr_sum c.calm) ok_sum (by rfl) T.z_sum PyProof.Rows.Boot.«sum» (ba_cons (be_lc c true (bi_seq (be_var 1)) (own := [("_law_entry", 9)]) (blkAt ["_law_marking", "_law_entries_here", "_law_pool_here", "_law_whole", "_law_text_here", "_law_written", "_law_accused", "_law_number", "_law_key", "_law_entry"] (defScope s_l_counted) ⟨rfl, by decide +kernel, by decide +kernel, by decide +kernel, by decide +kernel⟩) (fun s H C cl fp => (bg_name (i := 9) (c.blk _ _ _ _ _).nd rfl (.inl rfl))) (fun s H C cl fp => bts_one (bt_cmp op_inU ok_inU (be_var 4) (be_ix (be_var 9) be_int (fun _ _ => rfl)) (by rfl))) (fun s H C cl fp => (be_ix (be_var 9) be_int (fun _ _ => rfl)))) ba_nil)) (by rfl))
  (bss_one (bs_ret be_bl))
  bss_nil)))))))
  (bss_one (bs_ret be_bl)))
theorem sc_l_body : FnScope ["_law_script", "_law_state", "_law_pool_here", "_law_entries_here", "_law_handed", "_law_marking", "_law_whole", "_law_numbers_here", "_law_entry", "_law_k"] ["_law_script"] (defScope s_l_body) := ⟨rfl, rfl, rfl, by decide +kernel, rfl, by decide +kernel, by decide +kernel⟩
theorem d_l_body (T : Txt K mg A) : DefOk P w K mg base 5 "_law_body" fl_l_body (fn_l_body K A) := T.t_l_body.ok fun f fd F => fn_bv F sc_l_body rfl fun cdv A0 outer s0 H0 E0 c =>
  (bss_cons (bs_set (i := 1) c.nd rfl (.inl rfl) (be_callD c (d_l_start T) (ba_cons (be_var 0) ba_nil)))
  (bss_cons (bs_set (i := 2) c.nd rfl (.inl rfl) (be_callD c (d_l_pool T) (ba_cons (be_var 1) ba_nil)))
  (bss_cons (bs_set (i := 3) c.nd rfl (.inl rfl) (be_callD c (d_l_entries T) (ba_cons (be_var 1) (ba_cons (be_var 2) ba_nil))))
  (bss_cons (bs_setLc (i := 4) c true rfl rfl (by rfl) (bi_seq (be_var 3)) (own := [("_law_entry", 8)]) (blkAt ["_law_script", "_law_state", "_law_pool_here", "_law_entries_here", "_law_handed", "_law_marking", "_law_whole", "_law_numbers_here", "_law_entry", "_law_k"] (defScope s_l_body) ⟨rfl, by decide +kernel, by decide +kernel, by decide +kernel, by decide +kernel⟩) (fun s H C cl fp => (bg_name (i := 8) (c.blk _ _ _ _ _).nd rfl (.inl rfl))) (fun _ _ _ _ _ => bts_nil) (fun s H C cl fp => (be_lstW (ba_cons (be_ix (be_var 8) be_int (fun _ _ => rfl)) (ba_cons (be_ix (be_var 8) be_int (fun _ _ => rfl)) (ba_cons (be_callTy call_list_of ok_list (by rfl) T.z_list PyProof.Rows.Boot.«list» (ba_cons (be_ix (be_var 8) be_int (fun _ _ => rfl)) ba_nil)) ba_nil))))))
  (bss_cons (bs_set (i := 5) c.nd rfl (.inl rfl) (be_makeL c (d_Marking_init T) T.c_Marking (ba_cons (be_var 4) ba_nil)))
  (bss_cons (bs_setP (i := 4) (pp_ix (pp_0 (i := 4) rfl) pk_int) pk_int (be_op op_addU ok_addU (be_pk (pk_ix (pk_ix (pk_var (i := 4) rfl) pk_int) pk_int)) be_int))
  (bss_cons (bs_appP (i := 4) (pp_ix (pp_ix (pp_0 (i := 4) rfl) (pk_sub (pk_len T.z_len (pk_var (i := 4) rfl)) pk_int)) pk_int) be_str)
  (bss_cons (bs_expr (be_bm (by decide) PySem.F.plainAttrs_list PySem.F.slot_list_append PySem.F.type_list_append mt_append ok_append (be_var 4) (ba_cons (be_lstW (ba_cons be_int (ba_cons be_str (ba_cons (be_lstW ba_nil) ba_nil)))) ba_nil)))
  (bss_cons (bs_set (i := 6) c.nd rfl (.inl rfl) (be_callB (cr_sum c.calm) ok_sum (by rfl) T.z_sum PyProof.Rows.Boot.«sum» (ba_cons (be_lc c true (bi_seq (be_var 3)) (own := [("_law_entry", 8)]) (blkAt ["_law_script", "_law_state", "_law_pool_here", "_law_entries_here", "_law_handed", "_law_marking", "_law_whole", "_law_numbers_here", "_law_entry", "_law_k"] (defScope s_l_body) ⟨rfl, by decide +kernel, by decide +kernel, by decide +kernel, by decide +kernel⟩) (fun s H C cl fp => (bg_name (i := 8) (c.blk _ _ _ _ _).nd rfl (.inl rfl))) (fun _ _ _ _ _ => bts_nil) (fun s H C cl fp => (be_ix (be_var 8) be_int (fun _ _ => rfl)))) ba_nil)))
  (bss_cons (bs_if (bw_or (bt_not (bt_tru (be_callD c (d_l_integer T) (ba_cons (be_fld [A.Marking] (one_cls ⟨T.cls_Marking, T.na_Marking_whole⟩) (be_var 5) (by rfl)) ba_nil)))) (bw_or1 (bt_cmp op_ne ok_neS (be_fld [A.Marking] (one_cls ⟨T.cls_Marking, T.na_Marking_whole⟩) (be_var 5) (by rfl)) (be_var 6) (by rfl)))).pt
  (bss_one (bs_ret be_bl))
  bss_nil)
  (bss_cons (bs_set (i := 7) c.nd rfl (.inr rfl) (be_callD c (d_l_numbers T) (ba_cons (be_var 1) (ba_cons (be_var 3) (ba_cons (be_var 6) ba_nil)))))
  (bss_cons (bs_if (bt_not (bt_tru (be_callD c (d_l_keys_are T) (ba_cons (be_var 5) (ba_cons (be_var 3) (ba_cons (be_var 7) ba_nil))))))
  (bss_one (bs_ret be_bl))
  bss_nil)
  (bss_cons (bs_if (bw_and (bt_cmp op_leU ok_leU (be_var 6) be_int (by rfl)) (bw_and1 (bt_not (bt_tru (be_callD c (d_l_counted T) (ba_cons (be_var 5) (ba_cons (be_var 3) (ba_cons (be_var 2) (ba_cons (be_var 6) ba_nil))))))))).pt
  (bss_one (bs_ret be_bl))
  bss_nil)
  (bss_one (bs_ret (be_callD c (d_l_keys_are T) (ba_cons (be_var 5) (ba_cons (be_var 3) (ba_cons (be_lc c true (bi_range1 (by rfl) T.z_range (ba_cons (be_callB call_len ok_len (by rfl) T.z_len PyProof.Rows.Boot.«len» (ba_cons (be_var 7) ba_nil)) ba_nil)) (own := [("_law_k", 9)]) (blkAt ["_law_script", "_law_state", "_law_pool_here", "_law_entries_here", "_law_handed", "_law_marking", "_law_whole", "_law_numbers_here", "_law_entry", "_law_k"] (defScope s_l_body) ⟨rfl, by decide +kernel, by decide +kernel, by decide +kernel, by decide +kernel⟩) (fun s H C cl fp => (bg_name (i := 9) (c.blk _ _ _ _ _).nd rfl (.inl rfl))) (fun _ _ _ _ _ => bts_nil) (fun s H C cl fp => (be_ix (be_var 7) (be_op op_sub ok_sub (be_op op_sub ok_sub (be_callB call_len ok_len (by rfl) T.z_len PyProof.Rows.Boot.«len» (ba_cons (be_var 7) ba_nil)) be_int) (be_var 9)) (fun _ _ => rfl)))) ba_nil)))))))))))))))))))
theorem sc_law : FnScope ["_law_script"] ["_law_script"] (defScope s_law) := ⟨rfl, rfl, rfl, by decide +kernel, rfl, by decide +kernel, by decide +kernel⟩
theorem d_law (T : Txt K mg A) {f : Addr} {fd : FuncData} (F : Fun K "law" "law" s_law f fd) : FnOk P w K mg base (L2.CX P w) 6 f fd ["_law_script"] (spBV K fl_law (fn_law K A)) := fn_bv F sc_law rfl fun cdv A0 outer s0 H0 E0 c =>
  (bss_one (bs_try_thru (bss_one (bs_ret (be_callD c.nox (d_l_body T) (ba_cons (be_var 0) ba_nil))))))
end
end L

set_option exponentiation.threshold 20000
namespace L
open PySem PySem.Spec PyProof.Rows L2 BV
/-! ### the script's draws -/
structure DS where
  ns : List Int
  p : Int
  q : Int
  l : Int
  g : Int
def stW (s : DS) : W := .olst [.frz (.lst (s.ns.map D.int)), .frz (.int s.p), .frz (.int s.q), .frz (.int s.l), .frz (.int s.g)]
structure DS.Ok (s : DS) : Prop where
  len : s.ns.length ≤ 63
  p0 : 0 ≤ s.p
  p1 : s.p ≤ 63
  q0 : 0 ≤ s.q
  l0 : 0 ≤ s.l
  l1 : s.l ≤ 100
  ql : 0 < s.q → 0 < s.l
  g0 : 0 ≤ s.g
  g1 : s.g < 2147483648
section
variable {L : Lc} (s : DS)
theorem st_lk (i : Nat) : look i (some (some (stW s))) L = .ok (.al i) L := (rfl)
theorem st_0 : kR ixW (some (stW s)) (some (.frz (.int 0))) L = .ok (.val (.frz (.lst (s.ns.map D.int)))) L := kR_of (ixl_nat (ds := [.lst (s.ns.map D.int), .int s.p, .int s.q, .int s.l, .int s.g]) (i := 0) rfl)
theorem st_1 : kR ixW (some (stW s)) (some (.frz (.int 1))) L = .ok (.val (.frz (.int s.p))) L := kR_of (ixl_nat (ds := [.lst (s.ns.map D.int), .int s.p, .int s.q, .int s.l, .int s.g]) (i := 1) rfl)
theorem st_2 : kR ixW (some (stW s)) (some (.frz (.int 2))) L = .ok (.val (.frz (.int s.q))) L := kR_of (ixl_nat (ds := [.lst (s.ns.map D.int), .int s.p, .int s.q, .int s.l, .int s.g]) (i := 2) rfl)
theorem st_3 : kR ixW (some (stW s)) (some (.frz (.int 3))) L = .ok (.val (.frz (.int s.l))) L := kR_of (ixl_nat (ds := [.lst (s.ns.map D.int), .int s.p, .int s.q, .int s.l, .int s.g]) (i := 3) rfl)
theorem st_4 : kR ixW (some (stW s)) (some (.frz (.int 4))) L = .ok (.val (.frz (.int s.g))) L := kR_of (ixl_nat (ds := [.lst (s.ns.map D.int), .int s.p, .int s.q, .int s.l, .int s.g]) (i := 4) rfl)
theorem sa (i : Nat) (d : D) (mi : M R) : setA i d mi (some (some (stW s))) L = (mi L).thenS fun k L3 => setB i d k L3[i]? L3 := (rfl)
theorem sb_1 (i : Nat) (x : Int) : setB i (.int x) (.val (.frz (.int 1))) (some (some (stW s))) L = .next (L.set i (some (stW { s with p := x }))) := (rfl)
theorem sb_2 (i : Nat) (x : Int) : setB i (.int x) (.val (.frz (.int 2))) (some (some (stW s))) L = .next (L.set i (some (stW { s with q := x }))) := (rfl)
theorem sb_3 (i : Nat) (x : Int) : setB i (.int x) (.val (.frz (.int 3))) (some (some (stW s))) L = .next (L.set i (some (stW { s with l := x }))) := (rfl)
theorem sb_4 (i : Nat) (x : Int) : setB i (.int x) (.val (.frz (.int 4))) (some (some (stW s))) L = .next (L.set i (some (stW { s with g := x }))) := (rfl)
theorem st_nb : (stW s).nb = true := (rfl)
end
theorem fmod_rg (a : Int) {m : Int} (h : 0 < m) : 0 ≤ a.fmod m ∧ a.fmod m < m := ⟨Int.fmod_nonneg_of_pos a h, Int.fmod_lt_of_pos a h⟩
theorem fdiv_nn {a m : Int} (ha : 0 ≤ a) (h : 0 < m) : 0 ≤ a.fdiv m := by
  rw [Int.fdiv_eq_ediv_of_nonneg _ (Int.le_of_lt h)]
  exact Int.ediv_nonneg ha (Int.le_of_lt h)
theorem bitOf {n : Nat} {i : Int} (h0 : 0 ≤ i) {m : Int} (h : i < m) (hm : m ≤ 2 ^ n) : Bit n i := Bit.of h0 (by omega)
theorem ixf_at {ds : List D} {i : Nat} {d : D} {L : Lc} (h : ds[i]? = some d) : kR ixW (some (.frz (.lst ds))) (some (.frz (.int (i : Nat)))) L = .ok (.val (.frz d)) L := kR_of (ixf_nat h)
section
variable {K : PySem.W.Frag} {A : Ad}
theorem start_is (ns : List Int) (h : ns.length ≤ 63) : ∃ s, fn_l_start K A [.frz (.lok (ns.map D.int))] = .ok (stW s) [] ∧ s.Ok := by
  refine ⟨⟨ns, 0, 0, 0, 7⟩, ?_, ⟨h, (by decide : (0 : Int) ≤ 0), (by decide : (0 : Int) ≤ 63), (by decide : (0 : Int) ≤ 0), (by decide : (0 : Int) ≤ 0), (by decide : (0 : Int) ≤ 100), fun z => absurd z (by decide : ¬ (0 : Int) < 0), (by decide : (0 : Int) ≤ 7), (by decide : (7 : Int) < 2147483648)⟩⟩
  have e : ∀ L : Lc, bList [.val (.frz (.lok (ns.map D.int)))] L = .ok (.val (.olst ((ns.map D.int).map .frz))) L := fun _ => rfl
  unfold stW
  generalize ns.map D.int = ds at *
  refine run_ret (m := m_l_start K A) (L0 := [some (.frz (.lok ds))]) (L := [some (.frz (.lok ds))]) ?_
  simp (decide := true) only [e_bind, e_then, e_badb, e_var, e_lk_f, e_lk_b, e_lk_l, e_lk_t, e_lk_o, e_C, e_op, e_seq, e_seq_n, e_seq_r, e_seq_b, e_seq_c, e_nil, e_brk, e_exp, e_set, e_asgn, e_ret, e_handed, e_if, e_ifE, e_mBl, e_blR, e_not, e_and, e_or, e_andV, e_orV, e_notV, e_tru, e_truR, e_add, e_sub, e_mul, e_div, e_mod, e_pow, e_lt, e_gt, e_le, e_ge, e_eq, e_ne, e_neg, e_nilA, e_cons, e_callB, e_f1, e_len_str, e_len_lst, e_len_lok, e_len_tup, e_int, e_abs, e_par, e_no, e_while, e_for, e_gNm, e_range1, e_range2, e_rg1, e_rg2, e_slotW, e_get_v, e_get_a, e_fr_f, e_toFv, e_toF_v, e_toF_a, e_toFb, e_toFa, e_fr_l, e_fr_o, e_frs_nil, e_frs_frz, e_frs_cons, e_frF_nil, e_frF_cons, e_prep_nil, e_prep_f, e_prep_t, e_prepT, e_prep_v, e_called, e_calledR, e_bkR, e_back_nil, e_back_cons, e_call, e_callR, e_madeF, e_make, e_fld, e_fldSet, e_fldSetR, e_meth, e_f1l, e_f1a, e_rd_f, e_mkK, e_yes, e_toW, e_toFs_nil, e_toFs_cons, e_tup, e_lst, e_tupR, e_lstR, e_scR, e_f2, e_kR0, e_kR1, e_bits, e_bitsR, e_bm, e_bm_l, e_bm_s, e_app, e_appR, e_asg, e_seqG, e_gsc, e_gsn, e_gTp, e_exc_try, e_turnR_n, e_turnR_c, e_turnR_b, e_turnR_r, e_setIx, e_setA, e_setB, e_setC, e_iter, e_sl, e_pSome, e_pR, e_pNone, e_listR1, e_lr1, e_prepB_nil, e_prepB_cons, e_arg_ff, e_arg_la, e_lentA, e_arg_lf, e_arg_lb, e_arg_ta, e_ownA, e_arg_tv, e_callL, e_callRB, e_calledB, e_calledBR, e_calledBX, e_backB, e_lkBack_nil, e_lkBack_cons, e_nbs_nil, e_nbs_cons, e_nb_f, e_nb_l, e_nb_o, e_nbF_nil, e_nbF_cons, e_nbs_map, e_makeL, e_madeBR, e_methL, e_methLR_f, e_toWs_nil, e_toWs_cons, e_lstW, e_lstWR, e_mPk, e_pkR_i, e_pkR_s, e_pkR_b, e_setP, e_nin_al, e_in_al, e_in_ft, e_in_fl, e_nin_ft, e_nin_fl, e_eqS, e_neS, e_eqB, e_neB, e_sl_s, e_handed_a, e_handedA, e_f1R_len, e_kR2, e_seqK_l, e_seqK_t, e_items_al, e_items_fl, e_items_ft, e_items_ol, e_tuple_v, e_tuple_a, e_tupA, e_tuple_l, e_tuple_t, e_list_l, e_list_t, e_list_o, e_aug, e_augA, e_addI, e_subI, e_chain, e_chR, e_chK, e_fldR_f, List.getElem?_cons_zero, List.getElem?_cons_succ, List.set_cons_zero, List.set_cons_succ, List.length_cons, List.length_nil, Option.map_some, Option.map_none, Option.bind_some, Option.bind_none, if_true, if_false, ite_true, ite_false, reduceIte, decide_true, decide_false, Bool.not_true, Bool.not_false, Bool.and_true, Bool.true_and, Bool.and_false, Bool.false_and, Bool.or_true, Bool.true_or, Bool.or_false, Bool.false_or, ne_eq, not_false_eq_true, not_true_eq_false, Option.some.injEq, reduceCtorEq, and_self, and_true, true_and, Bool.false_eq_true, List.nil_append, List.cons_append, List.append_nil, decide_eq_true_eq, m_l_start, e]
  rfl
/-- the second if of a draw -/
def refill (s : DS) : DS := if s.l = 0 ∧ s.p < (s.ns.length : Int) then
    (let c := (s.ns.getD s.p.toNat 0)
     let c := if c < 0 then -c else c
     if 10 ^ 18 ≤ c then { s with p := s.p + 1, l := 60, q := c } else { s with p := s.p + 1, l := 4, g := (s.g * 48271 + c + (s.p + 1)).fmod 2147483647 })
  else s
theorem draw_is {s : DS} {lim : Int} (h : s.Ok) (hm : 0 < lim) (hb : Bit 8000 lim) :
    ∃ s' r, fn_l_draw K A [stW s, iW lim] = .ok (iW r) [stW s'] ∧ s'.Ok ∧ 0 ≤ r ∧ r < lim := by
  have hz : lim ≠ 0 := by omega
  have hd : SzD lim := hb.szD hz (by decide)
  have hp : SzP 10 18 := ⟨by decide, by decide, by decide⟩
  -- the limit
  have e1 : (if decide (lim < 2) = true then (iW 1) else iW lim) = iW lim := by
    by_cases c : lim < 2
    · have : lim = 1 := by omega
      rw [if_pos (decide_eq_true c), this]
    · rw [if_neg (by simpa using c)]
  have g1 : ∀ s : DS, sIf (mBl (mOp cLt (mVar 1) (mC (.int 2)))) (sSet fl_l_draw 1 (mC (.int 1))) sNil [some (stW s), some (iW lim), none, none] = .next [some (stW s), some (iW lim), none, none] := fun s => by
    by_cases c : lim < 2
    · have : lim = 1 := by omega
      subst this
      simp (decide := true) only [e_bind, e_then, e_badb, e_var, e_lk_f, e_lk_b, e_lk_l, e_lk_t, e_lk_o, e_C, e_op, e_seq, e_seq_n, e_seq_r, e_seq_b, e_seq_c, e_nil, e_brk, e_exp, e_set, e_asgn, e_ret, e_handed, e_if, e_ifE, e_mBl, e_blR, e_not, e_and, e_or, e_andV, e_orV, e_notV, e_tru, e_truR, e_add, e_sub, e_mul, e_div, e_mod, e_pow, e_lt, e_gt, e_le, e_ge, e_eq, e_ne, e_neg, e_nilA, e_cons, e_callB, e_f1, e_len_str, e_len_lst, e_len_lok, e_len_tup, e_int, e_abs, e_par, e_no, e_while, e_for, e_gNm, e_range1, e_range2, e_rg1, e_rg2, e_slotW, e_get_v, e_get_a, e_fr_f, e_toFv, e_toF_v, e_toF_a, e_toFb, e_toFa, e_fr_l, e_fr_o, e_frs_nil, e_frs_frz, e_frs_cons, e_frF_nil, e_frF_cons, e_prep_nil, e_prep_f, e_prep_t, e_prepT, e_prep_v, e_called, e_calledR, e_bkR, e_back_nil, e_back_cons, e_call, e_callR, e_madeF, e_make, e_fld, e_fldSet, e_fldSetR, e_meth, e_f1l, e_f1a, e_rd_f, e_mkK, e_yes, e_toW, e_toFs_nil, e_toFs_cons, e_tup, e_lst, e_tupR, e_lstR, e_scR, e_f2, e_kR0, e_kR1, e_bits, e_bitsR, e_bm, e_bm_l, e_bm_s, e_app, e_appR, e_asg, e_seqG, e_gsc, e_gsn, e_gTp, e_exc_try, e_turnR_n, e_turnR_c, e_turnR_b, e_turnR_r, e_setIx, e_setA, e_setB, e_setC, e_iter, e_sl, e_pSome, e_pR, e_pNone, e_listR1, e_lr1, e_prepB_nil, e_prepB_cons, e_arg_ff, e_arg_la, e_lentA, e_arg_lf, e_arg_lb, e_arg_ta, e_ownA, e_arg_tv, e_callL, e_callRB, e_calledB, e_calledBR, e_calledBX, e_backB, e_lkBack_nil, e_lkBack_cons, e_nbs_nil, e_nbs_cons, e_nb_f, e_nb_l, e_nb_o, e_nbF_nil, e_nbF_cons, e_nbs_map, e_makeL, e_madeBR, e_methL, e_methLR_f, e_toWs_nil, e_toWs_cons, e_lstW, e_lstWR, e_mPk, e_pkR_i, e_pkR_s, e_pkR_b, e_setP, e_nin_al, e_in_al, e_in_ft, e_in_fl, e_nin_ft, e_nin_fl, e_eqS, e_neS, e_eqB, e_neB, e_sl_s, e_handed_a, e_handedA, e_f1R_len, e_kR2, e_seqK_l, e_seqK_t, e_items_al, e_items_fl, e_items_ft, e_items_ol, e_tuple_v, e_tuple_a, e_tupA, e_tuple_l, e_tuple_t, e_list_l, e_list_t, e_list_o, e_aug, e_augA, e_addI, e_subI, e_chain, e_chR, e_chK, e_fldR_f, List.getElem?_cons_zero, List.getElem?_cons_succ, List.set_cons_zero, List.set_cons_succ, List.length_cons, List.length_nil, Option.map_some, Option.map_none, Option.bind_some, Option.bind_none, if_true, if_false, ite_true, ite_false, reduceIte, decide_true, decide_false, Bool.not_true, Bool.not_false, Bool.and_true, Bool.true_and, Bool.and_false, Bool.false_and, Bool.or_true, Bool.true_or, Bool.or_false, Bool.false_or, ne_eq, not_false_eq_true, not_true_eq_false, Option.some.injEq, reduceCtorEq, and_self, and_true, true_and, Bool.false_eq_true, List.nil_append, List.cons_append, List.append_nil, decide_eq_true_eq, e_bind]
    · simp (decide := true) only [e_bind, e_then, e_badb, e_var, e_lk_f, e_lk_b, e_lk_l, e_lk_t, e_lk_o, e_C, e_op, e_seq, e_seq_n, e_seq_r, e_seq_b, e_seq_c, e_nil, e_brk, e_exp, e_set, e_asgn, e_ret, e_handed, e_if, e_ifE, e_mBl, e_blR, e_not, e_and, e_or, e_andV, e_orV, e_notV, e_tru, e_truR, e_add, e_sub, e_mul, e_div, e_mod, e_pow, e_lt, e_gt, e_le, e_ge, e_eq, e_ne, e_neg, e_nilA, e_cons, e_callB, e_f1, e_len_str, e_len_lst, e_len_lok, e_len_tup, e_int, e_abs, e_par, e_no, e_while, e_for, e_gNm, e_range1, e_range2, e_rg1, e_rg2, e_slotW, e_get_v, e_get_a, e_fr_f, e_toFv, e_toF_v, e_toF_a, e_toFb, e_toFa, e_fr_l, e_fr_o, e_frs_nil, e_frs_frz, e_frs_cons, e_frF_nil, e_frF_cons, e_prep_nil, e_prep_f, e_prep_t, e_prepT, e_prep_v, e_called, e_calledR, e_bkR, e_back_nil, e_back_cons, e_call, e_callR, e_madeF, e_make, e_fld, e_fldSet, e_fldSetR, e_meth, e_f1l, e_f1a, e_rd_f, e_mkK, e_yes, e_toW, e_toFs_nil, e_toFs_cons, e_tup, e_lst, e_tupR, e_lstR, e_scR, e_f2, e_kR0, e_kR1, e_bits, e_bitsR, e_bm, e_bm_l, e_bm_s, e_app, e_appR, e_asg, e_seqG, e_gsc, e_gsn, e_gTp, e_exc_try, e_turnR_n, e_turnR_c, e_turnR_b, e_turnR_r, e_setIx, e_setA, e_setB, e_setC, e_iter, e_sl, e_pSome, e_pR, e_pNone, e_listR1, e_lr1, e_prepB_nil, e_prepB_cons, e_arg_ff, e_arg_la, e_lentA, e_arg_lf, e_arg_lb, e_arg_ta, e_ownA, e_arg_tv, e_callL, e_callRB, e_calledB, e_calledBR, e_calledBX, e_backB, e_lkBack_nil, e_lkBack_cons, e_nbs_nil, e_nbs_cons, e_nb_f, e_nb_l, e_nb_o, e_nbF_nil, e_nbF_cons, e_nbs_map, e_makeL, e_madeBR, e_methL, e_methLR_f, e_toWs_nil, e_toWs_cons, e_lstW, e_lstWR, e_mPk, e_pkR_i, e_pkR_s, e_pkR_b, e_setP, e_nin_al, e_in_al, e_in_ft, e_in_fl, e_nin_ft, e_nin_fl, e_eqS, e_neS, e_eqB, e_neB, e_sl_s, e_handed_a, e_handedA, e_f1R_len, e_kR2, e_seqK_l, e_seqK_t, e_items_al, e_items_fl, e_items_ft, e_items_ol, e_tuple_v, e_tuple_a, e_tupA, e_tuple_l, e_tuple_t, e_list_l, e_list_t, e_list_o, e_aug, e_augA, e_addI, e_subI, e_chain, e_chR, e_chK, e_fldR_f, List.getElem?_cons_zero, List.getElem?_cons_succ, List.set_cons_zero, List.set_cons_succ, List.length_cons, List.length_nil, Option.map_some, Option.map_none, Option.bind_some, Option.bind_none, if_true, if_false, ite_true, ite_false, reduceIte, decide_true, decide_false, Bool.not_true, Bool.not_false, Bool.and_true, Bool.true_and, Bool.and_false, Bool.false_and, Bool.or_true, Bool.true_or, Bool.or_false, Bool.false_or, ne_eq, not_false_eq_true, not_true_eq_false, Option.some.injEq, reduceCtorEq, and_self, and_true, true_and, Bool.false_eq_true, List.nil_append, List.cons_append, List.append_nil, decide_eq_true_eq, c]
  -- the cell
  have g2 : ∃ s2 c2, (sIf (mAnd (mBl (mOp cEqS (mOp (mkK ixW) (mVar 0) (mC (.int 3))) (mC (.int 0)))) (mBl (mOp cLt (mOp (mkK ixW) (mVar 0) (mC (.int 1))) (mCallB (f1 lenD) (mCons (mOp (mkK ixW) (mVar 0) (mC (.int 0))) mNil)))))
  (sSeq (sSet fl_l_draw 2 (mCallB (f1 absD) (mCons (mCallB (f1 intD) (mCons (mOp (mkK ixW) (mOp (mkK ixW) (mVar 0) (mC (.int 0))) (mOp (mkK ixW) (mVar 0) (mC (.int 1)))) mNil)) mNil)))
  (sSeq (sSetIx 0 (mC (.int 1)) (mOp aAddU (mOp (mkK ixW) (mVar 0) (mC (.int 1))) (mC (.int 1))))
  (sSeq (sSetIx 0 (mC (.int 3)) (mC (.int 4)))
  (sIf (mBl (mOp cGe (mVar 2) (mOp aPow (mC (.int 10)) (mC (.int 18)))))
  (sSeq (sSetIx 0 (mC (.int 2)) (mVar 2))
  (sSetIx 0 (mC (.int 3)) (mC (.int 60))))
  (sSetIx 0 (mC (.int 4)) (mOp aMod (mCallB (f1 intD) (mCons (mOp aAddU (mOp aAddU (mOp aMul (mOp (mkK ixW) (mVar 0) (mC (.int 4))) (mC (.int 48271))) (mVar 2)) (mOp (mkK ixW) (mVar 0) (mC (.int 1)))) mNil)) (mC (.int 2147483647))))))))
  sNil) [some (stW s), some (iW lim), none, none] = .next [some (stW s2), some (iW lim), c2, none] ∧ s2.Ok := by
    obtain ⟨ns, p, q, l, g⟩ := s
    obtain ⟨h1, h2, h3, h4, h5, h6, h9, h7, h8⟩ := h
    dsimp only at h1 h2 h3 h4 h5 h6 h7 h8
    have m1 : SzM g 48271 := (bitOf (n := 31) h7 h8 (by decide)).szM (Bit.of (n := 31) (by decide) (by decide)) (by decide)
    by_cases c1 : l = 0
    · subst c1
      by_cases c2 : p < (ns.length : Int)
      · obtain ⟨pn, rfl⟩ : ∃ n : Nat, p = (n : Nat) := ⟨p.toNat, by omega⟩
        have hpn : pn < ns.length := by omega
        have hi := fun L : Lc => ixf_at (ds := ns.map D.int) (i := pn) (d := .int ns[pn]) (L := L) (by rw [List.getElem?_map, List.getElem?_eq_getElem hpn]; rfl)
        have hlen : ((ns.map D.int).length : Int) = (ns.length : Int) := by rw [List.length_map]
        generalize hc : (if ns[pn] < 0 then -ns[pn] else ns[pn]) = cell at *
        have hc0 : 0 ≤ cell := by rw [← hc]; split <;> omega
        by_cases c3 : (10 : Int) ^ 18 ≤ cell
        · refine ⟨⟨ns, (pn : Int) + 1, cell, 60, g⟩, some (iW cell), ?_, ⟨h1, by show 0 ≤ (pn : Int) + 1; omega, by show (pn : Int) + 1 ≤ 63; omega, hc0, by show (0 : Int) ≤ 60; decide, by show (60 : Int) ≤ 100; decide, fun _ => by show (0 : Int) < 60; decide, h7, h8⟩⟩
          have c3' : (10 : Int) ^ Int.toNat 18 ≤ cell := c3
          simp (decide := true) only [e_bind, e_then, e_badb, e_var, e_lk_f, e_lk_b, e_lk_l, e_lk_t, e_lk_o, e_C, e_op, e_seq, e_seq_n, e_seq_r, e_seq_b, e_seq_c, e_nil, e_brk, e_exp, e_set, e_asgn, e_ret, e_handed, e_if, e_ifE, e_mBl, e_blR, e_not, e_and, e_or, e_andV, e_orV, e_notV, e_tru, e_truR, e_add, e_sub, e_mul, e_div, e_mod, e_pow, e_lt, e_gt, e_le, e_ge, e_eq, e_ne, e_neg, e_nilA, e_cons, e_callB, e_f1, e_len_str, e_len_lst, e_len_lok, e_len_tup, e_int, e_abs, e_par, e_no, e_while, e_for, e_gNm, e_range1, e_range2, e_rg1, e_rg2, e_slotW, e_get_v, e_get_a, e_fr_f, e_toFv, e_toF_v, e_toF_a, e_toFb, e_toFa, e_fr_l, e_fr_o, e_frs_nil, e_frs_frz, e_frs_cons, e_frF_nil, e_frF_cons, e_prep_nil, e_prep_f, e_prep_t, e_prepT, e_prep_v, e_called, e_calledR, e_bkR, e_back_nil, e_back_cons, e_call, e_callR, e_madeF, e_make, e_fld, e_fldSet, e_fldSetR, e_meth, e_f1l, e_f1a, e_rd_f, e_mkK, e_yes, e_toW, e_toFs_nil, e_toFs_cons, e_tup, e_lst, e_tupR, e_lstR, e_scR, e_f2, e_kR0, e_kR1, e_bits, e_bitsR, e_bm, e_bm_l, e_bm_s, e_app, e_appR, e_asg, e_seqG, e_gsc, e_gsn, e_gTp, e_exc_try, e_turnR_n, e_turnR_c, e_turnR_b, e_turnR_r, e_setIx, e_setA, e_setB, e_setC, e_iter, e_sl, e_pSome, e_pR, e_pNone, e_listR1, e_lr1, e_prepB_nil, e_prepB_cons, e_arg_ff, e_arg_la, e_lentA, e_arg_lf, e_arg_lb, e_arg_ta, e_ownA, e_arg_tv, e_callL, e_callRB, e_calledB, e_calledBR, e_calledBX, e_backB, e_lkBack_nil, e_lkBack_cons, e_nbs_nil, e_nbs_cons, e_nb_f, e_nb_l, e_nb_o, e_nbF_nil, e_nbF_cons, e_nbs_map, e_makeL, e_madeBR, e_methL, e_methLR_f, e_toWs_nil, e_toWs_cons, e_lstW, e_lstWR, e_mPk, e_pkR_i, e_pkR_s, e_pkR_b, e_setP, e_nin_al, e_in_al, e_in_ft, e_in_fl, e_nin_ft, e_nin_fl, e_eqS, e_neS, e_eqB, e_neB, e_sl_s, e_handed_a, e_handedA, e_f1R_len, e_kR2, e_seqK_l, e_seqK_t, e_items_al, e_items_fl, e_items_ft, e_items_ol, e_tuple_v, e_tuple_a, e_tupA, e_tuple_l, e_tuple_t, e_list_l, e_list_t, e_list_o, e_aug, e_augA, e_addI, e_subI, e_chain, e_chR, e_chK, e_fldR_f, List.getElem?_cons_zero, List.getElem?_cons_succ, List.set_cons_zero, List.set_cons_succ, List.length_cons, List.length_nil, Option.map_some, Option.map_none, Option.bind_some, Option.bind_none, if_true, if_false, ite_true, ite_false, reduceIte, decide_true, decide_false, Bool.not_true, Bool.not_false, Bool.and_true, Bool.true_and, Bool.and_false, Bool.false_and, Bool.or_true, Bool.true_or, Bool.or_false, Bool.false_or, ne_eq, not_false_eq_true, not_true_eq_false, Option.some.injEq, reduceCtorEq, and_self, and_true, true_and, Bool.false_eq_true, List.nil_append, List.cons_append, List.append_nil, decide_eq_true_eq, st_lk, st_0, st_1, st_3, hlen, c2, hi, hc, sa, sb_1, sb_2, sb_3, hp, c3']
        · have rb := fmod_rg (g * 48271 + cell + ((pn : Int) + 1)) (m := 2147483647) (by decide)
          refine ⟨⟨ns, (pn : Int) + 1, q, 4, (g * 48271 + cell + ((pn : Int) + 1)).fmod 2147483647⟩, some (iW cell), ?_, ⟨h1, by show 0 ≤ (pn : Int) + 1; omega, by show (pn : Int) + 1 ≤ 63; omega, h4, by show (0 : Int) ≤ 4; decide, by show (4 : Int) ≤ 100; decide, fun _ => by show (0 : Int) < 4; decide, rb.1, Int.lt_trans rb.2 (by decide)⟩⟩
          have c3' : ¬ (10 : Int) ^ Int.toNat 18 ≤ cell := c3
          have z : (2147483647 : Int) ≠ 0 := by decide
          simp (decide := true) only [e_bind, e_then, e_badb, e_var, e_lk_f, e_lk_b, e_lk_l, e_lk_t, e_lk_o, e_C, e_op, e_seq, e_seq_n, e_seq_r, e_seq_b, e_seq_c, e_nil, e_brk, e_exp, e_set, e_asgn, e_ret, e_handed, e_if, e_ifE, e_mBl, e_blR, e_not, e_and, e_or, e_andV, e_orV, e_notV, e_tru, e_truR, e_add, e_sub, e_mul, e_div, e_mod, e_pow, e_lt, e_gt, e_le, e_ge, e_eq, e_ne, e_neg, e_nilA, e_cons, e_callB, e_f1, e_len_str, e_len_lst, e_len_lok, e_len_tup, e_int, e_abs, e_par, e_no, e_while, e_for, e_gNm, e_range1, e_range2, e_rg1, e_rg2, e_slotW, e_get_v, e_get_a, e_fr_f, e_toFv, e_toF_v, e_toF_a, e_toFb, e_toFa, e_fr_l, e_fr_o, e_frs_nil, e_frs_frz, e_frs_cons, e_frF_nil, e_frF_cons, e_prep_nil, e_prep_f, e_prep_t, e_prepT, e_prep_v, e_called, e_calledR, e_bkR, e_back_nil, e_back_cons, e_call, e_callR, e_madeF, e_make, e_fld, e_fldSet, e_fldSetR, e_meth, e_f1l, e_f1a, e_rd_f, e_mkK, e_yes, e_toW, e_toFs_nil, e_toFs_cons, e_tup, e_lst, e_tupR, e_lstR, e_scR, e_f2, e_kR0, e_kR1, e_bits, e_bitsR, e_bm, e_bm_l, e_bm_s, e_app, e_appR, e_asg, e_seqG, e_gsc, e_gsn, e_gTp, e_exc_try, e_turnR_n, e_turnR_c, e_turnR_b, e_turnR_r, e_setIx, e_setA, e_setB, e_setC, e_iter, e_sl, e_pSome, e_pR, e_pNone, e_listR1, e_lr1, e_prepB_nil, e_prepB_cons, e_arg_ff, e_arg_la, e_lentA, e_arg_lf, e_arg_lb, e_arg_ta, e_ownA, e_arg_tv, e_callL, e_callRB, e_calledB, e_calledBR, e_calledBX, e_backB, e_lkBack_nil, e_lkBack_cons, e_nbs_nil, e_nbs_cons, e_nb_f, e_nb_l, e_nb_o, e_nbF_nil, e_nbF_cons, e_nbs_map, e_makeL, e_madeBR, e_methL, e_methLR_f, e_toWs_nil, e_toWs_cons, e_lstW, e_lstWR, e_mPk, e_pkR_i, e_pkR_s, e_pkR_b, e_setP, e_nin_al, e_in_al, e_in_ft, e_in_fl, e_nin_ft, e_nin_fl, e_eqS, e_neS, e_eqB, e_neB, e_sl_s, e_handed_a, e_handedA, e_f1R_len, e_kR2, e_seqK_l, e_seqK_t, e_items_al, e_items_fl, e_items_ft, e_items_ol, e_tuple_v, e_tuple_a, e_tupA, e_tuple_l, e_tuple_t, e_list_l, e_list_t, e_list_o, e_aug, e_augA, e_addI, e_subI, e_chain, e_chR, e_chK, e_fldR_f, List.getElem?_cons_zero, List.getElem?_cons_succ, List.set_cons_zero, List.set_cons_succ, List.length_cons, List.length_nil, Option.map_some, Option.map_none, Option.bind_some, Option.bind_none, if_true, if_false, ite_true, ite_false, reduceIte, decide_true, decide_false, Bool.not_true, Bool.not_false, Bool.and_true, Bool.true_and, Bool.and_false, Bool.false_and, Bool.or_true, Bool.true_or, Bool.or_false, Bool.false_or, ne_eq, not_false_eq_true, not_true_eq_false, Option.some.injEq, reduceCtorEq, and_self, and_true, true_and, Bool.false_eq_true, List.nil_append, List.cons_append, List.append_nil, decide_eq_true_eq, st_lk, st_0, st_1, st_3, st_4, hlen, c2, hi, hc, sa, sb_1, sb_2, sb_3, sb_4, hp, c3', m1, z]
      · have hlen : ((ns.map D.int).length : Int) = (ns.length : Int) := by rw [List.length_map]
        refine ⟨⟨ns, p, q, 0, g⟩, none, ?_, ⟨h1, h2, h3, h4, h5, h6, h9, h7, h8⟩⟩
        simp (decide := true) only [e_bind, e_then, e_badb, e_var, e_lk_f, e_lk_b, e_lk_l, e_lk_t, e_lk_o, e_C, e_op, e_seq, e_seq_n, e_seq_r, e_seq_b, e_seq_c, e_nil, e_brk, e_exp, e_set, e_asgn, e_ret, e_handed, e_if, e_ifE, e_mBl, e_blR, e_not, e_and, e_or, e_andV, e_orV, e_notV, e_tru, e_truR, e_add, e_sub, e_mul, e_div, e_mod, e_pow, e_lt, e_gt, e_le, e_ge, e_eq, e_ne, e_neg, e_nilA, e_cons, e_callB, e_f1, e_len_str, e_len_lst, e_len_lok, e_len_tup, e_int, e_abs, e_par, e_no, e_while, e_for, e_gNm, e_range1, e_range2, e_rg1, e_rg2, e_slotW, e_get_v, e_get_a, e_fr_f, e_toFv, e_toF_v, e_toF_a, e_toFb, e_toFa, e_fr_l, e_fr_o, e_frs_nil, e_frs_frz, e_frs_cons, e_frF_nil, e_frF_cons, e_prep_nil, e_prep_f, e_prep_t, e_prepT, e_prep_v, e_called, e_calledR, e_bkR, e_back_nil, e_back_cons, e_call, e_callR, e_madeF, e_make, e_fld, e_fldSet, e_fldSetR, e_meth, e_f1l, e_f1a, e_rd_f, e_mkK, e_yes, e_toW, e_toFs_nil, e_toFs_cons, e_tup, e_lst, e_tupR, e_lstR, e_scR, e_f2, e_kR0, e_kR1, e_bits, e_bitsR, e_bm, e_bm_l, e_bm_s, e_app, e_appR, e_asg, e_seqG, e_gsc, e_gsn, e_gTp, e_exc_try, e_turnR_n, e_turnR_c, e_turnR_b, e_turnR_r, e_setIx, e_setA, e_setB, e_setC, e_iter, e_sl, e_pSome, e_pR, e_pNone, e_listR1, e_lr1, e_prepB_nil, e_prepB_cons, e_arg_ff, e_arg_la, e_lentA, e_arg_lf, e_arg_lb, e_arg_ta, e_ownA, e_arg_tv, e_callL, e_callRB, e_calledB, e_calledBR, e_calledBX, e_backB, e_lkBack_nil, e_lkBack_cons, e_nbs_nil, e_nbs_cons, e_nb_f, e_nb_l, e_nb_o, e_nbF_nil, e_nbF_cons, e_nbs_map, e_makeL, e_madeBR, e_methL, e_methLR_f, e_toWs_nil, e_toWs_cons, e_lstW, e_lstWR, e_mPk, e_pkR_i, e_pkR_s, e_pkR_b, e_setP, e_nin_al, e_in_al, e_in_ft, e_in_fl, e_nin_ft, e_nin_fl, e_eqS, e_neS, e_eqB, e_neB, e_sl_s, e_handed_a, e_handedA, e_f1R_len, e_kR2, e_seqK_l, e_seqK_t, e_items_al, e_items_fl, e_items_ft, e_items_ol, e_tuple_v, e_tuple_a, e_tupA, e_tuple_l, e_tuple_t, e_list_l, e_list_t, e_list_o, e_aug, e_augA, e_addI, e_subI, e_chain, e_chR, e_chK, e_fldR_f, List.getElem?_cons_zero, List.getElem?_cons_succ, List.set_cons_zero, List.set_cons_succ, List.length_cons, List.length_nil, Option.map_some, Option.map_none, Option.bind_some, Option.bind_none, if_true, if_false, ite_true, ite_false, reduceIte, decide_true, decide_false, Bool.not_true, Bool.not_false, Bool.and_true, Bool.true_and, Bool.and_false, Bool.false_and, Bool.or_true, Bool.true_or, Bool.or_false, Bool.false_or, ne_eq, not_false_eq_true, not_true_eq_false, Option.some.injEq, reduceCtorEq, and_self, and_true, true_and, Bool.false_eq_true, List.nil_append, List.cons_append, List.append_nil, decide_eq_true_eq, st_lk, st_0, st_1, st_3, hlen, c2]
    · refine ⟨⟨ns, p, q, l, g⟩, none, ?_, ⟨h1, h2, h3, h4, h5, h6, h9, h7, h8⟩⟩
      simp (decide := true) only [e_bind, e_then, e_badb, e_var, e_lk_f, e_lk_b, e_lk_l, e_lk_t, e_lk_o, e_C, e_op, e_seq, e_seq_n, e_seq_r, e_seq_b, e_seq_c, e_nil, e_brk, e_exp, e_set, e_asgn, e_ret, e_handed, e_if, e_ifE, e_mBl, e_blR, e_not, e_and, e_or, e_andV, e_orV, e_notV, e_tru, e_truR, e_add, e_sub, e_mul, e_div, e_mod, e_pow, e_lt, e_gt, e_le, e_ge, e_eq, e_ne, e_neg, e_nilA, e_cons, e_callB, e_f1, e_len_str, e_len_lst, e_len_lok, e_len_tup, e_int, e_abs, e_par, e_no, e_while, e_for, e_gNm, e_range1, e_range2, e_rg1, e_rg2, e_slotW, e_get_v, e_get_a, e_fr_f, e_toFv, e_toF_v, e_toF_a, e_toFb, e_toFa, e_fr_l, e_fr_o, e_frs_nil, e_frs_frz, e_frs_cons, e_frF_nil, e_frF_cons, e_prep_nil, e_prep_f, e_prep_t, e_prepT, e_prep_v, e_called, e_calledR, e_bkR, e_back_nil, e_back_cons, e_call, e_callR, e_madeF, e_make, e_fld, e_fldSet, e_fldSetR, e_meth, e_f1l, e_f1a, e_rd_f, e_mkK, e_yes, e_toW, e_toFs_nil, e_toFs_cons, e_tup, e_lst, e_tupR, e_lstR, e_scR, e_f2, e_kR0, e_kR1, e_bits, e_bitsR, e_bm, e_bm_l, e_bm_s, e_app, e_appR, e_asg, e_seqG, e_gsc, e_gsn, e_gTp, e_exc_try, e_turnR_n, e_turnR_c, e_turnR_b, e_turnR_r, e_setIx, e_setA, e_setB, e_setC, e_iter, e_sl, e_pSome, e_pR, e_pNone, e_listR1, e_lr1, e_prepB_nil, e_prepB_cons, e_arg_ff, e_arg_la, e_lentA, e_arg_lf, e_arg_lb, e_arg_ta, e_ownA, e_arg_tv, e_callL, e_callRB, e_calledB, e_calledBR, e_calledBX, e_backB, e_lkBack_nil, e_lkBack_cons, e_nbs_nil, e_nbs_cons, e_nb_f, e_nb_l, e_nb_o, e_nbF_nil, e_nbF_cons, e_nbs_map, e_makeL, e_madeBR, e_methL, e_methLR_f, e_toWs_nil, e_toWs_cons, e_lstW, e_lstWR, e_mPk, e_pkR_i, e_pkR_s, e_pkR_b, e_setP, e_nin_al, e_in_al, e_in_ft, e_in_fl, e_nin_ft, e_nin_fl, e_eqS, e_neS, e_eqB, e_neB, e_sl_s, e_handed_a, e_handedA, e_f1R_len, e_kR2, e_seqK_l, e_seqK_t, e_items_al, e_items_fl, e_items_ft, e_items_ol, e_tuple_v, e_tuple_a, e_tupA, e_tuple_l, e_tuple_t, e_list_l, e_list_t, e_list_o, e_aug, e_augA, e_addI, e_subI, e_chain, e_chR, e_chK, e_fldR_f, List.getElem?_cons_zero, List.getElem?_cons_succ, List.set_cons_zero, List.set_cons_succ, List.length_cons, List.length_nil, Option.map_some, Option.map_none, Option.bind_some, Option.bind_none, if_true, if_false, ite_true, ite_false, reduceIte, decide_true, decide_false, Bool.not_true, Bool.not_false, Bool.and_true, Bool.true_and, Bool.and_false, Bool.false_and, Bool.or_true, Bool.true_or, Bool.or_false, Bool.false_or, ne_eq, not_false_eq_true, not_true_eq_false, Option.some.injEq, reduceCtorEq, and_self, and_true, true_and, Bool.false_eq_true, List.nil_append, List.cons_append, List.append_nil, decide_eq_true_eq, st_lk, st_0, st_1, st_3, c1]
  obtain ⟨s2, c2, g2, h2⟩ := g2
  obtain ⟨ns, p, q, l, g⟩ := s2
  obtain ⟨h1, h2, h3, h4, h5, h6, h9, h7, h8⟩ := h2
  dsimp only at h1 h2 h3 h4 h5 h6 h7 h8
  by_cases c : 0 < q
  · have rq := fmod_rg q hm
    have dq := fdiv_nn (m := lim) h4 hm
    by_cases c3 : q.fdiv lim = 0 ∨ l - 1 = 0
    · refine ⟨⟨ns, p, 0, 0, g⟩, q.fmod lim, ?_, ⟨h1, h2, h3, by show (0 : Int) ≤ 0; decide, by show (0 : Int) ≤ 0; decide, by show (0 : Int) ≤ 100; decide, fun z => absurd z (by decide : ¬ (0 : Int) < 0), h7, h8⟩, rq.1, rq.2⟩
      refine run_ret (m := m_l_draw K A) (L0 := [some (stW s), some (iW lim), none, none]) (L := [some (stW ⟨ns, p, 0, 0, g⟩), some (iW lim), c2, some (iW (q.fmod lim))]) ?_
      rw [m_l_draw, e_seq, g1, e_seq_n, e_seq, g2, e_seq_n]
      rcases c3 with c3 | c3
      · simp (decide := true) only [e_bind, e_then, e_badb, e_var, e_lk_f, e_lk_b, e_lk_l, e_lk_t, e_lk_o, e_C, e_op, e_seq, e_seq_n, e_seq_r, e_seq_b, e_seq_c, e_nil, e_brk, e_exp, e_set, e_asgn, e_ret, e_handed, e_if, e_ifE, e_mBl, e_blR, e_not, e_and, e_or, e_andV, e_orV, e_notV, e_tru, e_truR, e_add, e_sub, e_mul, e_div, e_mod, e_pow, e_lt, e_gt, e_le, e_ge, e_eq, e_ne, e_neg, e_nilA, e_cons, e_callB, e_f1, e_len_str, e_len_lst, e_len_lok, e_len_tup, e_int, e_abs, e_par, e_no, e_while, e_for, e_gNm, e_range1, e_range2, e_rg1, e_rg2, e_slotW, e_get_v, e_get_a, e_fr_f, e_toFv, e_toF_v, e_toF_a, e_toFb, e_toFa, e_fr_l, e_fr_o, e_frs_nil, e_frs_frz, e_frs_cons, e_frF_nil, e_frF_cons, e_prep_nil, e_prep_f, e_prep_t, e_prepT, e_prep_v, e_called, e_calledR, e_bkR, e_back_nil, e_back_cons, e_call, e_callR, e_madeF, e_make, e_fld, e_fldSet, e_fldSetR, e_meth, e_f1l, e_f1a, e_rd_f, e_mkK, e_yes, e_toW, e_toFs_nil, e_toFs_cons, e_tup, e_lst, e_tupR, e_lstR, e_scR, e_f2, e_kR0, e_kR1, e_bits, e_bitsR, e_bm, e_bm_l, e_bm_s, e_app, e_appR, e_asg, e_seqG, e_gsc, e_gsn, e_gTp, e_exc_try, e_turnR_n, e_turnR_c, e_turnR_b, e_turnR_r, e_setIx, e_setA, e_setB, e_setC, e_iter, e_sl, e_pSome, e_pR, e_pNone, e_listR1, e_lr1, e_prepB_nil, e_prepB_cons, e_arg_ff, e_arg_la, e_lentA, e_arg_lf, e_arg_lb, e_arg_ta, e_ownA, e_arg_tv, e_callL, e_callRB, e_calledB, e_calledBR, e_calledBX, e_backB, e_lkBack_nil, e_lkBack_cons, e_nbs_nil, e_nbs_cons, e_nb_f, e_nb_l, e_nb_o, e_nbF_nil, e_nbF_cons, e_nbs_map, e_makeL, e_madeBR, e_methL, e_methLR_f, e_toWs_nil, e_toWs_cons, e_lstW, e_lstWR, e_mPk, e_pkR_i, e_pkR_s, e_pkR_b, e_setP, e_nin_al, e_in_al, e_in_ft, e_in_fl, e_nin_ft, e_nin_fl, e_eqS, e_neS, e_eqB, e_neB, e_sl_s, e_handed_a, e_handedA, e_f1R_len, e_kR2, e_seqK_l, e_seqK_t, e_items_al, e_items_fl, e_items_ft, e_items_ol, e_tuple_v, e_tuple_a, e_tupA, e_tuple_l, e_tuple_t, e_list_l, e_list_t, e_list_o, e_aug, e_augA, e_addI, e_subI, e_chain, e_chR, e_chK, e_fldR_f, List.getElem?_cons_zero, List.getElem?_cons_succ, List.set_cons_zero, List.set_cons_succ, List.length_cons, List.length_nil, Option.map_some, Option.map_none, Option.bind_some, Option.bind_none, if_true, if_false, ite_true, ite_false, reduceIte, decide_true, decide_false, Bool.not_true, Bool.not_false, Bool.and_true, Bool.true_and, Bool.and_false, Bool.false_and, Bool.or_true, Bool.true_or, Bool.or_false, Bool.false_or, ne_eq, not_false_eq_true, not_true_eq_false, Option.some.injEq, reduceCtorEq, and_self, and_true, true_and, Bool.false_eq_true, List.nil_append, List.cons_append, List.append_nil, decide_eq_true_eq, st_lk, st_2, st_3, sa, sb_2, sb_3, c, hz, hd, c3]
      · by_cases c4 : q.fdiv lim = 0
        · simp (decide := true) only [e_bind, e_then, e_badb, e_var, e_lk_f, e_lk_b, e_lk_l, e_lk_t, e_lk_o, e_C, e_op, e_seq, e_seq_n, e_seq_r, e_seq_b, e_seq_c, e_nil, e_brk, e_exp, e_set, e_asgn, e_ret, e_handed, e_if, e_ifE, e_mBl, e_blR, e_not, e_and, e_or, e_andV, e_orV, e_notV, e_tru, e_truR, e_add, e_sub, e_mul, e_div, e_mod, e_pow, e_lt, e_gt, e_le, e_ge, e_eq, e_ne, e_neg, e_nilA, e_cons, e_callB, e_f1, e_len_str, e_len_lst, e_len_lok, e_len_tup, e_int, e_abs, e_par, e_no, e_while, e_for, e_gNm, e_range1, e_range2, e_rg1, e_rg2, e_slotW, e_get_v, e_get_a, e_fr_f, e_toFv, e_toF_v, e_toF_a, e_toFb, e_toFa, e_fr_l, e_fr_o, e_frs_nil, e_frs_frz, e_frs_cons, e_frF_nil, e_frF_cons, e_prep_nil, e_prep_f, e_prep_t, e_prepT, e_prep_v, e_called, e_calledR, e_bkR, e_back_nil, e_back_cons, e_call, e_callR, e_madeF, e_make, e_fld, e_fldSet, e_fldSetR, e_meth, e_f1l, e_f1a, e_rd_f, e_mkK, e_yes, e_toW, e_toFs_nil, e_toFs_cons, e_tup, e_lst, e_tupR, e_lstR, e_scR, e_f2, e_kR0, e_kR1, e_bits, e_bitsR, e_bm, e_bm_l, e_bm_s, e_app, e_appR, e_asg, e_seqG, e_gsc, e_gsn, e_gTp, e_exc_try, e_turnR_n, e_turnR_c, e_turnR_b, e_turnR_r, e_setIx, e_setA, e_setB, e_setC, e_iter, e_sl, e_pSome, e_pR, e_pNone, e_listR1, e_lr1, e_prepB_nil, e_prepB_cons, e_arg_ff, e_arg_la, e_lentA, e_arg_lf, e_arg_lb, e_arg_ta, e_ownA, e_arg_tv, e_callL, e_callRB, e_calledB, e_calledBR, e_calledBX, e_backB, e_lkBack_nil, e_lkBack_cons, e_nbs_nil, e_nbs_cons, e_nb_f, e_nb_l, e_nb_o, e_nbF_nil, e_nbF_cons, e_nbs_map, e_makeL, e_madeBR, e_methL, e_methLR_f, e_toWs_nil, e_toWs_cons, e_lstW, e_lstWR, e_mPk, e_pkR_i, e_pkR_s, e_pkR_b, e_setP, e_nin_al, e_in_al, e_in_ft, e_in_fl, e_nin_ft, e_nin_fl, e_eqS, e_neS, e_eqB, e_neB, e_sl_s, e_handed_a, e_handedA, e_f1R_len, e_kR2, e_seqK_l, e_seqK_t, e_items_al, e_items_fl, e_items_ft, e_items_ol, e_tuple_v, e_tuple_a, e_tupA, e_tuple_l, e_tuple_t, e_list_l, e_list_t, e_list_o, e_aug, e_augA, e_addI, e_subI, e_chain, e_chR, e_chK, e_fldR_f, List.getElem?_cons_zero, List.getElem?_cons_succ, List.set_cons_zero, List.set_cons_succ, List.length_cons, List.length_nil, Option.map_some, Option.map_none, Option.bind_some, Option.bind_none, if_true, if_false, ite_true, ite_false, reduceIte, decide_true, decide_false, Bool.not_true, Bool.not_false, Bool.and_true, Bool.true_and, Bool.and_false, Bool.false_and, Bool.or_true, Bool.true_or, Bool.or_false, Bool.false_or, ne_eq, not_false_eq_true, not_true_eq_false, Option.some.injEq, reduceCtorEq, and_self, and_true, true_and, Bool.false_eq_true, List.nil_append, List.cons_append, List.append_nil, decide_eq_true_eq, st_lk, st_2, st_3, sa, sb_2, sb_3, c, hz, hd, c4]
        · simp (decide := true) only [e_bind, e_then, e_badb, e_var, e_lk_f, e_lk_b, e_lk_l, e_lk_t, e_lk_o, e_C, e_op, e_seq, e_seq_n, e_seq_r, e_seq_b, e_seq_c, e_nil, e_brk, e_exp, e_set, e_asgn, e_ret, e_handed, e_if, e_ifE, e_mBl, e_blR, e_not, e_and, e_or, e_andV, e_orV, e_notV, e_tru, e_truR, e_add, e_sub, e_mul, e_div, e_mod, e_pow, e_lt, e_gt, e_le, e_ge, e_eq, e_ne, e_neg, e_nilA, e_cons, e_callB, e_f1, e_len_str, e_len_lst, e_len_lok, e_len_tup, e_int, e_abs, e_par, e_no, e_while, e_for, e_gNm, e_range1, e_range2, e_rg1, e_rg2, e_slotW, e_get_v, e_get_a, e_fr_f, e_toFv, e_toF_v, e_toF_a, e_toFb, e_toFa, e_fr_l, e_fr_o, e_frs_nil, e_frs_frz, e_frs_cons, e_frF_nil, e_frF_cons, e_prep_nil, e_prep_f, e_prep_t, e_prepT, e_prep_v, e_called, e_calledR, e_bkR, e_back_nil, e_back_cons, e_call, e_callR, e_madeF, e_make, e_fld, e_fldSet, e_fldSetR, e_meth, e_f1l, e_f1a, e_rd_f, e_mkK, e_yes, e_toW, e_toFs_nil, e_toFs_cons, e_tup, e_lst, e_tupR, e_lstR, e_scR, e_f2, e_kR0, e_kR1, e_bits, e_bitsR, e_bm, e_bm_l, e_bm_s, e_app, e_appR, e_asg, e_seqG, e_gsc, e_gsn, e_gTp, e_exc_try, e_turnR_n, e_turnR_c, e_turnR_b, e_turnR_r, e_setIx, e_setA, e_setB, e_setC, e_iter, e_sl, e_pSome, e_pR, e_pNone, e_listR1, e_lr1, e_prepB_nil, e_prepB_cons, e_arg_ff, e_arg_la, e_lentA, e_arg_lf, e_arg_lb, e_arg_ta, e_ownA, e_arg_tv, e_callL, e_callRB, e_calledB, e_calledBR, e_calledBX, e_backB, e_lkBack_nil, e_lkBack_cons, e_nbs_nil, e_nbs_cons, e_nb_f, e_nb_l, e_nb_o, e_nbF_nil, e_nbF_cons, e_nbs_map, e_makeL, e_madeBR, e_methL, e_methLR_f, e_toWs_nil, e_toWs_cons, e_lstW, e_lstWR, e_mPk, e_pkR_i, e_pkR_s, e_pkR_b, e_setP, e_nin_al, e_in_al, e_in_ft, e_in_fl, e_nin_ft, e_nin_fl, e_eqS, e_neS, e_eqB, e_neB, e_sl_s, e_handed_a, e_handedA, e_f1R_len, e_kR2, e_seqK_l, e_seqK_t, e_items_al, e_items_fl, e_items_ft, e_items_ol, e_tuple_v, e_tuple_a, e_tupA, e_tuple_l, e_tuple_t, e_list_l, e_list_t, e_list_o, e_aug, e_augA, e_addI, e_subI, e_chain, e_chR, e_chK, e_fldR_f, List.getElem?_cons_zero, List.getElem?_cons_succ, List.set_cons_zero, List.set_cons_succ, List.length_cons, List.length_nil, Option.map_some, Option.map_none, Option.bind_some, Option.bind_none, if_true, if_false, ite_true, ite_false, reduceIte, decide_true, decide_false, Bool.not_true, Bool.not_false, Bool.and_true, Bool.true_and, Bool.and_false, Bool.false_and, Bool.or_true, Bool.true_or, Bool.or_false, Bool.false_or, ne_eq, not_false_eq_true, not_true_eq_false, Option.some.injEq, reduceCtorEq, and_self, and_true, true_and, Bool.false_eq_true, List.nil_append, List.cons_append, List.append_nil, decide_eq_true_eq, st_lk, st_2, st_3, sa, sb_2, sb_3, c, hz, hd, c3, c4]
    · have c5 : ¬ q.fdiv lim = 0 := fun z => c3 (.inl z)
      have c6 : ¬ l - 1 = 0 := fun z => c3 (.inr z)
      have c7 : 0 ≤ l - 1 := by have z : 0 < q → 0 < l := h9; have := z c; omega
      · refine ⟨⟨ns, p, q.fdiv lim, l - 1, g⟩, q.fmod lim, ?_, ⟨h1, h2, h3, dq, c7, by show l - 1 ≤ 100; omega, fun _ => by show 0 < l - 1; omega, h7, h8⟩, rq.1, rq.2⟩
        refine run_ret (m := m_l_draw K A) (L0 := [some (stW s), some (iW lim), none, none]) (L := [some (stW ⟨ns, p, q.fdiv lim, l - 1, g⟩), some (iW lim), c2, some (iW (q.fmod lim))]) ?_
        rw [m_l_draw, e_seq, g1, e_seq_n, e_seq, g2, e_seq_n]
        simp (decide := true) only [e_bind, e_then, e_badb, e_var, e_lk_f, e_lk_b, e_lk_l, e_lk_t, e_lk_o, e_C, e_op, e_seq, e_seq_n, e_seq_r, e_seq_b, e_seq_c, e_nil, e_brk, e_exp, e_set, e_asgn, e_ret, e_handed, e_if, e_ifE, e_mBl, e_blR, e_not, e_and, e_or, e_andV, e_orV, e_notV, e_tru, e_truR, e_add, e_sub, e_mul, e_div, e_mod, e_pow, e_lt, e_gt, e_le, e_ge, e_eq, e_ne, e_neg, e_nilA, e_cons, e_callB, e_f1, e_len_str, e_len_lst, e_len_lok, e_len_tup, e_int, e_abs, e_par, e_no, e_while, e_for, e_gNm, e_range1, e_range2, e_rg1, e_rg2, e_slotW, e_get_v, e_get_a, e_fr_f, e_toFv, e_toF_v, e_toF_a, e_toFb, e_toFa, e_fr_l, e_fr_o, e_frs_nil, e_frs_frz, e_frs_cons, e_frF_nil, e_frF_cons, e_prep_nil, e_prep_f, e_prep_t, e_prepT, e_prep_v, e_called, e_calledR, e_bkR, e_back_nil, e_back_cons, e_call, e_callR, e_madeF, e_make, e_fld, e_fldSet, e_fldSetR, e_meth, e_f1l, e_f1a, e_rd_f, e_mkK, e_yes, e_toW, e_toFs_nil, e_toFs_cons, e_tup, e_lst, e_tupR, e_lstR, e_scR, e_f2, e_kR0, e_kR1, e_bits, e_bitsR, e_bm, e_bm_l, e_bm_s, e_app, e_appR, e_asg, e_seqG, e_gsc, e_gsn, e_gTp, e_exc_try, e_turnR_n, e_turnR_c, e_turnR_b, e_turnR_r, e_setIx, e_setA, e_setB, e_setC, e_iter, e_sl, e_pSome, e_pR, e_pNone, e_listR1, e_lr1, e_prepB_nil, e_prepB_cons, e_arg_ff, e_arg_la, e_lentA, e_arg_lf, e_arg_lb, e_arg_ta, e_ownA, e_arg_tv, e_callL, e_callRB, e_calledB, e_calledBR, e_calledBX, e_backB, e_lkBack_nil, e_lkBack_cons, e_nbs_nil, e_nbs_cons, e_nb_f, e_nb_l, e_nb_o, e_nbF_nil, e_nbF_cons, e_nbs_map, e_makeL, e_madeBR, e_methL, e_methLR_f, e_toWs_nil, e_toWs_cons, e_lstW, e_lstWR, e_mPk, e_pkR_i, e_pkR_s, e_pkR_b, e_setP, e_nin_al, e_in_al, e_in_ft, e_in_fl, e_nin_ft, e_nin_fl, e_eqS, e_neS, e_eqB, e_neB, e_sl_s, e_handed_a, e_handedA, e_f1R_len, e_kR2, e_seqK_l, e_seqK_t, e_items_al, e_items_fl, e_items_ft, e_items_ol, e_tuple_v, e_tuple_a, e_tupA, e_tuple_l, e_tuple_t, e_list_l, e_list_t, e_list_o, e_aug, e_augA, e_addI, e_subI, e_chain, e_chR, e_chK, e_fldR_f, List.getElem?_cons_zero, List.getElem?_cons_succ, List.set_cons_zero, List.set_cons_succ, List.length_cons, List.length_nil, Option.map_some, Option.map_none, Option.bind_some, Option.bind_none, if_true, if_false, ite_true, ite_false, reduceIte, decide_true, decide_false, Bool.not_true, Bool.not_false, Bool.and_true, Bool.true_and, Bool.and_false, Bool.false_and, Bool.or_true, Bool.true_or, Bool.or_false, Bool.false_or, ne_eq, not_false_eq_true, not_true_eq_false, Option.some.injEq, reduceCtorEq, and_self, and_true, true_and, Bool.false_eq_true, List.nil_append, List.cons_append, List.append_nil, decide_eq_true_eq, st_lk, st_2, st_3, sa, sb_2, sb_3, c, hz, hd, c5, c6]
  · have rb := fmod_rg (g * 48271 + 12345) (m := 2147483647) (by decide)
    have m1 : SzM g 48271 := (bitOf (n := 31) h7 h8 (by decide)).szM (Bit.of (n := 31) (by decide) (by decide)) (by decide)
    have m2 : SzM ((g * 48271 + 12345).fmod 2147483647) 40692 := (bitOf (n := 31) rb.1 rb.2 (by decide)).szM (Bit.of (n := 31) (by decide) (by decide)) (by decide)
    have rr := fmod_rg (((g * 48271 + 12345).fmod 2147483647 * 40692 + 3791).fmod 2147483399) hm
    have z : (2147483647 : Int) ≠ 0 := by decide
    have z2 : (2147483399 : Int) ≠ 0 := by decide
    have hmx : maxD (.int 0) (.int (l - 1)) = some (.int (if l - 1 > 0 then l - 1 else 0)) := rfl
    generalize hl : (if l - 1 > 0 then l - 1 else 0) = l2 at *
    refine ⟨⟨ns, p, q, l2, (g * 48271 + 12345).fmod 2147483647⟩, (((g * 48271 + 12345).fmod 2147483647 * 40692 + 3791).fmod 2147483399).fmod lim, ?_, ⟨h1, h2, h3, h4, by show 0 ≤ l2; rw [← hl]; split <;> omega, by show l2 ≤ 100; rw [← hl]; split <;> omega, fun z => absurd z c, rb.1, Int.lt_trans rb.2 (by decide)⟩, rr.1, rr.2⟩
    refine run_ret (m := m_l_draw K A) (L0 := [some (stW s), some (iW lim), none, none]) (L := [some (stW ⟨ns, p, q, l2, (g * 48271 + 12345).fmod 2147483647⟩), some (iW lim), c2, none]) ?_
    rw [m_l_draw, e_seq, g1, e_seq_n, e_seq, g2, e_seq_n]
    simp (decide := true) only [e_bind, e_then, e_badb, e_var, e_lk_f, e_lk_b, e_lk_l, e_lk_t, e_lk_o, e_C, e_op, e_seq, e_seq_n, e_seq_r, e_seq_b, e_seq_c, e_nil, e_brk, e_exp, e_set, e_asgn, e_ret, e_handed, e_if, e_ifE, e_mBl, e_blR, e_not, e_and, e_or, e_andV, e_orV, e_notV, e_tru, e_truR, e_add, e_sub, e_mul, e_div, e_mod, e_pow, e_lt, e_gt, e_le, e_ge, e_eq, e_ne, e_neg, e_nilA, e_cons, e_callB, e_f1, e_len_str, e_len_lst, e_len_lok, e_len_tup, e_int, e_abs, e_par, e_no, e_while, e_for, e_gNm, e_range1, e_range2, e_rg1, e_rg2, e_slotW, e_get_v, e_get_a, e_fr_f, e_toFv, e_toF_v, e_toF_a, e_toFb, e_toFa, e_fr_l, e_fr_o, e_frs_nil, e_frs_frz, e_frs_cons, e_frF_nil, e_frF_cons, e_prep_nil, e_prep_f, e_prep_t, e_prepT, e_prep_v, e_called, e_calledR, e_bkR, e_back_nil, e_back_cons, e_call, e_callR, e_madeF, e_make, e_fld, e_fldSet, e_fldSetR, e_meth, e_f1l, e_f1a, e_rd_f, e_mkK, e_yes, e_toW, e_toFs_nil, e_toFs_cons, e_tup, e_lst, e_tupR, e_lstR, e_scR, e_f2, e_kR0, e_kR1, e_bits, e_bitsR, e_bm, e_bm_l, e_bm_s, e_app, e_appR, e_asg, e_seqG, e_gsc, e_gsn, e_gTp, e_exc_try, e_turnR_n, e_turnR_c, e_turnR_b, e_turnR_r, e_setIx, e_setA, e_setB, e_setC, e_iter, e_sl, e_pSome, e_pR, e_pNone, e_listR1, e_lr1, e_prepB_nil, e_prepB_cons, e_arg_ff, e_arg_la, e_lentA, e_arg_lf, e_arg_lb, e_arg_ta, e_ownA, e_arg_tv, e_callL, e_callRB, e_calledB, e_calledBR, e_calledBX, e_backB, e_lkBack_nil, e_lkBack_cons, e_nbs_nil, e_nbs_cons, e_nb_f, e_nb_l, e_nb_o, e_nbF_nil, e_nbF_cons, e_nbs_map, e_makeL, e_madeBR, e_methL, e_methLR_f, e_toWs_nil, e_toWs_cons, e_lstW, e_lstWR, e_mPk, e_pkR_i, e_pkR_s, e_pkR_b, e_setP, e_nin_al, e_in_al, e_in_ft, e_in_fl, e_nin_ft, e_nin_fl, e_eqS, e_neS, e_eqB, e_neB, e_sl_s, e_handed_a, e_handedA, e_f1R_len, e_kR2, e_seqK_l, e_seqK_t, e_items_al, e_items_fl, e_items_ft, e_items_ol, e_tuple_v, e_tuple_a, e_tupA, e_tuple_l, e_tuple_t, e_list_l, e_list_t, e_list_o, e_aug, e_augA, e_addI, e_subI, e_chain, e_chR, e_chK, e_fldR_f, List.getElem?_cons_zero, List.getElem?_cons_succ, List.set_cons_zero, List.set_cons_succ, List.length_cons, List.length_nil, Option.map_some, Option.map_none, Option.bind_some, Option.bind_none, if_true, if_false, ite_true, ite_false, reduceIte, decide_true, decide_false, Bool.not_true, Bool.not_false, Bool.and_true, Bool.true_and, Bool.and_false, Bool.false_and, Bool.or_true, Bool.true_or, Bool.or_false, Bool.false_or, ne_eq, not_false_eq_true, not_true_eq_false, Option.some.injEq, reduceCtorEq, and_self, and_true, true_and, Bool.false_eq_true, List.nil_append, List.cons_append, List.append_nil, decide_eq_true_eq, st_lk, st_2, st_3, st_4, sa, sb_3, sb_4, c, hz, m1, z, m2, z2, hmx]
end
end L

set_option exponentiation.threshold 20000
namespace L
open PySem PySem.Spec PyProof.Rows L2 BV
theorem bit31 {m : Int} (h0 : 0 ≤ m) (h : m < 2147483648) : Bit 8000 m := (bitOf (n := 31) h0 h (by decide)).mono (by decide)
theorem szR {m : Int} (h0 : 0 ≤ m) (h : m < 2147483648) : SzR m := ⟨by omega, by omega⟩
theorem ten_le {a b : Nat} (h : a ≤ b) : (10 : Int) ^ a ≤ 10 ^ b := by
  have h3 := Int.ofNat_le.mpr (Nat.pow_le_pow_right (n := 10) (by decide) h)
  rw [Int.natCast_pow, Int.natCast_pow] at h3
  exact h3
abbrev signs : Str := " !\"#$&'()*+,-./0123456789:;<=>?@ABCDEFGHIJKLMNOPQRSTUVWXYZ[\\]^_`abcdefghijklmnopqrstuvwxyz{|}~"
theorem signs_len : signs.cps.toList.length = 94 := by decide +kernel
theorem ab_in : ∀ c ∈ (("ab" : Str)).cps.toList, c ∈ signs.cps.toList := by decide +kernel
theorem ab2_in : ∀ c ∈ (("abAB01" : Str)).cps.toList, c ∈ signs.cps.toList := by decide +kernel
theorem ab_len : (("ab" : Str)).cps.toList.length = 2 := by decide +kernel
theorem ab2_len : (("abAB01" : Str)).cps.toList.length = 6 := by decide +kernel
/-- a text of at most n signs -/
structure Tx (n : Nat) (t : Str) : Prop where
  len : t.length ≤ n
  sg : ∀ c ∈ t.cps.toList, c ∈ signs.cps.toList
theorem Tx.mono {n m : Nat} {t : Str} (h : Tx n t) (k : n ≤ m) : Tx m t := ⟨Nat.le_trans h.len k, h.sg⟩
theorem tx_nil (n : Nat) : Tx n "" := ⟨Nat.zero_le _, fun c h => by cases h⟩
section
variable {K : PySem.W.Frag} {A : Ad}
theorem signs_is : fn_l_signs K A [] = .ok (.frz (.str signs)) [] := by
  refine run_ret (m := m_l_signs K A) (L0 := []) (L := []) ?_
  simp (decide := true) only [e_bind, e_then, e_badb, e_var, e_lk_f, e_lk_b, e_lk_l, e_lk_t, e_lk_o, e_C, e_op, e_seq, e_seq_n, e_seq_r, e_seq_b, e_seq_c, e_nil, e_brk, e_exp, e_set, e_asgn, e_ret, e_handed, e_if, e_ifE, e_mBl, e_blR, e_not, e_and, e_or, e_andV, e_orV, e_notV, e_tru, e_truR, e_add, e_sub, e_mul, e_div, e_mod, e_pow, e_lt, e_gt, e_le, e_ge, e_eq, e_ne, e_neg, e_nilA, e_cons, e_callB, e_f1, e_len_str, e_len_lst, e_len_lok, e_len_tup, e_int, e_abs, e_par, e_no, e_while, e_for, e_gNm, e_range1, e_range2, e_rg1, e_rg2, e_slotW, e_get_v, e_get_a, e_fr_f, e_toFv, e_toF_v, e_toF_a, e_toFb, e_toFa, e_fr_l, e_fr_o, e_frs_nil, e_frs_frz, e_frs_cons, e_frF_nil, e_frF_cons, e_prep_nil, e_prep_f, e_prep_t, e_prepT, e_prep_v, e_called, e_calledR, e_bkR, e_back_nil, e_back_cons, e_call, e_callR, e_madeF, e_make, e_fld, e_fldSet, e_fldSetR, e_meth, e_f1l, e_f1a, e_rd_f, e_mkK, e_yes, e_toW, e_toFs_nil, e_toFs_cons, e_tup, e_lst, e_tupR, e_lstR, e_scR, e_f2, e_kR0, e_kR1, e_bits, e_bitsR, e_bm, e_bm_l, e_bm_s, e_app, e_appR, e_asg, e_seqG, e_gsc, e_gsn, e_gTp, e_exc_try, e_turnR_n, e_turnR_c, e_turnR_b, e_turnR_r, e_setIx, e_setA, e_setB, e_setC, e_iter, e_sl, e_pSome, e_pR, e_pNone, e_listR1, e_lr1, e_prepB_nil, e_prepB_cons, e_arg_ff, e_arg_la, e_lentA, e_arg_lf, e_arg_lb, e_arg_ta, e_ownA, e_arg_tv, e_callL, e_callRB, e_calledB, e_calledBR, e_calledBX, e_backB, e_lkBack_nil, e_lkBack_cons, e_nbs_nil, e_nbs_cons, e_nb_f, e_nb_l, e_nb_o, e_nbF_nil, e_nbF_cons, e_nbs_map, e_makeL, e_madeBR, e_methL, e_methLR_f, e_toWs_nil, e_toWs_cons, e_lstW, e_lstWR, e_mPk, e_pkR_i, e_pkR_s, e_pkR_b, e_setP, e_nin_al, e_in_al, e_in_ft, e_in_fl, e_nin_ft, e_nin_fl, e_eqS, e_neS, e_eqB, e_neB, e_sl_s, e_handed_a, e_handedA, e_f1R_len, e_kR2, e_seqK_l, e_seqK_t, e_items_al, e_items_fl, e_items_ft, e_items_ol, e_tuple_v, e_tuple_a, e_tupA, e_tuple_l, e_tuple_t, e_list_l, e_list_t, e_list_o, e_aug, e_augA, e_addI, e_subI, e_chain, e_chR, e_chK, e_fldR_f, List.getElem?_cons_zero, List.getElem?_cons_succ, List.set_cons_zero, List.set_cons_succ, List.length_cons, List.length_nil, Option.map_some, Option.map_none, Option.bind_some, Option.bind_none, if_true, if_false, ite_true, ite_false, reduceIte, decide_true, decide_false, Bool.not_true, Bool.not_false, Bool.and_true, Bool.true_and, Bool.and_false, Bool.false_and, Bool.or_true, Bool.true_or, Bool.or_false, Bool.false_or, ne_eq, not_false_eq_true, not_true_eq_false, Option.some.injEq, reduceCtorEq, and_self, and_true, true_and, Bool.false_eq_true, List.nil_append, List.cons_append, List.append_nil, decide_eq_true_eq, m_l_signs]
theorem wide_is {s : DS} (h : s.Ok) : ∃ s' n, fn_l_wide K A [stW s] = .ok (iW n) [stW s'] ∧ s'.Ok ∧ 0 ≤ n ∧ n < 10 ^ 40 := by
  have hp : SzP 10 9 := ⟨by decide, by decide, by decide⟩
  have hpw : ∀ L : Lc, aPow (.val (.frz (.int 10))) (.val (.frz (.int 9))) L = .ok (.val (.frz (.int 1000000000))) L := fun L => by
    rw [e_pow 10 9 hp]
    rfl
  obtain ⟨L1, e1, s1, n1, k1, rfl, o1, a1, b1⟩ := for_all (g := gNm fl_l_wide 2) (body := m_l_wide_b1 K A) (ws := intsW 0 5) (L := [some (stW s), some (iW 0), none, none])
    (fun i L => ∃ s n k, L = [some (stW s), some (iW n), k, none] ∧ s.Ok ∧ 0 ≤ n ∧ n < 10 ^ (9 * i))
    (fun i w L hw ⟨s, n, k, e, o, a, b⟩ => by
      obtain ⟨hi, rfl⟩ := intsW_get hw
      subst e
      obtain ⟨s', r, e2, o2, r0, r1⟩ := draw_is (K := K) (A := A) o (lim := 1000000000) (by decide) (bit31 (by decide) (by decide))
      have hn : n < 2 ^ 200 := Int.lt_of_lt_of_le b (Int.le_trans (ten_le (show 9 * i ≤ 45 by omega)) (by decide +kernel))
      have m1 : SzM n 1000000000 := (bitOf (n := 200) a hn (Int.le_refl _)).szM (bitOf (n := 31) (by decide) (show (1000000000 : Int) < 2147483648 by decide) (by decide)) (by decide)
      refine ⟨_, ?_, s', n * 1000000000 + r, some (iW (0 + (i : Nat))), rfl, o2, by omega, ?_⟩
      · rw [turn_is]
        generalize (1000000000 : Int) = bil at *
        simp (decide := true) only [e_bind, e_then, e_badb, e_var, e_lk_f, e_lk_b, e_lk_l, e_lk_t, e_lk_o, e_C, e_op, e_seq, e_seq_n, e_seq_r, e_seq_b, e_seq_c, e_nil, e_brk, e_exp, e_set, e_asgn, e_ret, e_handed, e_if, e_ifE, e_mBl, e_blR, e_not, e_and, e_or, e_andV, e_orV, e_notV, e_tru, e_truR, e_add, e_sub, e_mul, e_div, e_mod, e_pow, e_lt, e_gt, e_le, e_ge, e_eq, e_ne, e_neg, e_nilA, e_cons, e_callB, e_f1, e_len_str, e_len_lst, e_len_lok, e_len_tup, e_int, e_abs, e_par, e_no, e_while, e_for, e_gNm, e_range1, e_range2, e_rg1, e_rg2, e_slotW, e_get_v, e_get_a, e_fr_f, e_toFv, e_toF_v, e_toF_a, e_toFb, e_toFa, e_fr_l, e_fr_o, e_frs_nil, e_frs_frz, e_frs_cons, e_frF_nil, e_frF_cons, e_prep_nil, e_prep_f, e_prep_t, e_prepT, e_prep_v, e_called, e_calledR, e_bkR, e_back_nil, e_back_cons, e_call, e_callR, e_madeF, e_make, e_fld, e_fldSet, e_fldSetR, e_meth, e_f1l, e_f1a, e_rd_f, e_mkK, e_yes, e_toW, e_toFs_nil, e_toFs_cons, e_tup, e_lst, e_tupR, e_lstR, e_scR, e_f2, e_kR0, e_kR1, e_bits, e_bitsR, e_bm, e_bm_l, e_bm_s, e_app, e_appR, e_asg, e_seqG, e_gsc, e_gsn, e_gTp, e_exc_try, e_turnR_n, e_turnR_c, e_turnR_b, e_turnR_r, e_setIx, e_setA, e_setB, e_setC, e_iter, e_sl, e_pSome, e_pR, e_pNone, e_listR1, e_lr1, e_prepB_nil, e_prepB_cons, e_arg_ff, e_arg_la, e_lentA, e_arg_lf, e_arg_lb, e_arg_ta, e_ownA, e_arg_tv, e_callL, e_callRB, e_calledB, e_calledBR, e_calledBX, e_backB, e_lkBack_nil, e_lkBack_cons, e_nbs_nil, e_nbs_cons, e_nb_f, e_nb_l, e_nb_o, e_nbF_nil, e_nbF_cons, e_nbs_map, e_makeL, e_madeBR, e_methL, e_methLR_f, e_toWs_nil, e_toWs_cons, e_lstW, e_lstWR, e_mPk, e_pkR_i, e_pkR_s, e_pkR_b, e_setP, e_nin_al, e_in_al, e_in_ft, e_in_fl, e_nin_ft, e_nin_fl, e_eqS, e_neS, e_eqB, e_neB, e_sl_s, e_handed_a, e_handedA, e_f1R_len, e_kR2, e_seqK_l, e_seqK_t, e_items_al, e_items_fl, e_items_ft, e_items_ol, e_tuple_v, e_tuple_a, e_tupA, e_tuple_l, e_tuple_t, e_list_l, e_list_t, e_list_o, e_aug, e_augA, e_addI, e_subI, e_chain, e_chR, e_chK, e_fldR_f, List.getElem?_cons_zero, List.getElem?_cons_succ, List.set_cons_zero, List.set_cons_succ, List.length_cons, List.length_nil, Option.map_some, Option.map_none, Option.bind_some, Option.bind_none, if_true, if_false, ite_true, ite_false, reduceIte, decide_true, decide_false, Bool.not_true, Bool.not_false, Bool.and_true, Bool.true_and, Bool.and_false, Bool.false_and, Bool.or_true, Bool.true_or, Bool.or_false, Bool.false_or, ne_eq, not_false_eq_true, not_true_eq_false, Option.some.injEq, reduceCtorEq, and_self, and_true, true_and, Bool.false_eq_true, List.nil_append, List.cons_append, List.append_nil, decide_eq_true_eq, m_l_wide_b1, hpw, m1, st_lk, e2]
      · have e9 : (10 : Int) ^ (9 * (i + 1)) = 10 ^ (9 * i) * 1000000000 := by rw [Nat.mul_succ, Int.pow_add]; rfl
        rw [e9]
        have : n + 1 ≤ 10 ^ (9 * i) := b
        have := Int.mul_le_mul_of_nonneg_right this (show (0 : Int) ≤ 1000000000 by decide)
        omega)
    ⟨s, 0, none, rfl, h, by decide, by decide⟩
  obtain ⟨s2, r2, e2, o2, c0, c1⟩ := draw_is (K := K) (A := A) o1 (lim := 41) (by decide) (bit31 (by decide) (by decide))
  obtain ⟨rn, rfl⟩ : ∃ k : Nat, r2 = (k : Nat) := ⟨r2.toNat, by omega⟩
  obtain ⟨L3, e3, k3, rfl⟩ := for_all (g := gNm fl_l_wide 2) (body := m_l_wide_b2 K A) (ws := intsW 0 rn) (L := [some (stW s2), some (iW n1), k1, some (iW 1)])
    (fun i L => ∃ k, L = [some (stW s2), some (iW n1), k, some (iW (10 ^ i))])
    (fun i w L hw ⟨k, e⟩ => by
      obtain ⟨hi, rfl⟩ := intsW_get hw
      subst e
      have hb : Bit (4 * i + 1) ((10 : Int) ^ i) := Bit.pow (bitOf (n := 4) (by decide) (show (10 : Int) < 16 by decide) (by decide)) i
      have m1 : SzM ((10 : Int) ^ i) 10 := hb.szM (bitOf (n := 4) (by decide) (show (10 : Int) < 16 by decide) (by decide)) (by omega)
      refine ⟨_, ?_, some (iW (0 + (i : Nat))), rfl⟩
      rw [turn_is, Int.pow_succ]
      simp (decide := true) only [e_bind, e_then, e_badb, e_var, e_lk_f, e_lk_b, e_lk_l, e_lk_t, e_lk_o, e_C, e_op, e_seq, e_seq_n, e_seq_r, e_seq_b, e_seq_c, e_nil, e_brk, e_exp, e_set, e_asgn, e_ret, e_handed, e_if, e_ifE, e_mBl, e_blR, e_not, e_and, e_or, e_andV, e_orV, e_notV, e_tru, e_truR, e_add, e_sub, e_mul, e_div, e_mod, e_pow, e_lt, e_gt, e_le, e_ge, e_eq, e_ne, e_neg, e_nilA, e_cons, e_callB, e_f1, e_len_str, e_len_lst, e_len_lok, e_len_tup, e_int, e_abs, e_par, e_no, e_while, e_for, e_gNm, e_range1, e_range2, e_rg1, e_rg2, e_slotW, e_get_v, e_get_a, e_fr_f, e_toFv, e_toF_v, e_toF_a, e_toFb, e_toFa, e_fr_l, e_fr_o, e_frs_nil, e_frs_frz, e_frs_cons, e_frF_nil, e_frF_cons, e_prep_nil, e_prep_f, e_prep_t, e_prepT, e_prep_v, e_called, e_calledR, e_bkR, e_back_nil, e_back_cons, e_call, e_callR, e_madeF, e_make, e_fld, e_fldSet, e_fldSetR, e_meth, e_f1l, e_f1a, e_rd_f, e_mkK, e_yes, e_toW, e_toFs_nil, e_toFs_cons, e_tup, e_lst, e_tupR, e_lstR, e_scR, e_f2, e_kR0, e_kR1, e_bits, e_bitsR, e_bm, e_bm_l, e_bm_s, e_app, e_appR, e_asg, e_seqG, e_gsc, e_gsn, e_gTp, e_exc_try, e_turnR_n, e_turnR_c, e_turnR_b, e_turnR_r, e_setIx, e_setA, e_setB, e_setC, e_iter, e_sl, e_pSome, e_pR, e_pNone, e_listR1, e_lr1, e_prepB_nil, e_prepB_cons, e_arg_ff, e_arg_la, e_lentA, e_arg_lf, e_arg_lb, e_arg_ta, e_ownA, e_arg_tv, e_callL, e_callRB, e_calledB, e_calledBR, e_calledBX, e_backB, e_lkBack_nil, e_lkBack_cons, e_nbs_nil, e_nbs_cons, e_nb_f, e_nb_l, e_nb_o, e_nbF_nil, e_nbF_cons, e_nbs_map, e_makeL, e_madeBR, e_methL, e_methLR_f, e_toWs_nil, e_toWs_cons, e_lstW, e_lstWR, e_mPk, e_pkR_i, e_pkR_s, e_pkR_b, e_setP, e_nin_al, e_in_al, e_in_ft, e_in_fl, e_nin_ft, e_nin_fl, e_eqS, e_neS, e_eqB, e_neB, e_sl_s, e_handed_a, e_handedA, e_f1R_len, e_kR2, e_seqK_l, e_seqK_t, e_items_al, e_items_fl, e_items_ft, e_items_ol, e_tuple_v, e_tuple_a, e_tupA, e_tuple_l, e_tuple_t, e_list_l, e_list_t, e_list_o, e_aug, e_augA, e_addI, e_subI, e_chain, e_chR, e_chK, e_fldR_f, List.getElem?_cons_zero, List.getElem?_cons_succ, List.set_cons_zero, List.set_cons_succ, List.length_cons, List.length_nil, Option.map_some, Option.map_none, Option.bind_some, Option.bind_none, if_true, if_false, ite_true, ite_false, reduceIte, decide_true, decide_false, Bool.not_true, Bool.not_false, Bool.and_true, Bool.true_and, Bool.and_false, Bool.false_and, Bool.or_true, Bool.true_or, Bool.or_false, Bool.false_or, ne_eq, not_false_eq_true, not_true_eq_false, Option.some.injEq, reduceCtorEq, and_self, and_true, true_and, Bool.false_eq_true, List.nil_append, List.cons_append, List.append_nil, decide_eq_true_eq, m_l_wide_b2, m1])
    ⟨k1, rfl⟩
  rw [intsW_len] at e3
  have hpos : (0 : Int) < 10 ^ rn := Int.pow_pos (by decide)
  have rg := fmod_rg n1 hpos
  have hz : (10 : Int) ^ rn ≠ 0 := by omega
  have rr : SzR ((rn : Nat) : Int) := szR (by omega) (by omega)
  have r5 : SzR 5 := szR (by decide) (by decide)
  have n5 : Int.toNat 5 = 5 := rfl
  have nn : (((rn : Nat) : Int)).toNat = rn := by omega
  refine ⟨s2, n1.fmod (10 ^ rn), ?_, o2, rg.1, Int.lt_of_lt_of_le rg.2 (ten_le (by omega))⟩
  refine run_ret (m := m_l_wide K A) (L0 := [some (stW s), none, none, none]) (L := [some (stW s2), some (iW n1), k3, some (iW (10 ^ rn))]) ?_
  generalize (10 : Int) ^ rn = pw at *
  generalize ((rn : Nat) : Int) = rn1 at *
  simp (decide := true) only [e_bind, e_then, e_badb, e_var, e_lk_f, e_lk_b, e_lk_l, e_lk_t, e_lk_o, e_C, e_op, e_seq, e_seq_n, e_seq_r, e_seq_b, e_seq_c, e_nil, e_brk, e_exp, e_set, e_asgn, e_ret, e_handed, e_if, e_ifE, e_mBl, e_blR, e_not, e_and, e_or, e_andV, e_orV, e_notV, e_tru, e_truR, e_add, e_sub, e_mul, e_div, e_mod, e_pow, e_lt, e_gt, e_le, e_ge, e_eq, e_ne, e_neg, e_nilA, e_cons, e_callB, e_f1, e_len_str, e_len_lst, e_len_lok, e_len_tup, e_int, e_abs, e_par, e_no, e_while, e_for, e_gNm, e_range1, e_range2, e_rg1, e_rg2, e_slotW, e_get_v, e_get_a, e_fr_f, e_toFv, e_toF_v, e_toF_a, e_toFb, e_toFa, e_fr_l, e_fr_o, e_frs_nil, e_frs_frz, e_frs_cons, e_frF_nil, e_frF_cons, e_prep_nil, e_prep_f, e_prep_t, e_prepT, e_prep_v, e_called, e_calledR, e_bkR, e_back_nil, e_back_cons, e_call, e_callR, e_madeF, e_make, e_fld, e_fldSet, e_fldSetR, e_meth, e_f1l, e_f1a, e_rd_f, e_mkK, e_yes, e_toW, e_toFs_nil, e_toFs_cons, e_tup, e_lst, e_tupR, e_lstR, e_scR, e_f2, e_kR0, e_kR1, e_bits, e_bitsR, e_bm, e_bm_l, e_bm_s, e_app, e_appR, e_asg, e_seqG, e_gsc, e_gsn, e_gTp, e_exc_try, e_turnR_n, e_turnR_c, e_turnR_b, e_turnR_r, e_setIx, e_setA, e_setB, e_setC, e_iter, e_sl, e_pSome, e_pR, e_pNone, e_listR1, e_lr1, e_prepB_nil, e_prepB_cons, e_arg_ff, e_arg_la, e_lentA, e_arg_lf, e_arg_lb, e_arg_ta, e_ownA, e_arg_tv, e_callL, e_callRB, e_calledB, e_calledBR, e_calledBX, e_backB, e_lkBack_nil, e_lkBack_cons, e_nbs_nil, e_nbs_cons, e_nb_f, e_nb_l, e_nb_o, e_nbF_nil, e_nbF_cons, e_nbs_map, e_makeL, e_madeBR, e_methL, e_methLR_f, e_toWs_nil, e_toWs_cons, e_lstW, e_lstWR, e_mPk, e_pkR_i, e_pkR_s, e_pkR_b, e_setP, e_nin_al, e_in_al, e_in_ft, e_in_fl, e_nin_ft, e_nin_fl, e_eqS, e_neS, e_eqB, e_neB, e_sl_s, e_handed_a, e_handedA, e_f1R_len, e_kR2, e_seqK_l, e_seqK_t, e_items_al, e_items_fl, e_items_ft, e_items_ol, e_tuple_v, e_tuple_a, e_tupA, e_tuple_l, e_tuple_t, e_list_l, e_list_t, e_list_o, e_aug, e_augA, e_addI, e_subI, e_chain, e_chR, e_chK, e_fldR_f, List.getElem?_cons_zero, List.getElem?_cons_succ, List.set_cons_zero, List.set_cons_succ, List.length_cons, List.length_nil, Option.map_some, Option.map_none, Option.bind_some, Option.bind_none, if_true, if_false, ite_true, ite_false, reduceIte, decide_true, decide_false, Bool.not_true, Bool.not_false, Bool.and_true, Bool.true_and, Bool.and_false, Bool.false_and, Bool.or_true, Bool.true_or, Bool.or_false, Bool.false_or, ne_eq, not_false_eq_true, not_true_eq_false, Option.some.injEq, reduceCtorEq, and_self, and_true, true_and, Bool.false_eq_true, List.nil_append, List.cons_append, List.append_nil, decide_eq_true_eq, m_l_wide, r5, n5, e1, e2, st_lk, rr, nn, e3, hz]
theorem text_is {s : DS} (h : s.Ok) (most : Nat) (hm : most < 1000) : ∃ s' t, fn_l_text K A [stW s, iW (most : Nat)] = .ok (.frz (.str t)) [stW s'] ∧ s'.Ok ∧ Tx most t := by
  obtain ⟨s1, kind, e1, o1, a1, b1⟩ := draw_is (K := K) (A := A) h (lim := 4) (by decide) (bit31 (by decide) (by decide))
  obtain ⟨s2, size, e2, o2, a2, b2⟩ := draw_is (K := K) (A := A) o1 (lim := 4) (by decide) (bit31 (by decide) (by decide))
  obtain ⟨s3, size3, e3, o3, a3, b3⟩ := draw_is (K := K) (A := A) o2 (lim := (most : Int) + 1) (by omega) (bit31 (by omega) (by omega))
  -- what the two ifs leave
  have key : ∃ s3 size3 z, (∀ c ∈ z.cps.toList, c ∈ signs.cps.toList) ∧ 0 < z.cps.toList.length ∧ z.cps.toList.length ≤ 94 ∧ s3.Ok ∧ 0 ≤ size3 ∧ size3 < 1000 ∧
      ((sSeq (sIf (mBl (mOp cEqS (mVar 2) (mC (.int 2))))
  (sSet fl_l_text 4 (mC (.str "abAB01")))
  sNil) (sIf (mBl (mOp cEqS (mVar 2) (mC (.int 3))))
  (sSeq (sSet fl_l_text 4 (mCall [] (fn_l_signs K A) mNil))
  (sSet fl_l_text 3 (mCall fl_l_draw (fn_l_draw K A) (mCons (mVar 0) (mCons (mOp aAddU (mVar 1) (mC (.int 1))) mNil)))))
  sNil)) [some (stW s2), some (iW (most : Nat)), some (iW kind), some (iW size), some (.frz (.str "ab")), none, none] = .next [some (stW s3), some (iW (most : Nat)), some (iW kind), some (iW size3), some (.frz (.str z)), none, none]) := by
    by_cases c2 : kind = 2
    · refine ⟨s2, size, "abAB01", ab2_in, by rw [ab2_len]; decide, by rw [ab2_len]; decide, o2, a2, by omega, ?_⟩
      subst c2
      generalize (("abAB01" : Str)) = z1
      generalize (("ab" : Str)) = z2
      simp (decide := true) only [e_bind, e_then, e_badb, e_var, e_lk_f, e_lk_b, e_lk_l, e_lk_t, e_lk_o, e_C, e_op, e_seq, e_seq_n, e_seq_r, e_seq_b, e_seq_c, e_nil, e_brk, e_exp, e_set, e_asgn, e_ret, e_handed, e_if, e_ifE, e_mBl, e_blR, e_not, e_and, e_or, e_andV, e_orV, e_notV, e_tru, e_truR, e_add, e_sub, e_mul, e_div, e_mod, e_pow, e_lt, e_gt, e_le, e_ge, e_eq, e_ne, e_neg, e_nilA, e_cons, e_callB, e_f1, e_len_str, e_len_lst, e_len_lok, e_len_tup, e_int, e_abs, e_par, e_no, e_while, e_for, e_gNm, e_range1, e_range2, e_rg1, e_rg2, e_slotW, e_get_v, e_get_a, e_fr_f, e_toFv, e_toF_v, e_toF_a, e_toFb, e_toFa, e_fr_l, e_fr_o, e_frs_nil, e_frs_frz, e_frs_cons, e_frF_nil, e_frF_cons, e_prep_nil, e_prep_f, e_prep_t, e_prepT, e_prep_v, e_called, e_calledR, e_bkR, e_back_nil, e_back_cons, e_call, e_callR, e_madeF, e_make, e_fld, e_fldSet, e_fldSetR, e_meth, e_f1l, e_f1a, e_rd_f, e_mkK, e_yes, e_toW, e_toFs_nil, e_toFs_cons, e_tup, e_lst, e_tupR, e_lstR, e_scR, e_f2, e_kR0, e_kR1, e_bits, e_bitsR, e_bm, e_bm_l, e_bm_s, e_app, e_appR, e_asg, e_seqG, e_gsc, e_gsn, e_gTp, e_exc_try, e_turnR_n, e_turnR_c, e_turnR_b, e_turnR_r, e_setIx, e_setA, e_setB, e_setC, e_iter, e_sl, e_pSome, e_pR, e_pNone, e_listR1, e_lr1, e_prepB_nil, e_prepB_cons, e_arg_ff, e_arg_la, e_lentA, e_arg_lf, e_arg_lb, e_arg_ta, e_ownA, e_arg_tv, e_callL, e_callRB, e_calledB, e_calledBR, e_calledBX, e_backB, e_lkBack_nil, e_lkBack_cons, e_nbs_nil, e_nbs_cons, e_nb_f, e_nb_l, e_nb_o, e_nbF_nil, e_nbF_cons, e_nbs_map, e_makeL, e_madeBR, e_methL, e_methLR_f, e_toWs_nil, e_toWs_cons, e_lstW, e_lstWR, e_mPk, e_pkR_i, e_pkR_s, e_pkR_b, e_setP, e_nin_al, e_in_al, e_in_ft, e_in_fl, e_nin_ft, e_nin_fl, e_eqS, e_neS, e_eqB, e_neB, e_sl_s, e_handed_a, e_handedA, e_f1R_len, e_kR2, e_seqK_l, e_seqK_t, e_items_al, e_items_fl, e_items_ft, e_items_ol, e_tuple_v, e_tuple_a, e_tupA, e_tuple_l, e_tuple_t, e_list_l, e_list_t, e_list_o, e_aug, e_augA, e_addI, e_subI, e_chain, e_chR, e_chK, e_fldR_f, List.getElem?_cons_zero, List.getElem?_cons_succ, List.set_cons_zero, List.set_cons_succ, List.length_cons, List.length_nil, Option.map_some, Option.map_none, Option.bind_some, Option.bind_none, if_true, if_false, ite_true, ite_false, reduceIte, decide_true, decide_false, Bool.not_true, Bool.not_false, Bool.and_true, Bool.true_and, Bool.and_false, Bool.false_and, Bool.or_true, Bool.true_or, Bool.or_false, Bool.false_or, ne_eq, not_false_eq_true, not_true_eq_false, Option.some.injEq, reduceCtorEq, and_self, and_true, true_and, Bool.false_eq_true, List.nil_append, List.cons_append, List.append_nil, decide_eq_true_eq, e_bind]
    · by_cases c3 : kind = 3
      · refine ⟨s3, size3, signs, fun c h => h, by rw [signs_len]; decide, by rw [signs_len]; decide, o3, a3, by omega, ?_⟩
        subst c3
        have es := signs_is (K := K) (A := A)
        generalize signs = z0 at *
        generalize (("abAB01" : Str)) = z1
        generalize (("ab" : Str)) = z2
        generalize ((most : Nat) : Int) = m1 at *
        simp (decide := true) only [e_bind, e_then, e_badb, e_var, e_lk_f, e_lk_b, e_lk_l, e_lk_t, e_lk_o, e_C, e_op, e_seq, e_seq_n, e_seq_r, e_seq_b, e_seq_c, e_nil, e_brk, e_exp, e_set, e_asgn, e_ret, e_handed, e_if, e_ifE, e_mBl, e_blR, e_not, e_and, e_or, e_andV, e_orV, e_notV, e_tru, e_truR, e_add, e_sub, e_mul, e_div, e_mod, e_pow, e_lt, e_gt, e_le, e_ge, e_eq, e_ne, e_neg, e_nilA, e_cons, e_callB, e_f1, e_len_str, e_len_lst, e_len_lok, e_len_tup, e_int, e_abs, e_par, e_no, e_while, e_for, e_gNm, e_range1, e_range2, e_rg1, e_rg2, e_slotW, e_get_v, e_get_a, e_fr_f, e_toFv, e_toF_v, e_toF_a, e_toFb, e_toFa, e_fr_l, e_fr_o, e_frs_nil, e_frs_frz, e_frs_cons, e_frF_nil, e_frF_cons, e_prep_nil, e_prep_f, e_prep_t, e_prepT, e_prep_v, e_called, e_calledR, e_bkR, e_back_nil, e_back_cons, e_call, e_callR, e_madeF, e_make, e_fld, e_fldSet, e_fldSetR, e_meth, e_f1l, e_f1a, e_rd_f, e_mkK, e_yes, e_toW, e_toFs_nil, e_toFs_cons, e_tup, e_lst, e_tupR, e_lstR, e_scR, e_f2, e_kR0, e_kR1, e_bits, e_bitsR, e_bm, e_bm_l, e_bm_s, e_app, e_appR, e_asg, e_seqG, e_gsc, e_gsn, e_gTp, e_exc_try, e_turnR_n, e_turnR_c, e_turnR_b, e_turnR_r, e_setIx, e_setA, e_setB, e_setC, e_iter, e_sl, e_pSome, e_pR, e_pNone, e_listR1, e_lr1, e_prepB_nil, e_prepB_cons, e_arg_ff, e_arg_la, e_lentA, e_arg_lf, e_arg_lb, e_arg_ta, e_ownA, e_arg_tv, e_callL, e_callRB, e_calledB, e_calledBR, e_calledBX, e_backB, e_lkBack_nil, e_lkBack_cons, e_nbs_nil, e_nbs_cons, e_nb_f, e_nb_l, e_nb_o, e_nbF_nil, e_nbF_cons, e_nbs_map, e_makeL, e_madeBR, e_methL, e_methLR_f, e_toWs_nil, e_toWs_cons, e_lstW, e_lstWR, e_mPk, e_pkR_i, e_pkR_s, e_pkR_b, e_setP, e_nin_al, e_in_al, e_in_ft, e_in_fl, e_nin_ft, e_nin_fl, e_eqS, e_neS, e_eqB, e_neB, e_sl_s, e_handed_a, e_handedA, e_f1R_len, e_kR2, e_seqK_l, e_seqK_t, e_items_al, e_items_fl, e_items_ft, e_items_ol, e_tuple_v, e_tuple_a, e_tupA, e_tuple_l, e_tuple_t, e_list_l, e_list_t, e_list_o, e_aug, e_augA, e_addI, e_subI, e_chain, e_chR, e_chK, e_fldR_f, List.getElem?_cons_zero, List.getElem?_cons_succ, List.set_cons_zero, List.set_cons_succ, List.length_cons, List.length_nil, Option.map_some, Option.map_none, Option.bind_some, Option.bind_none, if_true, if_false, ite_true, ite_false, reduceIte, decide_true, decide_false, Bool.not_true, Bool.not_false, Bool.and_true, Bool.true_and, Bool.and_false, Bool.false_and, Bool.or_true, Bool.true_or, Bool.or_false, Bool.false_or, ne_eq, not_false_eq_true, not_true_eq_false, Option.some.injEq, reduceCtorEq, and_self, and_true, true_and, Bool.false_eq_true, List.nil_append, List.cons_append, List.append_nil, decide_eq_true_eq, es, st_lk, e3]
      · refine ⟨s2, size, "ab", ab_in, by rw [ab_len]; decide, by rw [ab_len]; decide, o2, a2, by omega, ?_⟩
        generalize (("abAB01" : Str)) = z1
        generalize (("ab" : Str)) = z2
        simp (decide := true) only [e_bind, e_then, e_badb, e_var, e_lk_f, e_lk_b, e_lk_l, e_lk_t, e_lk_o, e_C, e_op, e_seq, e_seq_n, e_seq_r, e_seq_b, e_seq_c, e_nil, e_brk, e_exp, e_set, e_asgn, e_ret, e_handed, e_if, e_ifE, e_mBl, e_blR, e_not, e_and, e_or, e_andV, e_orV, e_notV, e_tru, e_truR, e_add, e_sub, e_mul, e_div, e_mod, e_pow, e_lt, e_gt, e_le, e_ge, e_eq, e_ne, e_neg, e_nilA, e_cons, e_callB, e_f1, e_len_str, e_len_lst, e_len_lok, e_len_tup, e_int, e_abs, e_par, e_no, e_while, e_for, e_gNm, e_range1, e_range2, e_rg1, e_rg2, e_slotW, e_get_v, e_get_a, e_fr_f, e_toFv, e_toF_v, e_toF_a, e_toFb, e_toFa, e_fr_l, e_fr_o, e_frs_nil, e_frs_frz, e_frs_cons, e_frF_nil, e_frF_cons, e_prep_nil, e_prep_f, e_prep_t, e_prepT, e_prep_v, e_called, e_calledR, e_bkR, e_back_nil, e_back_cons, e_call, e_callR, e_madeF, e_make, e_fld, e_fldSet, e_fldSetR, e_meth, e_f1l, e_f1a, e_rd_f, e_mkK, e_yes, e_toW, e_toFs_nil, e_toFs_cons, e_tup, e_lst, e_tupR, e_lstR, e_scR, e_f2, e_kR0, e_kR1, e_bits, e_bitsR, e_bm, e_bm_l, e_bm_s, e_app, e_appR, e_asg, e_seqG, e_gsc, e_gsn, e_gTp, e_exc_try, e_turnR_n, e_turnR_c, e_turnR_b, e_turnR_r, e_setIx, e_setA, e_setB, e_setC, e_iter, e_sl, e_pSome, e_pR, e_pNone, e_listR1, e_lr1, e_prepB_nil, e_prepB_cons, e_arg_ff, e_arg_la, e_lentA, e_arg_lf, e_arg_lb, e_arg_ta, e_ownA, e_arg_tv, e_callL, e_callRB, e_calledB, e_calledBR, e_calledBX, e_backB, e_lkBack_nil, e_lkBack_cons, e_nbs_nil, e_nbs_cons, e_nb_f, e_nb_l, e_nb_o, e_nbF_nil, e_nbF_cons, e_nbs_map, e_makeL, e_madeBR, e_methL, e_methLR_f, e_toWs_nil, e_toWs_cons, e_lstW, e_lstWR, e_mPk, e_pkR_i, e_pkR_s, e_pkR_b, e_setP, e_nin_al, e_in_al, e_in_ft, e_in_fl, e_nin_ft, e_nin_fl, e_eqS, e_neS, e_eqB, e_neB, e_sl_s, e_handed_a, e_handedA, e_f1R_len, e_kR2, e_seqK_l, e_seqK_t, e_items_al, e_items_fl, e_items_ft, e_items_ol, e_tuple_v, e_tuple_a, e_tupA, e_tuple_l, e_tuple_t, e_list_l, e_list_t, e_list_o, e_aug, e_augA, e_addI, e_subI, e_chain, e_chR, e_chK, e_fldR_f, List.getElem?_cons_zero, List.getElem?_cons_succ, List.set_cons_zero, List.set_cons_succ, List.length_cons, List.length_nil, Option.map_some, Option.map_none, Option.bind_some, Option.bind_none, if_true, if_false, ite_true, ite_false, reduceIte, decide_true, decide_false, Bool.not_true, Bool.not_false, Bool.and_true, Bool.true_and, Bool.and_false, Bool.false_and, Bool.or_true, Bool.true_or, Bool.or_false, Bool.false_or, ne_eq, not_false_eq_true, not_true_eq_false, Option.some.injEq, reduceCtorEq, and_self, and_true, true_and, Bool.false_eq_true, List.nil_append, List.cons_append, List.append_nil, decide_eq_true_eq, c2, c3]
  obtain ⟨s4, size4, z, hz, hz0, hz1, o4, a4, b4, e4⟩ := key
  obtain ⟨k, hk⟩ : ∃ k : Nat, (if (most : Int) < size4 then (most : Int) else size4) = (k : Nat) := ⟨(if (most : Int) < size4 then (most : Int) else size4).toNat, by split <;> omega⟩
  have hkm : k ≤ most := by
    have : (if (most : Int) < size4 then (most : Int) else size4) ≤ (most : Int) := by split <;> omega
    omega
  have hzl : z.length = z.cps.toList.length := (len_str z).symm
  obtain ⟨L5, e5, s5, t, k5, rfl, o5, t5⟩ := for_all (g := gNm fl_l_text 6) (body := m_l_text_b1 K A) (ws := intsW 0 k) (L := [some (stW s4), some (iW (most : Nat)), some (iW kind), some (iW size4), some (.frz (.str z)), some (.frz (.str "")), none])
    (fun i L => ∃ s t k, L = [some (stW s), some (iW (most : Nat)), some (iW kind), some (iW size4), some (.frz (.str z)), some (.frz (.str t)), k] ∧ s.Ok ∧ Tx i t)
    (fun i w L hw ⟨s, t, k0, e, o, ht⟩ => by
      obtain ⟨hi, rfl⟩ := intsW_get hw
      subst e
      obtain ⟨s', r, e2, o2, r0, r1⟩ := draw_is (K := K) (A := A) o (lim := (z.length : Int)) (by omega) (bit31 (by omega) (by omega))
      obtain ⟨rn, rfl⟩ : ∃ k : Nat, r = (k : Nat) := ⟨r.toNat, by omega⟩
      have ix := fun L : Lc => ix_str (L := L) (z := z) (i := rn) (by omega) (by omega)
      have hl : lenD (.str z) = some (.int z.length) := e_len_str z (small_le (by omega))
      have ad := fun L : Lc => addU_s (L := L) t (sg (z.cps.toList[rn]'(by omega))) (small_le (by have := ht.len; rw [len_sg]; omega))
      refine ⟨_, ?_, s', t ++ sg (z.cps.toList[rn]'(by omega)), some (iW (0 + (i : Nat))), rfl, o2, ?_, ?_⟩
      · rw [turn_is]
        generalize sg (z.cps.toList[rn]'(by omega)) = c1 at *
        generalize t ++ c1 = t2 at *
        generalize ((most : Nat) : Int) = m1 at *
        generalize ((rn : Nat) : Int) = rn1 at *
        simp (decide := true) only [e_bind, e_then, e_badb, e_var, e_lk_f, e_lk_b, e_lk_l, e_lk_t, e_lk_o, e_C, e_op, e_seq, e_seq_n, e_seq_r, e_seq_b, e_seq_c, e_nil, e_brk, e_exp, e_set, e_asgn, e_ret, e_handed, e_if, e_ifE, e_mBl, e_blR, e_not, e_and, e_or, e_andV, e_orV, e_notV, e_tru, e_truR, e_add, e_sub, e_mul, e_div, e_mod, e_pow, e_lt, e_gt, e_le, e_ge, e_eq, e_ne, e_neg, e_nilA, e_cons, e_callB, e_f1, e_len_str, e_len_lst, e_len_lok, e_len_tup, e_int, e_abs, e_par, e_no, e_while, e_for, e_gNm, e_range1, e_range2, e_rg1, e_rg2, e_slotW, e_get_v, e_get_a, e_fr_f, e_toFv, e_toF_v, e_toF_a, e_toFb, e_toFa, e_fr_l, e_fr_o, e_frs_nil, e_frs_frz, e_frs_cons, e_frF_nil, e_frF_cons, e_prep_nil, e_prep_f, e_prep_t, e_prepT, e_prep_v, e_called, e_calledR, e_bkR, e_back_nil, e_back_cons, e_call, e_callR, e_madeF, e_make, e_fld, e_fldSet, e_fldSetR, e_meth, e_f1l, e_f1a, e_rd_f, e_mkK, e_yes, e_toW, e_toFs_nil, e_toFs_cons, e_tup, e_lst, e_tupR, e_lstR, e_scR, e_f2, e_kR0, e_kR1, e_bits, e_bitsR, e_bm, e_bm_l, e_bm_s, e_app, e_appR, e_asg, e_seqG, e_gsc, e_gsn, e_gTp, e_exc_try, e_turnR_n, e_turnR_c, e_turnR_b, e_turnR_r, e_setIx, e_setA, e_setB, e_setC, e_iter, e_sl, e_pSome, e_pR, e_pNone, e_listR1, e_lr1, e_prepB_nil, e_prepB_cons, e_arg_ff, e_arg_la, e_lentA, e_arg_lf, e_arg_lb, e_arg_ta, e_ownA, e_arg_tv, e_callL, e_callRB, e_calledB, e_calledBR, e_calledBX, e_backB, e_lkBack_nil, e_lkBack_cons, e_nbs_nil, e_nbs_cons, e_nb_f, e_nb_l, e_nb_o, e_nbF_nil, e_nbF_cons, e_nbs_map, e_makeL, e_madeBR, e_methL, e_methLR_f, e_toWs_nil, e_toWs_cons, e_lstW, e_lstWR, e_mPk, e_pkR_i, e_pkR_s, e_pkR_b, e_setP, e_nin_al, e_in_al, e_in_ft, e_in_fl, e_nin_ft, e_nin_fl, e_eqS, e_neS, e_eqB, e_neB, e_sl_s, e_handed_a, e_handedA, e_f1R_len, e_kR2, e_seqK_l, e_seqK_t, e_items_al, e_items_fl, e_items_ft, e_items_ol, e_tuple_v, e_tuple_a, e_tupA, e_tuple_l, e_tuple_t, e_list_l, e_list_t, e_list_o, e_aug, e_augA, e_addI, e_subI, e_chain, e_chR, e_chK, e_fldR_f, List.getElem?_cons_zero, List.getElem?_cons_succ, List.set_cons_zero, List.set_cons_succ, List.length_cons, List.length_nil, Option.map_some, Option.map_none, Option.bind_some, Option.bind_none, if_true, if_false, ite_true, ite_false, reduceIte, decide_true, decide_false, Bool.not_true, Bool.not_false, Bool.and_true, Bool.true_and, Bool.and_false, Bool.false_and, Bool.or_true, Bool.true_or, Bool.or_false, Bool.false_or, ne_eq, not_false_eq_true, not_true_eq_false, Option.some.injEq, reduceCtorEq, and_self, and_true, true_and, Bool.false_eq_true, List.nil_append, List.cons_append, List.append_nil, decide_eq_true_eq, m_l_text_b1, hl, st_lk, e2, ix, ad]
      · rw [len_app, len_sg]; have := ht.len; omega
      · intro c hc
        rw [tl_app] at hc
        rcases List.mem_append.mp hc with hc | hc
        · exact ht.sg c hc
        · have : c = z.cps.toList[rn]'(by omega) := by simpa using hc
          rw [this]
          exact hz _ (List.getElem_mem _))
    ⟨s4, "", none, rfl, o4, tx_nil 0⟩
  rw [intsW_len] at t5
  refine ⟨s5, t, ?_, o5, t5.mono hkm⟩
  have rk : SzR ((k : Nat) : Int) := szR (by omega) (by omega)
  have nk : (((k : Nat) : Int)).toNat = k := by omega
  have hmin : minD (.int size4) (.int (most : Int)) = some (.int (k : Nat)) := by
    show some (D.int (if (most : Int) < size4 then (most : Int) else size4)) = _
    rw [hk]
  have g3 : ∀ a b c L, sSeq a (sSeq b c) L = (sSeq a b L).seq c := fun a b c L => by
    rw [e_seq, e_seq]
    cases a L <;> first | rfl | (rw [e_seq_n, e_seq_n, e_seq])
  refine run_ret (m := m_l_text K A) (L0 := [some (stW s), some (iW (most : Nat)), none, none, none, none, none]) (L := [some (stW s5), some (iW (most : Nat)), some (iW kind), some (iW size4), some (.frz (.str z)), some (.frz (.str t)), k5]) ?_
  have f1 : (sSet fl_l_text 2 (mCall fl_l_draw (fn_l_draw K A) (mCons (mVar 0) (mCons (mC (.int 4)) mNil)))) [some (stW s), some (iW (most : Nat)), none, none, none, none, none] = .next [some (stW s1), some (iW (most : Nat)), some (iW kind), none, none, none, none] := by
    simp (decide := true) only [e_bind, e_then, e_badb, e_var, e_lk_f, e_lk_b, e_lk_l, e_lk_t, e_lk_o, e_C, e_op, e_seq, e_seq_n, e_seq_r, e_seq_b, e_seq_c, e_nil, e_brk, e_exp, e_set, e_asgn, e_ret, e_handed, e_if, e_ifE, e_mBl, e_blR, e_not, e_and, e_or, e_andV, e_orV, e_notV, e_tru, e_truR, e_add, e_sub, e_mul, e_div, e_mod, e_pow, e_lt, e_gt, e_le, e_ge, e_eq, e_ne, e_neg, e_nilA, e_cons, e_callB, e_f1, e_len_str, e_len_lst, e_len_lok, e_len_tup, e_int, e_abs, e_par, e_no, e_while, e_for, e_gNm, e_range1, e_range2, e_rg1, e_rg2, e_slotW, e_get_v, e_get_a, e_fr_f, e_toFv, e_toF_v, e_toF_a, e_toFb, e_toFa, e_fr_l, e_fr_o, e_frs_nil, e_frs_frz, e_frs_cons, e_frF_nil, e_frF_cons, e_prep_nil, e_prep_f, e_prep_t, e_prepT, e_prep_v, e_called, e_calledR, e_bkR, e_back_nil, e_back_cons, e_call, e_callR, e_madeF, e_make, e_fld, e_fldSet, e_fldSetR, e_meth, e_f1l, e_f1a, e_rd_f, e_mkK, e_yes, e_toW, e_toFs_nil, e_toFs_cons, e_tup, e_lst, e_tupR, e_lstR, e_scR, e_f2, e_kR0, e_kR1, e_bits, e_bitsR, e_bm, e_bm_l, e_bm_s, e_app, e_appR, e_asg, e_seqG, e_gsc, e_gsn, e_gTp, e_exc_try, e_turnR_n, e_turnR_c, e_turnR_b, e_turnR_r, e_setIx, e_setA, e_setB, e_setC, e_iter, e_sl, e_pSome, e_pR, e_pNone, e_listR1, e_lr1, e_prepB_nil, e_prepB_cons, e_arg_ff, e_arg_la, e_lentA, e_arg_lf, e_arg_lb, e_arg_ta, e_ownA, e_arg_tv, e_callL, e_callRB, e_calledB, e_calledBR, e_calledBX, e_backB, e_lkBack_nil, e_lkBack_cons, e_nbs_nil, e_nbs_cons, e_nb_f, e_nb_l, e_nb_o, e_nbF_nil, e_nbF_cons, e_nbs_map, e_makeL, e_madeBR, e_methL, e_methLR_f, e_toWs_nil, e_toWs_cons, e_lstW, e_lstWR, e_mPk, e_pkR_i, e_pkR_s, e_pkR_b, e_setP, e_nin_al, e_in_al, e_in_ft, e_in_fl, e_nin_ft, e_nin_fl, e_eqS, e_neS, e_eqB, e_neB, e_sl_s, e_handed_a, e_handedA, e_f1R_len, e_kR2, e_seqK_l, e_seqK_t, e_items_al, e_items_fl, e_items_ft, e_items_ol, e_tuple_v, e_tuple_a, e_tupA, e_tuple_l, e_tuple_t, e_list_l, e_list_t, e_list_o, e_aug, e_augA, e_addI, e_subI, e_chain, e_chR, e_chK, e_fldR_f, List.getElem?_cons_zero, List.getElem?_cons_succ, List.set_cons_zero, List.set_cons_succ, List.length_cons, List.length_nil, Option.map_some, Option.map_none, Option.bind_some, Option.bind_none, if_true, if_false, ite_true, ite_false, reduceIte, decide_true, decide_false, Bool.not_true, Bool.not_false, Bool.and_true, Bool.true_and, Bool.and_false, Bool.false_and, Bool.or_true, Bool.true_or, Bool.or_false, Bool.false_or, ne_eq, not_false_eq_true, not_true_eq_false, Option.some.injEq, reduceCtorEq, and_self, and_true, true_and, Bool.false_eq_true, List.nil_append, List.cons_append, List.append_nil, decide_eq_true_eq, st_lk, e1]
  have f2 : (sSet fl_l_text 3 (mCall fl_l_draw (fn_l_draw K A) (mCons (mVar 0) (mCons (mC (.int 4)) mNil)))) [some (stW s1), some (iW (most : Nat)), some (iW kind), none, none, none, none] = .next [some (stW s2), some (iW (most : Nat)), some (iW kind), some (iW size), none, none, none] := by
    simp (decide := true) only [e_bind, e_then, e_badb, e_var, e_lk_f, e_lk_b, e_lk_l, e_lk_t, e_lk_o, e_C, e_op, e_seq, e_seq_n, e_seq_r, e_seq_b, e_seq_c, e_nil, e_brk, e_exp, e_set, e_asgn, e_ret, e_handed, e_if, e_ifE, e_mBl, e_blR, e_not, e_and, e_or, e_andV, e_orV, e_notV, e_tru, e_truR, e_add, e_sub, e_mul, e_div, e_mod, e_pow, e_lt, e_gt, e_le, e_ge, e_eq, e_ne, e_neg, e_nilA, e_cons, e_callB, e_f1, e_len_str, e_len_lst, e_len_lok, e_len_tup, e_int, e_abs, e_par, e_no, e_while, e_for, e_gNm, e_range1, e_range2, e_rg1, e_rg2, e_slotW, e_get_v, e_get_a, e_fr_f, e_toFv, e_toF_v, e_toF_a, e_toFb, e_toFa, e_fr_l, e_fr_o, e_frs_nil, e_frs_frz, e_frs_cons, e_frF_nil, e_frF_cons, e_prep_nil, e_prep_f, e_prep_t, e_prepT, e_prep_v, e_called, e_calledR, e_bkR, e_back_nil, e_back_cons, e_call, e_callR, e_madeF, e_make, e_fld, e_fldSet, e_fldSetR, e_meth, e_f1l, e_f1a, e_rd_f, e_mkK, e_yes, e_toW, e_toFs_nil, e_toFs_cons, e_tup, e_lst, e_tupR, e_lstR, e_scR, e_f2, e_kR0, e_kR1, e_bits, e_bitsR, e_bm, e_bm_l, e_bm_s, e_app, e_appR, e_asg, e_seqG, e_gsc, e_gsn, e_gTp, e_exc_try, e_turnR_n, e_turnR_c, e_turnR_b, e_turnR_r, e_setIx, e_setA, e_setB, e_setC, e_iter, e_sl, e_pSome, e_pR, e_pNone, e_listR1, e_lr1, e_prepB_nil, e_prepB_cons, e_arg_ff, e_arg_la, e_lentA, e_arg_lf, e_arg_lb, e_arg_ta, e_ownA, e_arg_tv, e_callL, e_callRB, e_calledB, e_calledBR, e_calledBX, e_backB, e_lkBack_nil, e_lkBack_cons, e_nbs_nil, e_nbs_cons, e_nb_f, e_nb_l, e_nb_o, e_nbF_nil, e_nbF_cons, e_nbs_map, e_makeL, e_madeBR, e_methL, e_methLR_f, e_toWs_nil, e_toWs_cons, e_lstW, e_lstWR, e_mPk, e_pkR_i, e_pkR_s, e_pkR_b, e_setP, e_nin_al, e_in_al, e_in_ft, e_in_fl, e_nin_ft, e_nin_fl, e_eqS, e_neS, e_eqB, e_neB, e_sl_s, e_handed_a, e_handedA, e_f1R_len, e_kR2, e_seqK_l, e_seqK_t, e_items_al, e_items_fl, e_items_ft, e_items_ol, e_tuple_v, e_tuple_a, e_tupA, e_tuple_l, e_tuple_t, e_list_l, e_list_t, e_list_o, e_aug, e_augA, e_addI, e_subI, e_chain, e_chR, e_chK, e_fldR_f, List.getElem?_cons_zero, List.getElem?_cons_succ, List.set_cons_zero, List.set_cons_succ, List.length_cons, List.length_nil, Option.map_some, Option.map_none, Option.bind_some, Option.bind_none, if_true, if_false, ite_true, ite_false, reduceIte, decide_true, decide_false, Bool.not_true, Bool.not_false, Bool.and_true, Bool.true_and, Bool.and_false, Bool.false_and, Bool.or_true, Bool.true_or, Bool.or_false, Bool.false_or, ne_eq, not_false_eq_true, not_true_eq_false, Option.some.injEq, reduceCtorEq, and_self, and_true, true_and, Bool.false_eq_true, List.nil_append, List.cons_append, List.append_nil, decide_eq_true_eq, st_lk, e2]
  have f3 : (sSet fl_l_text 4 (mC (.str "ab"))) [some (stW s2), some (iW (most : Nat)), some (iW kind), some (iW size), none, none, none] = .next [some (stW s2), some (iW (most : Nat)), some (iW kind), some (iW size), some (.frz (.str "ab")), none, none] := by
    generalize (("ab" : Str)) = z2
    simp (decide := true) only [e_bind, e_then, e_badb, e_var, e_lk_f, e_lk_b, e_lk_l, e_lk_t, e_lk_o, e_C, e_op, e_seq, e_seq_n, e_seq_r, e_seq_b, e_seq_c, e_nil, e_brk, e_exp, e_set, e_asgn, e_ret, e_handed, e_if, e_ifE, e_mBl, e_blR, e_not, e_and, e_or, e_andV, e_orV, e_notV, e_tru, e_truR, e_add, e_sub, e_mul, e_div, e_mod, e_pow, e_lt, e_gt, e_le, e_ge, e_eq, e_ne, e_neg, e_nilA, e_cons, e_callB, e_f1, e_len_str, e_len_lst, e_len_lok, e_len_tup, e_int, e_abs, e_par, e_no, e_while, e_for, e_gNm, e_range1, e_range2, e_rg1, e_rg2, e_slotW, e_get_v, e_get_a, e_fr_f, e_toFv, e_toF_v, e_toF_a, e_toFb, e_toFa, e_fr_l, e_fr_o, e_frs_nil, e_frs_frz, e_frs_cons, e_frF_nil, e_frF_cons, e_prep_nil, e_prep_f, e_prep_t, e_prepT, e_prep_v, e_called, e_calledR, e_bkR, e_back_nil, e_back_cons, e_call, e_callR, e_madeF, e_make, e_fld, e_fldSet, e_fldSetR, e_meth, e_f1l, e_f1a, e_rd_f, e_mkK, e_yes, e_toW, e_toFs_nil, e_toFs_cons, e_tup, e_lst, e_tupR, e_lstR, e_scR, e_f2, e_kR0, e_kR1, e_bits, e_bitsR, e_bm, e_bm_l, e_bm_s, e_app, e_appR, e_asg, e_seqG, e_gsc, e_gsn, e_gTp, e_exc_try, e_turnR_n, e_turnR_c, e_turnR_b, e_turnR_r, e_setIx, e_setA, e_setB, e_setC, e_iter, e_sl, e_pSome, e_pR, e_pNone, e_listR1, e_lr1, e_prepB_nil, e_prepB_cons, e_arg_ff, e_arg_la, e_lentA, e_arg_lf, e_arg_lb, e_arg_ta, e_ownA, e_arg_tv, e_callL, e_callRB, e_calledB, e_calledBR, e_calledBX, e_backB, e_lkBack_nil, e_lkBack_cons, e_nbs_nil, e_nbs_cons, e_nb_f, e_nb_l, e_nb_o, e_nbF_nil, e_nbF_cons, e_nbs_map, e_makeL, e_madeBR, e_methL, e_methLR_f, e_toWs_nil, e_toWs_cons, e_lstW, e_lstWR, e_mPk, e_pkR_i, e_pkR_s, e_pkR_b, e_setP, e_nin_al, e_in_al, e_in_ft, e_in_fl, e_nin_ft, e_nin_fl, e_eqS, e_neS, e_eqB, e_neB, e_sl_s, e_handed_a, e_handedA, e_f1R_len, e_kR2, e_seqK_l, e_seqK_t, e_items_al, e_items_fl, e_items_ft, e_items_ol, e_tuple_v, e_tuple_a, e_tupA, e_tuple_l, e_tuple_t, e_list_l, e_list_t, e_list_o, e_aug, e_augA, e_addI, e_subI, e_chain, e_chR, e_chK, e_fldR_f, List.getElem?_cons_zero, List.getElem?_cons_succ, List.set_cons_zero, List.set_cons_succ, List.length_cons, List.length_nil, Option.map_some, Option.map_none, Option.bind_some, Option.bind_none, if_true, if_false, ite_true, ite_false, reduceIte, decide_true, decide_false, Bool.not_true, Bool.not_false, Bool.and_true, Bool.true_and, Bool.and_false, Bool.false_and, Bool.or_true, Bool.true_or, Bool.or_false, Bool.false_or, ne_eq, not_false_eq_true, not_true_eq_false, Option.some.injEq, reduceCtorEq, and_self, and_true, true_and, Bool.false_eq_true, List.nil_append, List.cons_append, List.append_nil, decide_eq_true_eq, e_bind]
  rw [m_l_text, e_seq, f1, e_seq_n, e_seq, f2, e_seq_n, e_seq, f3, e_seq_n, g3, e4, e_seq_n]
  generalize (("" : Str)) = z2 at *
  generalize ((k : Nat) : Int) = kk at *
  generalize ((most : Nat) : Int) = m1 at *
  simp (decide := true) only [e_bind, e_then, e_badb, e_var, e_lk_f, e_lk_b, e_lk_l, e_lk_t, e_lk_o, e_C, e_op, e_seq, e_seq_n, e_seq_r, e_seq_b, e_seq_c, e_nil, e_brk, e_exp, e_set, e_asgn, e_ret, e_handed, e_if, e_ifE, e_mBl, e_blR, e_not, e_and, e_or, e_andV, e_orV, e_notV, e_tru, e_truR, e_add, e_sub, e_mul, e_div, e_mod, e_pow, e_lt, e_gt, e_le, e_ge, e_eq, e_ne, e_neg, e_nilA, e_cons, e_callB, e_f1, e_len_str, e_len_lst, e_len_lok, e_len_tup, e_int, e_abs, e_par, e_no, e_while, e_for, e_gNm, e_range1, e_range2, e_rg1, e_rg2, e_slotW, e_get_v, e_get_a, e_fr_f, e_toFv, e_toF_v, e_toF_a, e_toFb, e_toFa, e_fr_l, e_fr_o, e_frs_nil, e_frs_frz, e_frs_cons, e_frF_nil, e_frF_cons, e_prep_nil, e_prep_f, e_prep_t, e_prepT, e_prep_v, e_called, e_calledR, e_bkR, e_back_nil, e_back_cons, e_call, e_callR, e_madeF, e_make, e_fld, e_fldSet, e_fldSetR, e_meth, e_f1l, e_f1a, e_rd_f, e_mkK, e_yes, e_toW, e_toFs_nil, e_toFs_cons, e_tup, e_lst, e_tupR, e_lstR, e_scR, e_f2, e_kR0, e_kR1, e_bits, e_bitsR, e_bm, e_bm_l, e_bm_s, e_app, e_appR, e_asg, e_seqG, e_gsc, e_gsn, e_gTp, e_exc_try, e_turnR_n, e_turnR_c, e_turnR_b, e_turnR_r, e_setIx, e_setA, e_setB, e_setC, e_iter, e_sl, e_pSome, e_pR, e_pNone, e_listR1, e_lr1, e_prepB_nil, e_prepB_cons, e_arg_ff, e_arg_la, e_lentA, e_arg_lf, e_arg_lb, e_arg_ta, e_ownA, e_arg_tv, e_callL, e_callRB, e_calledB, e_calledBR, e_calledBX, e_backB, e_lkBack_nil, e_lkBack_cons, e_nbs_nil, e_nbs_cons, e_nb_f, e_nb_l, e_nb_o, e_nbF_nil, e_nbF_cons, e_nbs_map, e_makeL, e_madeBR, e_methL, e_methLR_f, e_toWs_nil, e_toWs_cons, e_lstW, e_lstWR, e_mPk, e_pkR_i, e_pkR_s, e_pkR_b, e_setP, e_nin_al, e_in_al, e_in_ft, e_in_fl, e_nin_ft, e_nin_fl, e_eqS, e_neS, e_eqB, e_neB, e_sl_s, e_handed_a, e_handedA, e_f1R_len, e_kR2, e_seqK_l, e_seqK_t, e_items_al, e_items_fl, e_items_ft, e_items_ol, e_tuple_v, e_tuple_a, e_tupA, e_tuple_l, e_tuple_t, e_list_l, e_list_t, e_list_o, e_aug, e_augA, e_addI, e_subI, e_chain, e_chR, e_chK, e_fldR_f, List.getElem?_cons_zero, List.getElem?_cons_succ, List.set_cons_zero, List.set_cons_succ, List.length_cons, List.length_nil, Option.map_some, Option.map_none, Option.bind_some, Option.bind_none, if_true, if_false, ite_true, ite_false, reduceIte, decide_true, decide_false, Bool.not_true, Bool.not_false, Bool.and_true, Bool.true_and, Bool.and_false, Bool.false_and, Bool.or_true, Bool.true_or, Bool.or_false, Bool.false_or, ne_eq, not_false_eq_true, not_true_eq_false, Option.some.injEq, reduceCtorEq, and_self, and_true, true_and, Bool.false_eq_true, List.nil_append, List.cons_append, List.append_nil, decide_eq_true_eq, hmin, rk, nk, e5]
end
end L

set_option exponentiation.threshold 20000
namespace L
open PySem PySem.Spec PyProof.Rows L2 BV
/-- a pool: texts of at most n signs, all unlike -/
structure Pool (n : Nat) (ts : List Str) : Prop where
  nd : ts.Nodup
  tx : ∀ t ∈ ts, Tx n t
theorem Pool.snoc {n : Nat} {ts : List Str} {t : Str} (h : Pool n ts) (ht : Tx n t) (hn : t ∉ ts) : Pool n (ts ++ [t]) := ⟨by
  rw [List.nodup_append]
  exact ⟨h.nd, by simp, fun a ha b hb => by rw [List.mem_singleton] at hb; subst hb; intro e; subst e; exact hn ha⟩, fun u hu => by
  rcases List.mem_append.mp hu with hu | hu
  · exact h.tx u hu
  · rw [List.mem_singleton.mp hu]; exact ht⟩
theorem oL_snoc (ds : List D) (d : D) : oL (ds ++ [d]) = .olst (ds.map .frz ++ [.frz d]) := by rw [oL, List.map_append]; rfl
section
variable {K : PySem.W.Frag} {A : Ad}
theorem weight_is {s : DS} (h : s.Ok) (kind : Int) : ∃ s' n, fn_l_weight K A [stW s, iW kind] = .ok (iW n) [stW s'] ∧ s'.Ok ∧ 1 ≤ n ∧ n < 10 ^ 40 := by
  obtain ⟨s1, r1, e1, o1, a1, b1⟩ := draw_is (K := K) (A := A) h (lim := 4) (by decide) (bit31 (by decide) (by decide))
  obtain ⟨s2, r2, e2, o2, a2, b2⟩ := draw_is (K := K) (A := A) h (lim := 20) (by decide) (bit31 (by decide) (by decide))
  obtain ⟨s3, r3, e3, o3, a3, b3⟩ := draw_is (K := K) (A := A) h (lim := 6) (by decide) (bit31 (by decide) (by decide))
  obtain ⟨s4, r4, e4, o4, a4, b4⟩ := wide_is (K := K) (A := A) h
  have big : (100 : Int) < 10 ^ 40 := by decide +kernel
  by_cases c1 : kind < 4
  · refine ⟨s1, 1 + r1, ?_, o1, by omega, by omega⟩
    refine run_ret (m := m_l_weight K A) (L0 := [some (stW s), some (iW kind)]) (L := [some (stW s1), some (iW kind)]) ?_
    simp (decide := true) only [e_bind, e_then, e_badb, e_var, e_lk_f, e_lk_b, e_lk_l, e_lk_t, e_lk_o, e_C, e_op, e_seq, e_seq_n, e_seq_r, e_seq_b, e_seq_c, e_nil, e_brk, e_exp, e_set, e_asgn, e_ret, e_handed, e_if, e_ifE, e_mBl, e_blR, e_not, e_and, e_or, e_andV, e_orV, e_notV, e_tru, e_truR, e_add, e_sub, e_mul, e_div, e_mod, e_pow, e_lt, e_gt, e_le, e_ge, e_eq, e_ne, e_neg, e_nilA, e_cons, e_callB, e_f1, e_len_str, e_len_lst, e_len_lok, e_len_tup, e_int, e_abs, e_par, e_no, e_while, e_for, e_gNm, e_range1, e_range2, e_rg1, e_rg2, e_slotW, e_get_v, e_get_a, e_fr_f, e_toFv, e_toF_v, e_toF_a, e_toFb, e_toFa, e_fr_l, e_fr_o, e_frs_nil, e_frs_frz, e_frs_cons, e_frF_nil, e_frF_cons, e_prep_nil, e_prep_f, e_prep_t, e_prepT, e_prep_v, e_called, e_calledR, e_bkR, e_back_nil, e_back_cons, e_call, e_callR, e_madeF, e_make, e_fld, e_fldSet, e_fldSetR, e_meth, e_f1l, e_f1a, e_rd_f, e_mkK, e_yes, e_toW, e_toFs_nil, e_toFs_cons, e_tup, e_lst, e_tupR, e_lstR, e_scR, e_f2, e_kR0, e_kR1, e_bits, e_bitsR, e_bm, e_bm_l, e_bm_s, e_app, e_appR, e_asg, e_seqG, e_gsc, e_gsn, e_gTp, e_exc_try, e_turnR_n, e_turnR_c, e_turnR_b, e_turnR_r, e_setIx, e_setA, e_setB, e_setC, e_iter, e_sl, e_pSome, e_pR, e_pNone, e_listR1, e_lr1, e_prepB_nil, e_prepB_cons, e_arg_ff, e_arg_la, e_lentA, e_arg_lf, e_arg_lb, e_arg_ta, e_ownA, e_arg_tv, e_callL, e_callRB, e_calledB, e_calledBR, e_calledBX, e_backB, e_lkBack_nil, e_lkBack_cons, e_nbs_nil, e_nbs_cons, e_nb_f, e_nb_l, e_nb_o, e_nbF_nil, e_nbF_cons, e_nbs_map, e_makeL, e_madeBR, e_methL, e_methLR_f, e_toWs_nil, e_toWs_cons, e_lstW, e_lstWR, e_mPk, e_pkR_i, e_pkR_s, e_pkR_b, e_setP, e_nin_al, e_in_al, e_in_ft, e_in_fl, e_nin_ft, e_nin_fl, e_eqS, e_neS, e_eqB, e_neB, e_sl_s, e_handed_a, e_handedA, e_f1R_len, e_kR2, e_seqK_l, e_seqK_t, e_items_al, e_items_fl, e_items_ft, e_items_ol, e_tuple_v, e_tuple_a, e_tupA, e_tuple_l, e_tuple_t, e_list_l, e_list_t, e_list_o, e_aug, e_augA, e_addI, e_subI, e_chain, e_chR, e_chK, e_fldR_f, List.getElem?_cons_zero, List.getElem?_cons_succ, List.set_cons_zero, List.set_cons_succ, List.length_cons, List.length_nil, Option.map_some, Option.map_none, Option.bind_some, Option.bind_none, if_true, if_false, ite_true, ite_false, reduceIte, decide_true, decide_false, Bool.not_true, Bool.not_false, Bool.and_true, Bool.true_and, Bool.and_false, Bool.false_and, Bool.or_true, Bool.true_or, Bool.or_false, Bool.false_or, ne_eq, not_false_eq_true, not_true_eq_false, Option.some.injEq, reduceCtorEq, and_self, and_true, true_and, Bool.false_eq_true, List.nil_append, List.cons_append, List.append_nil, decide_eq_true_eq, m_l_weight, c1, st_lk, e1]
  · by_cases c2 : kind < 6
    · refine ⟨s2, 1 + r2, ?_, o2, by omega, by omega⟩
      refine run_ret (m := m_l_weight K A) (L0 := [some (stW s), some (iW kind)]) (L := [some (stW s2), some (iW kind)]) ?_
      simp (decide := true) only [e_bind, e_then, e_badb, e_var, e_lk_f, e_lk_b, e_lk_l, e_lk_t, e_lk_o, e_C, e_op, e_seq, e_seq_n, e_seq_r, e_seq_b, e_seq_c, e_nil, e_brk, e_exp, e_set, e_asgn, e_ret, e_handed, e_if, e_ifE, e_mBl, e_blR, e_not, e_and, e_or, e_andV, e_orV, e_notV, e_tru, e_truR, e_add, e_sub, e_mul, e_div, e_mod, e_pow, e_lt, e_gt, e_le, e_ge, e_eq, e_ne, e_neg, e_nilA, e_cons, e_callB, e_f1, e_len_str, e_len_lst, e_len_lok, e_len_tup, e_int, e_abs, e_par, e_no, e_while, e_for, e_gNm, e_range1, e_range2, e_rg1, e_rg2, e_slotW, e_get_v, e_get_a, e_fr_f, e_toFv, e_toF_v, e_toF_a, e_toFb, e_toFa, e_fr_l, e_fr_o, e_frs_nil, e_frs_frz, e_frs_cons, e_frF_nil, e_frF_cons, e_prep_nil, e_prep_f, e_prep_t, e_prepT, e_prep_v, e_called, e_calledR, e_bkR, e_back_nil, e_back_cons, e_call, e_callR, e_madeF, e_make, e_fld, e_fldSet, e_fldSetR, e_meth, e_f1l, e_f1a, e_rd_f, e_mkK, e_yes, e_toW, e_toFs_nil, e_toFs_cons, e_tup, e_lst, e_tupR, e_lstR, e_scR, e_f2, e_kR0, e_kR1, e_bits, e_bitsR, e_bm, e_bm_l, e_bm_s, e_app, e_appR, e_asg, e_seqG, e_gsc, e_gsn, e_gTp, e_exc_try, e_turnR_n, e_turnR_c, e_turnR_b, e_turnR_r, e_setIx, e_setA, e_setB, e_setC, e_iter, e_sl, e_pSome, e_pR, e_pNone, e_listR1, e_lr1, e_prepB_nil, e_prepB_cons, e_arg_ff, e_arg_la, e_lentA, e_arg_lf, e_arg_lb, e_arg_ta, e_ownA, e_arg_tv, e_callL, e_callRB, e_calledB, e_calledBR, e_calledBX, e_backB, e_lkBack_nil, e_lkBack_cons, e_nbs_nil, e_nbs_cons, e_nb_f, e_nb_l, e_nb_o, e_nbF_nil, e_nbF_cons, e_nbs_map, e_makeL, e_madeBR, e_methL, e_methLR_f, e_toWs_nil, e_toWs_cons, e_lstW, e_lstWR, e_mPk, e_pkR_i, e_pkR_s, e_pkR_b, e_setP, e_nin_al, e_in_al, e_in_ft, e_in_fl, e_nin_ft, e_nin_fl, e_eqS, e_neS, e_eqB, e_neB, e_sl_s, e_handed_a, e_handedA, e_f1R_len, e_kR2, e_seqK_l, e_seqK_t, e_items_al, e_items_fl, e_items_ft, e_items_ol, e_tuple_v, e_tuple_a, e_tupA, e_tuple_l, e_tuple_t, e_list_l, e_list_t, e_list_o, e_aug, e_augA, e_addI, e_subI, e_chain, e_chR, e_chK, e_fldR_f, List.getElem?_cons_zero, List.getElem?_cons_succ, List.set_cons_zero, List.set_cons_succ, List.length_cons, List.length_nil, Option.map_some, Option.map_none, Option.bind_some, Option.bind_none, if_true, if_false, ite_true, ite_false, reduceIte, decide_true, decide_false, Bool.not_true, Bool.not_false, Bool.and_true, Bool.true_and, Bool.and_false, Bool.false_and, Bool.or_true, Bool.true_or, Bool.or_false, Bool.false_or, ne_eq, not_false_eq_true, not_true_eq_false, Option.some.injEq, reduceCtorEq, and_self, and_true, true_and, Bool.false_eq_true, List.nil_append, List.cons_append, List.append_nil, decide_eq_true_eq, m_l_weight, c1, c2, st_lk, e2]
    · by_cases c3 : kind = 6
      · refine ⟨s3, 6 + 6 * r3, ?_, o3, by omega, by omega⟩
        have m1 : SzM 6 r3 := (bitOf (n := 31) (by decide) (show (6 : Int) < 7 by decide) (by decide)).szM (bitOf (n := 31) a3 b3 (by decide)) (by decide)
        refine run_ret (m := m_l_weight K A) (L0 := [some (stW s), some (iW kind)]) (L := [some (stW s3), some (iW kind)]) ?_
        subst c3
        simp (decide := true) only [e_bind, e_then, e_badb, e_var, e_lk_f, e_lk_b, e_lk_l, e_lk_t, e_lk_o, e_C, e_op, e_seq, e_seq_n, e_seq_r, e_seq_b, e_seq_c, e_nil, e_brk, e_exp, e_set, e_asgn, e_ret, e_handed, e_if, e_ifE, e_mBl, e_blR, e_not, e_and, e_or, e_andV, e_orV, e_notV, e_tru, e_truR, e_add, e_sub, e_mul, e_div, e_mod, e_pow, e_lt, e_gt, e_le, e_ge, e_eq, e_ne, e_neg, e_nilA, e_cons, e_callB, e_f1, e_len_str, e_len_lst, e_len_lok, e_len_tup, e_int, e_abs, e_par, e_no, e_while, e_for, e_gNm, e_range1, e_range2, e_rg1, e_rg2, e_slotW, e_get_v, e_get_a, e_fr_f, e_toFv, e_toF_v, e_toF_a, e_toFb, e_toFa, e_fr_l, e_fr_o, e_frs_nil, e_frs_frz, e_frs_cons, e_frF_nil, e_frF_cons, e_prep_nil, e_prep_f, e_prep_t, e_prepT, e_prep_v, e_called, e_calledR, e_bkR, e_back_nil, e_back_cons, e_call, e_callR, e_madeF, e_make, e_fld, e_fldSet, e_fldSetR, e_meth, e_f1l, e_f1a, e_rd_f, e_mkK, e_yes, e_toW, e_toFs_nil, e_toFs_cons, e_tup, e_lst, e_tupR, e_lstR, e_scR, e_f2, e_kR0, e_kR1, e_bits, e_bitsR, e_bm, e_bm_l, e_bm_s, e_app, e_appR, e_asg, e_seqG, e_gsc, e_gsn, e_gTp, e_exc_try, e_turnR_n, e_turnR_c, e_turnR_b, e_turnR_r, e_setIx, e_setA, e_setB, e_setC, e_iter, e_sl, e_pSome, e_pR, e_pNone, e_listR1, e_lr1, e_prepB_nil, e_prepB_cons, e_arg_ff, e_arg_la, e_lentA, e_arg_lf, e_arg_lb, e_arg_ta, e_ownA, e_arg_tv, e_callL, e_callRB, e_calledB, e_calledBR, e_calledBX, e_backB, e_lkBack_nil, e_lkBack_cons, e_nbs_nil, e_nbs_cons, e_nb_f, e_nb_l, e_nb_o, e_nbF_nil, e_nbF_cons, e_nbs_map, e_makeL, e_madeBR, e_methL, e_methLR_f, e_toWs_nil, e_toWs_cons, e_lstW, e_lstWR, e_mPk, e_pkR_i, e_pkR_s, e_pkR_b, e_setP, e_nin_al, e_in_al, e_in_ft, e_in_fl, e_nin_ft, e_nin_fl, e_eqS, e_neS, e_eqB, e_neB, e_sl_s, e_handed_a, e_handedA, e_f1R_len, e_kR2, e_seqK_l, e_seqK_t, e_items_al, e_items_fl, e_items_ft, e_items_ol, e_tuple_v, e_tuple_a, e_tupA, e_tuple_l, e_tuple_t, e_list_l, e_list_t, e_list_o, e_aug, e_augA, e_addI, e_subI, e_chain, e_chR, e_chK, e_fldR_f, List.getElem?_cons_zero, List.getElem?_cons_succ, List.set_cons_zero, List.set_cons_succ, List.length_cons, List.length_nil, Option.map_some, Option.map_none, Option.bind_some, Option.bind_none, if_true, if_false, ite_true, ite_false, reduceIte, decide_true, decide_false, Bool.not_true, Bool.not_false, Bool.and_true, Bool.true_and, Bool.and_false, Bool.false_and, Bool.or_true, Bool.true_or, Bool.or_false, Bool.false_or, ne_eq, not_false_eq_true, not_true_eq_false, Option.some.injEq, reduceCtorEq, and_self, and_true, true_and, Bool.false_eq_true, List.nil_append, List.cons_append, List.append_nil, decide_eq_true_eq, m_l_weight, st_lk, e3, m1]
      · refine ⟨s4, if r4 > 1 then r4 else 1, ?_, o4, by split <;> omega, by split <;> omega⟩
        have hmx : maxD (.int 1) (.int r4) = some (.int (if r4 > 1 then r4 else 1)) := rfl
        generalize (if r4 > 1 then r4 else 1) = mx at *
        refine run_ret (m := m_l_weight K A) (L0 := [some (stW s), some (iW kind)]) (L := [some (stW s4), some (iW kind)]) ?_
        simp (decide := true) only [e_bind, e_then, e_badb, e_var, e_lk_f, e_lk_b, e_lk_l, e_lk_t, e_lk_o, e_C, e_op, e_seq, e_seq_n, e_seq_r, e_seq_b, e_seq_c, e_nil, e_brk, e_exp, e_set, e_asgn, e_ret, e_handed, e_if, e_ifE, e_mBl, e_blR, e_not, e_and, e_or, e_andV, e_orV, e_notV, e_tru, e_truR, e_add, e_sub, e_mul, e_div, e_mod, e_pow, e_lt, e_gt, e_le, e_ge, e_eq, e_ne, e_neg, e_nilA, e_cons, e_callB, e_f1, e_len_str, e_len_lst, e_len_lok, e_len_tup, e_int, e_abs, e_par, e_no, e_while, e_for, e_gNm, e_range1, e_range2, e_rg1, e_rg2, e_slotW, e_get_v, e_get_a, e_fr_f, e_toFv, e_toF_v, e_toF_a, e_toFb, e_toFa, e_fr_l, e_fr_o, e_frs_nil, e_frs_frz, e_frs_cons, e_frF_nil, e_frF_cons, e_prep_nil, e_prep_f, e_prep_t, e_prepT, e_prep_v, e_called, e_calledR, e_bkR, e_back_nil, e_back_cons, e_call, e_callR, e_madeF, e_make, e_fld, e_fldSet, e_fldSetR, e_meth, e_f1l, e_f1a, e_rd_f, e_mkK, e_yes, e_toW, e_toFs_nil, e_toFs_cons, e_tup, e_lst, e_tupR, e_lstR, e_scR, e_f2, e_kR0, e_kR1, e_bits, e_bitsR, e_bm, e_bm_l, e_bm_s, e_app, e_appR, e_asg, e_seqG, e_gsc, e_gsn, e_gTp, e_exc_try, e_turnR_n, e_turnR_c, e_turnR_b, e_turnR_r, e_setIx, e_setA, e_setB, e_setC, e_iter, e_sl, e_pSome, e_pR, e_pNone, e_listR1, e_lr1, e_prepB_nil, e_prepB_cons, e_arg_ff, e_arg_la, e_lentA, e_arg_lf, e_arg_lb, e_arg_ta, e_ownA, e_arg_tv, e_callL, e_callRB, e_calledB, e_calledBR, e_calledBX, e_backB, e_lkBack_nil, e_lkBack_cons, e_nbs_nil, e_nbs_cons, e_nb_f, e_nb_l, e_nb_o, e_nbF_nil, e_nbF_cons, e_nbs_map, e_makeL, e_madeBR, e_methL, e_methLR_f, e_toWs_nil, e_toWs_cons, e_lstW, e_lstWR, e_mPk, e_pkR_i, e_pkR_s, e_pkR_b, e_setP, e_nin_al, e_in_al, e_in_ft, e_in_fl, e_nin_ft, e_nin_fl, e_eqS, e_neS, e_eqB, e_neB, e_sl_s, e_handed_a, e_handedA, e_f1R_len, e_kR2, e_seqK_l, e_seqK_t, e_items_al, e_items_fl, e_items_ft, e_items_ol, e_tuple_v, e_tuple_a, e_tupA, e_tuple_l, e_tuple_t, e_list_l, e_list_t, e_list_o, e_aug, e_augA, e_addI, e_subI, e_chain, e_chR, e_chK, e_fldR_f, List.getElem?_cons_zero, List.getElem?_cons_succ, List.set_cons_zero, List.set_cons_succ, List.length_cons, List.length_nil, Option.map_some, Option.map_none, Option.bind_some, Option.bind_none, if_true, if_false, ite_true, ite_false, reduceIte, decide_true, decide_false, Bool.not_true, Bool.not_false, Bool.and_true, Bool.true_and, Bool.and_false, Bool.false_and, Bool.or_true, Bool.true_or, Bool.or_false, Bool.false_or, ne_eq, not_false_eq_true, not_true_eq_false, Option.some.injEq, reduceCtorEq, and_self, and_true, true_and, Bool.false_eq_true, List.nil_append, List.cons_append, List.append_nil, decide_eq_true_eq, m_l_weight, c1, c2, c3, st_lk, e4, hmx]
theorem texts_turn {s : DS} (h : s.Ok) (one : Bool) (most : Nat) (hm0 : 0 < most) (hm : most < 1000) {base : Str} (hb : Tx (most - 1) base) {pl : Nat} (hpl : pl ≤ base.length) {ts : List Str} (hp : Pool most ts) (hl : ts.length < 1000) (w : W) (s1 s7 s8 : Option W) :
    ∃ s' ts' s8', turnF (gNm fl_l_texts 7) (m_l_texts_b1 K A) w [some (stW s), s1, some (iW (most : Nat)), some (.frz (.bl one)), some (.frz (.str base)), some (iW (pl : Nat)), some (oL (sD ts)), s7, s8] =
      .next [some (stW s'), s1, some (iW (most : Nat)), some (.frz (.bl one)), some (.frz (.str base)), some (iW (pl : Nat)), some (oL (sD ts')), some w, s8'] ∧ s'.Ok ∧ Pool most ts' ∧ 0 < ts'.length ∧ ts'.length ≤ ts.length + 1 := by
  -- the text
  have key : ∃ s' t, s'.Ok ∧ Tx most t ∧ (sIf (mTru (mVar 3))
  (sSet fl_l_texts 8 (mOp aAddU (mOp aAddU (mSl (mVar 4) pNone (pSome (mVar 5))) (mOp (mkK ixW) (mCall [] (fn_l_signs K A) mNil) (mCall fl_l_draw (fn_l_draw K A) (mCons (mVar 0) (mCons (mC (.int 94)) mNil))))) (mSl (mVar 4) (pSome (mOp aAddU (mVar 5) (mC (.int 1)))) pNone)))
  (sSet fl_l_texts 8 (mCall fl_l_text (fn_l_text K A) (mCons (mVar 0) (mCons (mVar 2) mNil))))) [some (stW s), s1, some (iW (most : Nat)), some (.frz (.bl one)), some (.frz (.str base)), some (iW (pl : Nat)), some (oL (sD ts)), some w, s8] =
      .next [some (stW s'), s1, some (iW (most : Nat)), some (.frz (.bl one)), some (.frz (.str base)), some (iW (pl : Nat)), some (oL (sD ts)), some w, some (.frz (.str t))] := by
    cases one with
    | false =>
      obtain ⟨s', t, e, o, ht⟩ := text_is (K := K) (A := A) h most hm
      refine ⟨s', t, o, ht, ?_⟩
      generalize oL (sD ts) = oo
      generalize ((most : Nat) : Int) = m1 at *
      simp (decide := true) only [e_bind, e_then, e_badb, e_var, e_lk_f, e_lk_b, e_lk_l, e_lk_t, e_lk_o, e_C, e_op, e_seq, e_seq_n, e_seq_r, e_seq_b, e_seq_c, e_nil, e_brk, e_exp, e_set, e_asgn, e_ret, e_handed, e_if, e_ifE, e_mBl, e_blR, e_not, e_and, e_or, e_andV, e_orV, e_notV, e_tru, e_truR, e_add, e_sub, e_mul, e_div, e_mod, e_pow, e_lt, e_gt, e_le, e_ge, e_eq, e_ne, e_neg, e_nilA, e_cons, e_callB, e_f1, e_len_str, e_len_lst, e_len_lok, e_len_tup, e_int, e_abs, e_par, e_no, e_while, e_for, e_gNm, e_range1, e_range2, e_rg1, e_rg2, e_slotW, e_get_v, e_get_a, e_fr_f, e_toFv, e_toF_v, e_toF_a, e_toFb, e_toFa, e_fr_l, e_fr_o, e_frs_nil, e_frs_frz, e_frs_cons, e_frF_nil, e_frF_cons, e_prep_nil, e_prep_f, e_prep_t, e_prepT, e_prep_v, e_called, e_calledR, e_bkR, e_back_nil, e_back_cons, e_call, e_callR, e_madeF, e_make, e_fld, e_fldSet, e_fldSetR, e_meth, e_f1l, e_f1a, e_rd_f, e_mkK, e_yes, e_toW, e_toFs_nil, e_toFs_cons, e_tup, e_lst, e_tupR, e_lstR, e_scR, e_f2, e_kR0, e_kR1, e_bits, e_bitsR, e_bm, e_bm_l, e_bm_s, e_app, e_appR, e_asg, e_seqG, e_gsc, e_gsn, e_gTp, e_exc_try, e_turnR_n, e_turnR_c, e_turnR_b, e_turnR_r, e_setIx, e_setA, e_setB, e_setC, e_iter, e_sl, e_pSome, e_pR, e_pNone, e_listR1, e_lr1, e_prepB_nil, e_prepB_cons, e_arg_ff, e_arg_la, e_lentA, e_arg_lf, e_arg_lb, e_arg_ta, e_ownA, e_arg_tv, e_callL, e_callRB, e_calledB, e_calledBR, e_calledBX, e_backB, e_lkBack_nil, e_lkBack_cons, e_nbs_nil, e_nbs_cons, e_nb_f, e_nb_l, e_nb_o, e_nbF_nil, e_nbF_cons, e_nbs_map, e_makeL, e_madeBR, e_methL, e_methLR_f, e_toWs_nil, e_toWs_cons, e_lstW, e_lstWR, e_mPk, e_pkR_i, e_pkR_s, e_pkR_b, e_setP, e_nin_al, e_in_al, e_in_ft, e_in_fl, e_nin_ft, e_nin_fl, e_eqS, e_neS, e_eqB, e_neB, e_sl_s, e_handed_a, e_handedA, e_f1R_len, e_kR2, e_seqK_l, e_seqK_t, e_items_al, e_items_fl, e_items_ft, e_items_ol, e_tuple_v, e_tuple_a, e_tupA, e_tuple_l, e_tuple_t, e_list_l, e_list_t, e_list_o, e_aug, e_augA, e_addI, e_subI, e_chain, e_chR, e_chK, e_fldR_f, List.getElem?_cons_zero, List.getElem?_cons_succ, List.set_cons_zero, List.set_cons_succ, List.length_cons, List.length_nil, Option.map_some, Option.map_none, Option.bind_some, Option.bind_none, if_true, if_false, ite_true, ite_false, reduceIte, decide_true, decide_false, Bool.not_true, Bool.not_false, Bool.and_true, Bool.true_and, Bool.and_false, Bool.false_and, Bool.or_true, Bool.true_or, Bool.or_false, Bool.false_or, ne_eq, not_false_eq_true, not_true_eq_false, Option.some.injEq, reduceCtorEq, and_self, and_true, true_and, Bool.false_eq_true, List.nil_append, List.cons_append, List.append_nil, decide_eq_true_eq, st_lk, e]
    | true =>
      obtain ⟨s', r, e, o, r0, r1⟩ := draw_is (K := K) (A := A) h (lim := 94) (by decide) (bit31 (by decide) (by decide))
      obtain ⟨rn, rfl⟩ : ∃ k : Nat, r = (k : Nat) := ⟨r.toNat, by omega⟩
      have hrn : rn < signs.cps.toList.length := by rw [signs_len]; omega
      have hsl : signs.length ≤ 1000 := by rw [← BV.len_str, signs_len]; decide
      have ix := fun L : Lc => ix_str (L := L) (z := signs) (i := rn) hrn hsl
      have es := signs_is (K := K) (A := A)
      have hbl := hb.len
      have hc : signs.cps.toList[rn] ∈ signs.cps.toList := List.getElem_mem _
      have c1 := cut_to base pl
      have c2 := cut_from base (pl + 1)
      have l1 : (cutS base none (some (pl : Int))).length = pl := by rw [← BV.len_str, c1, List.length_take, BV.len_str]; omega
      have l2 : (cutS base (some ((pl + 1 : Nat) : Int)) none).length = base.length - (pl + 1) := by rw [← BV.len_str, c2, List.length_drop, BV.len_str]
      have ec : ((pl : Nat) : Int) + 1 = ((pl + 1 : Nat) : Int) := by omega
      have m1 : ∀ c ∈ (cutS base none (some (pl : Int))).cps.toList, c ∈ signs.cps.toList := fun c h => hb.sg c (cut_mem h)
      have m2 : ∀ c ∈ (cutS base (some ((pl + 1 : Nat) : Int)) none).cps.toList, c ∈ signs.cps.toList := fun c h => hb.sg c (cut_mem h)
      generalize signs.cps.toList[rn] = c at *
      generalize hu : cutS base none (some (pl : Int)) = u1 at *
      generalize hv : cutS base (some ((pl + 1 : Nat) : Int)) none = u2 at *
      have a1 := fun L : Lc => addU_s (L := L) u1 (sg c) (small_le (by rw [len_sg]; omega))
      have a2 := fun L : Lc => addU_s (L := L) (u1 ++ sg c) u2 (small_le (by rw [len_app, len_sg]; omega))
      refine ⟨s', u1 ++ sg c ++ u2, o, ⟨by rw [len_app, len_app, len_sg]; omega, fun x hx => ?_⟩, ?_⟩
      · rw [tl_app, tl_app] at hx
        rcases List.mem_append.mp hx with hx | hx
        · rcases List.mem_append.mp hx with hx | hx
          · exact m1 x hx
          · rw [show x = c by simpa using hx]; exact hc
        · exact m2 x hx
      · have hbl2 : base.length ≤ 1000 := by omega
        generalize u1 ++ sg c ++ u2 = t at *
        generalize u1 ++ sg c = t1 at *
        generalize sg c = sc at *
        generalize signs = z at *
        generalize oL (sD ts) = oo
        generalize ((most : Nat) : Int) = mm at *
        generalize ((rn : Nat) : Int) = r1 at *
        generalize ((pl + 1 : Nat) : Int) = pl1 at *
        generalize ((pl : Nat) : Int) = pl0 at *
        simp (decide := true) only [e_bind, e_then, e_badb, e_var, e_lk_f, e_lk_b, e_lk_l, e_lk_t, e_lk_o, e_C, e_op, e_seq, e_seq_n, e_seq_r, e_seq_b, e_seq_c, e_nil, e_brk, e_exp, e_set, e_asgn, e_ret, e_handed, e_if, e_ifE, e_mBl, e_blR, e_not, e_and, e_or, e_andV, e_orV, e_notV, e_tru, e_truR, e_add, e_sub, e_mul, e_div, e_mod, e_pow, e_lt, e_gt, e_le, e_ge, e_eq, e_ne, e_neg, e_nilA, e_cons, e_callB, e_f1, e_len_str, e_len_lst, e_len_lok, e_len_tup, e_int, e_abs, e_par, e_no, e_while, e_for, e_gNm, e_range1, e_range2, e_rg1, e_rg2, e_slotW, e_get_v, e_get_a, e_fr_f, e_toFv, e_toF_v, e_toF_a, e_toFb, e_toFa, e_fr_l, e_fr_o, e_frs_nil, e_frs_frz, e_frs_cons, e_frF_nil, e_frF_cons, e_prep_nil, e_prep_f, e_prep_t, e_prepT, e_prep_v, e_called, e_calledR, e_bkR, e_back_nil, e_back_cons, e_call, e_callR, e_madeF, e_make, e_fld, e_fldSet, e_fldSetR, e_meth, e_f1l, e_f1a, e_rd_f, e_mkK, e_yes, e_toW, e_toFs_nil, e_toFs_cons, e_tup, e_lst, e_tupR, e_lstR, e_scR, e_f2, e_kR0, e_kR1, e_bits, e_bitsR, e_bm, e_bm_l, e_bm_s, e_app, e_appR, e_asg, e_seqG, e_gsc, e_gsn, e_gTp, e_exc_try, e_turnR_n, e_turnR_c, e_turnR_b, e_turnR_r, e_setIx, e_setA, e_setB, e_setC, e_iter, e_sl, e_pSome, e_pR, e_pNone, e_listR1, e_lr1, e_prepB_nil, e_prepB_cons, e_arg_ff, e_arg_la, e_lentA, e_arg_lf, e_arg_lb, e_arg_ta, e_ownA, e_arg_tv, e_callL, e_callRB, e_calledB, e_calledBR, e_calledBX, e_backB, e_lkBack_nil, e_lkBack_cons, e_nbs_nil, e_nbs_cons, e_nb_f, e_nb_l, e_nb_o, e_nbF_nil, e_nbF_cons, e_nbs_map, e_makeL, e_madeBR, e_methL, e_methLR_f, e_toWs_nil, e_toWs_cons, e_lstW, e_lstWR, e_mPk, e_pkR_i, e_pkR_s, e_pkR_b, e_setP, e_nin_al, e_in_al, e_in_ft, e_in_fl, e_nin_ft, e_nin_fl, e_eqS, e_neS, e_eqB, e_neB, e_sl_s, e_handed_a, e_handedA, e_f1R_len, e_kR2, e_seqK_l, e_seqK_t, e_items_al, e_items_fl, e_items_ft, e_items_ol, e_tuple_v, e_tuple_a, e_tupA, e_tuple_l, e_tuple_t, e_list_l, e_list_t, e_list_o, e_aug, e_augA, e_addI, e_subI, e_chain, e_chR, e_chK, e_fldR_f, List.getElem?_cons_zero, List.getElem?_cons_succ, List.set_cons_zero, List.set_cons_succ, List.length_cons, List.length_nil, Option.map_some, Option.map_none, Option.bind_some, Option.bind_none, if_true, if_false, ite_true, ite_false, reduceIte, decide_true, decide_false, Bool.not_true, Bool.not_false, Bool.and_true, Bool.true_and, Bool.and_false, Bool.false_and, Bool.or_true, Bool.true_or, Bool.or_false, Bool.false_or, ne_eq, not_false_eq_true, not_true_eq_false, Option.some.injEq, reduceCtorEq, and_self, and_true, true_and, Bool.false_eq_true, List.nil_append, List.cons_append, List.append_nil, decide_eq_true_eq, st_lk, e, es, ix, hbl2, hu, ec, hv, a1, a2]
  obtain ⟨s', t, o, ht, e⟩ := key
  have nn := fun (a0 a1 a2 a3 a4 a5 a7 a8 : Option W) => ninR_l (L := [a0, a1, a2, a3, a4, a5, some (oL (sD ts)), a7, a8]) (t := t) (i := 6) (ts := ts) rfl
  have lk := fun L : Lc => e_lk_l (L := L) 6 ((sD ts).map .frz)
  by_cases hin : t ∈ ts
  · refine ⟨s', ts, some (.frz (.str t)), ?_, o, hp, List.length_pos_of_mem hin, by omega⟩
    rw [decide_eq_true hin] at nn
    rw [turn_is, e_gNm, e_asgn _ _ (by decide), m_l_texts_b1]
    show SRes.seqG (.next [some (stW s), s1, some (iW (most : Nat)), some (.frz (.bl one)), some (.frz (.str base)), some (iW (pl : Nat)), some (oL (sD ts)), some w, s8]) _ = _
    rw [e_seqG, e_seq, e]
    unfold oL at *
    generalize (sD ts).map W.frz = oo at *
    simp (decide := true) only [e_bind, e_then, e_badb, e_var, e_lk_f, e_lk_b, e_lk_l, e_lk_t, e_lk_o, e_C, e_op, e_seq, e_seq_n, e_seq_r, e_seq_b, e_seq_c, e_nil, e_brk, e_exp, e_set, e_asgn, e_ret, e_handed, e_if, e_ifE, e_mBl, e_blR, e_not, e_and, e_or, e_andV, e_orV, e_notV, e_tru, e_truR, e_add, e_sub, e_mul, e_div, e_mod, e_pow, e_lt, e_gt, e_le, e_ge, e_eq, e_ne, e_neg, e_nilA, e_cons, e_callB, e_f1, e_len_str, e_len_lst, e_len_lok, e_len_tup, e_int, e_abs, e_par, e_no, e_while, e_for, e_gNm, e_range1, e_range2, e_rg1, e_rg2, e_slotW, e_get_v, e_get_a, e_fr_f, e_toFv, e_toF_v, e_toF_a, e_toFb, e_toFa, e_fr_l, e_fr_o, e_frs_nil, e_frs_frz, e_frs_cons, e_frF_nil, e_frF_cons, e_prep_nil, e_prep_f, e_prep_t, e_prepT, e_prep_v, e_called, e_calledR, e_bkR, e_back_nil, e_back_cons, e_call, e_callR, e_madeF, e_make, e_fld, e_fldSet, e_fldSetR, e_meth, e_f1l, e_f1a, e_rd_f, e_mkK, e_yes, e_toW, e_toFs_nil, e_toFs_cons, e_tup, e_lst, e_tupR, e_lstR, e_scR, e_f2, e_kR0, e_kR1, e_bits, e_bitsR, e_bm, e_bm_l, e_bm_s, e_app, e_appR, e_asg, e_seqG, e_gsc, e_gsn, e_gTp, e_exc_try, e_turnR_n, e_turnR_c, e_turnR_b, e_turnR_r, e_setIx, e_setA, e_setB, e_setC, e_iter, e_sl, e_pSome, e_pR, e_pNone, e_listR1, e_lr1, e_prepB_nil, e_prepB_cons, e_arg_ff, e_arg_la, e_lentA, e_arg_lf, e_arg_lb, e_arg_ta, e_ownA, e_arg_tv, e_callL, e_callRB, e_calledB, e_calledBR, e_calledBX, e_backB, e_lkBack_nil, e_lkBack_cons, e_nbs_nil, e_nbs_cons, e_nb_f, e_nb_l, e_nb_o, e_nbF_nil, e_nbF_cons, e_nbs_map, e_makeL, e_madeBR, e_methL, e_methLR_f, e_toWs_nil, e_toWs_cons, e_lstW, e_lstWR, e_mPk, e_pkR_i, e_pkR_s, e_pkR_b, e_setP, e_nin_al, e_in_al, e_in_ft, e_in_fl, e_nin_ft, e_nin_fl, e_eqS, e_neS, e_eqB, e_neB, e_sl_s, e_handed_a, e_handedA, e_f1R_len, e_kR2, e_seqK_l, e_seqK_t, e_items_al, e_items_fl, e_items_ft, e_items_ol, e_tuple_v, e_tuple_a, e_tupA, e_tuple_l, e_tuple_t, e_list_l, e_list_t, e_list_o, e_aug, e_augA, e_addI, e_subI, e_chain, e_chR, e_chK, e_fldR_f, List.getElem?_cons_zero, List.getElem?_cons_succ, List.set_cons_zero, List.set_cons_succ, List.length_cons, List.length_nil, Option.map_some, Option.map_none, Option.bind_some, Option.bind_none, if_true, if_false, ite_true, ite_false, reduceIte, decide_true, decide_false, Bool.not_true, Bool.not_false, Bool.and_true, Bool.true_and, Bool.and_false, Bool.false_and, Bool.or_true, Bool.true_or, Bool.or_false, Bool.false_or, ne_eq, not_false_eq_true, not_true_eq_false, Option.some.injEq, reduceCtorEq, and_self, and_true, true_and, Bool.false_eq_true, List.nil_append, List.cons_append, List.append_nil, decide_eq_true_eq, lk, nn]
  · refine ⟨s', ts ++ [t], some (.frz (.str t)), ?_, o, hp.snoc ht hin, by simp, by simp⟩
    rw [decide_eq_false hin] at nn
    have hsz : ((sD ts).map W.frz).length < sizeLine := by rw [List.length_map, List.length_map]; exact small1000 (by omega)
    rw [turn_is, e_gNm, e_asgn _ _ (by decide), m_l_texts_b1]
    show SRes.seqG (.next [some (stW s), s1, some (iW (most : Nat)), some (.frz (.bl one)), some (.frz (.str base)), some (iW (pl : Nat)), some (oL (sD ts)), some w, s8]) _ = _
    rw [e_seqG, e_seq, e, show sD (ts ++ [t]) = sD ts ++ [.str t] by simp [sD], oL_snoc]
    unfold oL at *
    generalize (sD ts).map W.frz = oo at *
    simp (decide := true) only [e_bind, e_then, e_badb, e_var, e_lk_f, e_lk_b, e_lk_l, e_lk_t, e_lk_o, e_C, e_op, e_seq, e_seq_n, e_seq_r, e_seq_b, e_seq_c, e_nil, e_brk, e_exp, e_set, e_asgn, e_ret, e_handed, e_if, e_ifE, e_mBl, e_blR, e_not, e_and, e_or, e_andV, e_orV, e_notV, e_tru, e_truR, e_add, e_sub, e_mul, e_div, e_mod, e_pow, e_lt, e_gt, e_le, e_ge, e_eq, e_ne, e_neg, e_nilA, e_cons, e_callB, e_f1, e_len_str, e_len_lst, e_len_lok, e_len_tup, e_int, e_abs, e_par, e_no, e_while, e_for, e_gNm, e_range1, e_range2, e_rg1, e_rg2, e_slotW, e_get_v, e_get_a, e_fr_f, e_toFv, e_toF_v, e_toF_a, e_toFb, e_toFa, e_fr_l, e_fr_o, e_frs_nil, e_frs_frz, e_frs_cons, e_frF_nil, e_frF_cons, e_prep_nil, e_prep_f, e_prep_t, e_prepT, e_prep_v, e_called, e_calledR, e_bkR, e_back_nil, e_back_cons, e_call, e_callR, e_madeF, e_make, e_fld, e_fldSet, e_fldSetR, e_meth, e_f1l, e_f1a, e_rd_f, e_mkK, e_yes, e_toW, e_toFs_nil, e_toFs_cons, e_tup, e_lst, e_tupR, e_lstR, e_scR, e_f2, e_kR0, e_kR1, e_bits, e_bitsR, e_bm, e_bm_l, e_bm_s, e_app, e_appR, e_asg, e_seqG, e_gsc, e_gsn, e_gTp, e_exc_try, e_turnR_n, e_turnR_c, e_turnR_b, e_turnR_r, e_setIx, e_setA, e_setB, e_setC, e_iter, e_sl, e_pSome, e_pR, e_pNone, e_listR1, e_lr1, e_prepB_nil, e_prepB_cons, e_arg_ff, e_arg_la, e_lentA, e_arg_lf, e_arg_lb, e_arg_ta, e_ownA, e_arg_tv, e_callL, e_callRB, e_calledB, e_calledBR, e_calledBX, e_backB, e_lkBack_nil, e_lkBack_cons, e_nbs_nil, e_nbs_cons, e_nb_f, e_nb_l, e_nb_o, e_nbF_nil, e_nbF_cons, e_nbs_map, e_makeL, e_madeBR, e_methL, e_methLR_f, e_toWs_nil, e_toWs_cons, e_lstW, e_lstWR, e_mPk, e_pkR_i, e_pkR_s, e_pkR_b, e_setP, e_nin_al, e_in_al, e_in_ft, e_in_fl, e_nin_ft, e_nin_fl, e_eqS, e_neS, e_eqB, e_neB, e_sl_s, e_handed_a, e_handedA, e_f1R_len, e_kR2, e_seqK_l, e_seqK_t, e_items_al, e_items_fl, e_items_ft, e_items_ol, e_tuple_v, e_tuple_a, e_tupA, e_tuple_l, e_tuple_t, e_list_l, e_list_t, e_list_o, e_aug, e_augA, e_addI, e_subI, e_chain, e_chR, e_chK, e_fldR_f, List.getElem?_cons_zero, List.getElem?_cons_succ, List.set_cons_zero, List.set_cons_succ, List.length_cons, List.length_nil, Option.map_some, Option.map_none, Option.bind_some, Option.bind_none, if_true, if_false, ite_true, ite_false, reduceIte, decide_true, decide_false, Bool.not_true, Bool.not_false, Bool.and_true, Bool.true_and, Bool.and_false, Bool.false_and, Bool.or_true, Bool.true_or, Bool.or_false, Bool.false_or, ne_eq, not_false_eq_true, not_true_eq_false, Option.some.injEq, reduceCtorEq, and_self, and_true, true_and, Bool.false_eq_true, List.nil_append, List.cons_append, List.append_nil, decide_eq_true_eq, lk, nn, hsz]
theorem texts_is {s : DS} (h : s.Ok) (many most : Nat) (h0 : 0 < many) (h1 : many < 900) (hm0 : 0 < most) (hm : most < 1000) :
    ∃ s' ts, fn_l_texts K A [stW s, iW (many : Nat), iW (most : Nat)] = .ok (oL (sD ts)) [stW s'] ∧ s'.Ok ∧ Pool most ts ∧ 0 < ts.length ∧ ts.length ≤ many := by
  obtain ⟨s1, r1, e1, o1, a1, b1⟩ := draw_is (K := K) (A := A) h (lim := 3) (by decide) (bit31 (by decide) (by decide))
  obtain ⟨s2, base, e2, o2, hb⟩ := text_is (K := K) (A := A) o1 (most - 1) (by omega)
  have hbl := hb.len
  obtain ⟨s3, r3, e3, o3, a3, b3⟩ := draw_is (K := K) (A := A) o2 (lim := (base.length : Int) + 1) (by omega) (bit31 (by omega) (by omega))
  obtain ⟨pl, rfl⟩ : ∃ k : Nat, r3 = (k : Nat) := ⟨r3.toNat, by omega⟩
  obtain ⟨L4, e4, s4, ts, k7, k8, rfl, o4, hp, hz, hl⟩ := for_all (g := gNm fl_l_texts 7) (body := m_l_texts_b1 K A) (ws := intsW 0 many) (L := [some (stW s3), some (iW (many : Nat)), some (iW (most : Nat)), some (.frz (.bl (decide (r1 = 0)))), some (.frz (.str base)), some (iW (pl : Nat)), some (oL (sD [])), none, none])
    (fun i L => ∃ s ts k7 k8, L = [some (stW s), some (iW (many : Nat)), some (iW (most : Nat)), some (.frz (.bl (decide (r1 = 0)))), some (.frz (.str base)), some (iW (pl : Nat)), some (oL (sD ts)), k7, k8] ∧ s.Ok ∧ Pool most ts ∧ (0 < i → 0 < ts.length) ∧ ts.length ≤ i)
    (fun i w L hw ⟨s, ts, k7, k8, e, o, hp, hz, hl⟩ => by
      obtain ⟨hi, rfl⟩ := intsW_get hw
      subst e
      obtain ⟨s', ts', s8', et, o', hp', hz', hl'⟩ := texts_turn (K := K) (A := A) o (decide (r1 = 0)) most hm0 hm hb (pl := pl) (by omega) hp (by omega) (.frz (.int (0 + (i : Nat)))) (some (iW (many : Nat))) k7 k8
      exact ⟨_, et, s', ts', _, s8', rfl, o', hp', fun _ => hz', by omega⟩)
    ⟨s3, [], none, none, rfl, o3, ⟨List.nodup_nil, fun t ht => by cases ht⟩, fun z => absurd z (Nat.lt_irrefl 0), Nat.le_refl 0⟩
  rw [intsW_len] at hz hl
  have hlb : lenD (.str base) = some (.int base.length) := e_len_str base (small_le (by omega))
  have em : ((most : Nat) : Int) - 1 = ((most - 1 : Nat) : Int) := by omega
  have rk : SzR ((many : Nat) : Int) := szR (by omega) (by omega)
  have nk : (((many : Nat) : Int)).toNat = many := by omega
  have lk := fun L : Lc => e_lk_l (L := L) 6 ((sD ts).map .frz)
  refine ⟨s4, ts, ?_, o4, hp, hz h0, hl⟩
  refine run_ret (m := m_l_texts K A) (L0 := [some (stW s), some (iW (many : Nat)), some (iW (most : Nat)), none, none, none, none, none, none]) (L := [some (stW s4), some (iW (many : Nat)), some (iW (most : Nat)), some (.frz (.bl (decide (r1 = 0)))), some (.frz (.str base)), some (iW (pl : Nat)), none, k7, k8]) ?_
  have hz0 : oL (sD []) = .olst (([] : List D).map .frz) := rfl
  rw [hz0, List.map_nil] at e4
  unfold oL at *
  generalize (sD ts).map W.frz = ow at *
  generalize ((most - 1 : Nat) : Int) = m1 at *
  generalize ((many : Nat) : Int) = mn at *
  generalize ((most : Nat) : Int) = mo at *
  generalize ((pl : Nat) : Int) = p1 at *
  simp (decide := true) only [e_bind, e_then, e_badb, e_var, e_lk_f, e_lk_b, e_lk_l, e_lk_t, e_lk_o, e_C, e_op, e_seq, e_seq_n, e_seq_r, e_seq_b, e_seq_c, e_nil, e_brk, e_exp, e_set, e_asgn, e_ret, e_handed, e_if, e_ifE, e_mBl, e_blR, e_not, e_and, e_or, e_andV, e_orV, e_notV, e_tru, e_truR, e_add, e_sub, e_mul, e_div, e_mod, e_pow, e_lt, e_gt, e_le, e_ge, e_eq, e_ne, e_neg, e_nilA, e_cons, e_callB, e_f1, e_len_str, e_len_lst, e_len_lok, e_len_tup, e_int, e_abs, e_par, e_no, e_while, e_for, e_gNm, e_range1, e_range2, e_rg1, e_rg2, e_slotW, e_get_v, e_get_a, e_fr_f, e_toFv, e_toF_v, e_toF_a, e_toFb, e_toFa, e_fr_l, e_fr_o, e_frs_nil, e_frs_frz, e_frs_cons, e_frF_nil, e_frF_cons, e_prep_nil, e_prep_f, e_prep_t, e_prepT, e_prep_v, e_called, e_calledR, e_bkR, e_back_nil, e_back_cons, e_call, e_callR, e_madeF, e_make, e_fld, e_fldSet, e_fldSetR, e_meth, e_f1l, e_f1a, e_rd_f, e_mkK, e_yes, e_toW, e_toFs_nil, e_toFs_cons, e_tup, e_lst, e_tupR, e_lstR, e_scR, e_f2, e_kR0, e_kR1, e_bits, e_bitsR, e_bm, e_bm_l, e_bm_s, e_app, e_appR, e_asg, e_seqG, e_gsc, e_gsn, e_gTp, e_exc_try, e_turnR_n, e_turnR_c, e_turnR_b, e_turnR_r, e_setIx, e_setA, e_setB, e_setC, e_iter, e_sl, e_pSome, e_pR, e_pNone, e_listR1, e_lr1, e_prepB_nil, e_prepB_cons, e_arg_ff, e_arg_la, e_lentA, e_arg_lf, e_arg_lb, e_arg_ta, e_ownA, e_arg_tv, e_callL, e_callRB, e_calledB, e_calledBR, e_calledBX, e_backB, e_lkBack_nil, e_lkBack_cons, e_nbs_nil, e_nbs_cons, e_nb_f, e_nb_l, e_nb_o, e_nbF_nil, e_nbF_cons, e_nbs_map, e_makeL, e_madeBR, e_methL, e_methLR_f, e_toWs_nil, e_toWs_cons, e_lstW, e_lstWR, e_mPk, e_pkR_i, e_pkR_s, e_pkR_b, e_setP, e_nin_al, e_in_al, e_in_ft, e_in_fl, e_nin_ft, e_nin_fl, e_eqS, e_neS, e_eqB, e_neB, e_sl_s, e_handed_a, e_handedA, e_f1R_len, e_kR2, e_seqK_l, e_seqK_t, e_items_al, e_items_fl, e_items_ft, e_items_ol, e_tuple_v, e_tuple_a, e_tupA, e_tuple_l, e_tuple_t, e_list_l, e_list_t, e_list_o, e_aug, e_augA, e_addI, e_subI, e_chain, e_chR, e_chK, e_fldR_f, List.getElem?_cons_zero, List.getElem?_cons_succ, List.set_cons_zero, List.set_cons_succ, List.length_cons, List.length_nil, Option.map_some, Option.map_none, Option.bind_some, Option.bind_none, if_true, if_false, ite_true, ite_false, reduceIte, decide_true, decide_false, Bool.not_true, Bool.not_false, Bool.and_true, Bool.true_and, Bool.and_false, Bool.false_and, Bool.or_true, Bool.true_or, Bool.or_false, Bool.false_or, ne_eq, not_false_eq_true, not_true_eq_false, Option.some.injEq, reduceCtorEq, and_self, and_true, true_and, Bool.false_eq_true, List.nil_append, List.cons_append, List.append_nil, decide_eq_true_eq, m_l_texts, st_lk, e1, em, e2, hlb, e3, rk, nk, e4, lk, List.map_nil]
end
end L

set_option exponentiation.threshold 20000
namespace L
open PySem PySem.Spec PyProof.Rows L2 BV
/-- a key -/
structure En where
  w : Int
  t : Str
  a : List Str
abbrev eD (e : En) : D := .tup [.int e.w, .str e.t, .lst (sD e.a)]
structure EnOk (ts : List Str) (e : En) : Prop where
  w0 : 1 ≤ e.w
  w1 : e.w < 10 ^ 40
  t : e.t ∈ ts
  nd : e.a.Nodup
  a : ∀ x ∈ e.a, x ∈ ts
  al : e.a.length ≤ 24
theorem sD_get {ts : List Str} {i : Nat} (h : i < ts.length) : (sD ts)[i]? = some (.str ts[i]) := by rw [List.getElem?_map, List.getElem?_eq_getElem h]; rfl
theorem sD_len (ts : List Str) : (sD ts).length = ts.length := List.length_map ..
section
variable {K : PySem.W.Frag} {A : Ad}
theorem pool_is {s : DS} (h : s.Ok) : ∃ s' ts, fn_l_pool K A [stW s] = .ok (oL (sD ts)) [stW s'] ∧ s'.Ok ∧ Pool 10 ts ∧ 0 < ts.length ∧ ts.length ≤ 24 := by
  obtain ⟨s1, r1, e1, o1, a1, b1⟩ := draw_is (K := K) (A := A) h (lim := 6) (by decide) (bit31 (by decide) (by decide))
  obtain ⟨s2, r2, e2, o2, a2, b2⟩ := draw_is (K := K) (A := A) o1 (lim := 8) (by decide) (bit31 (by decide) (by decide))
  have key : ∃ s3 m, s3.Ok ∧ 0 < m ∧ m ≤ 24 ∧ (sIf (mBl (mOp cEqS (mCall fl_l_draw (fn_l_draw K A) (mCons (mVar 0) (mCons (mC (.int 8)) mNil))) (mC (.int 0))))
  (sSet fl_l_pool 1 (mOp aAddU (mC (.int 1)) (mCall fl_l_draw (fn_l_draw K A) (mCons (mVar 0) (mCons (mC (.int 24)) mNil)))))
  sNil) [some (stW s1), some (iW (1 + r1))] = .next [some (stW s3), some (iW ((m : Nat) : Int))] := by
    by_cases c : r2 = 0
    · obtain ⟨s3, r3, e3, o3, a3, b3⟩ := draw_is (K := K) (A := A) o2 (lim := 24) (by decide) (bit31 (by decide) (by decide))
      refine ⟨s3, (1 + r3).toNat, o3, by omega, by omega, ?_⟩
      have : (((1 + r3).toNat : Nat) : Int) = 1 + r3 := by omega
      rw [this]
      simp (decide := true) only [e_bind, e_then, e_badb, e_var, e_lk_f, e_lk_b, e_lk_l, e_lk_t, e_lk_o, e_C, e_op, e_seq, e_seq_n, e_seq_r, e_seq_b, e_seq_c, e_nil, e_brk, e_exp, e_set, e_asgn, e_ret, e_handed, e_if, e_ifE, e_mBl, e_blR, e_not, e_and, e_or, e_andV, e_orV, e_notV, e_tru, e_truR, e_add, e_sub, e_mul, e_div, e_mod, e_pow, e_lt, e_gt, e_le, e_ge, e_eq, e_ne, e_neg, e_nilA, e_cons, e_callB, e_f1, e_len_str, e_len_lst, e_len_lok, e_len_tup, e_int, e_abs, e_par, e_no, e_while, e_for, e_gNm, e_range1, e_range2, e_rg1, e_rg2, e_slotW, e_get_v, e_get_a, e_fr_f, e_toFv, e_toF_v, e_toF_a, e_toFb, e_toFa, e_fr_l, e_fr_o, e_frs_nil, e_frs_frz, e_frs_cons, e_frF_nil, e_frF_cons, e_prep_nil, e_prep_f, e_prep_t, e_prepT, e_prep_v, e_called, e_calledR, e_bkR, e_back_nil, e_back_cons, e_call, e_callR, e_madeF, e_make, e_fld, e_fldSet, e_fldSetR, e_meth, e_f1l, e_f1a, e_rd_f, e_mkK, e_yes, e_toW, e_toFs_nil, e_toFs_cons, e_tup, e_lst, e_tupR, e_lstR, e_scR, e_f2, e_kR0, e_kR1, e_bits, e_bitsR, e_bm, e_bm_l, e_bm_s, e_app, e_appR, e_asg, e_seqG, e_gsc, e_gsn, e_gTp, e_exc_try, e_turnR_n, e_turnR_c, e_turnR_b, e_turnR_r, e_setIx, e_setA, e_setB, e_setC, e_iter, e_sl, e_pSome, e_pR, e_pNone, e_listR1, e_lr1, e_prepB_nil, e_prepB_cons, e_arg_ff, e_arg_la, e_lentA, e_arg_lf, e_arg_lb, e_arg_ta, e_ownA, e_arg_tv, e_callL, e_callRB, e_calledB, e_calledBR, e_calledBX, e_backB, e_lkBack_nil, e_lkBack_cons, e_nbs_nil, e_nbs_cons, e_nb_f, e_nb_l, e_nb_o, e_nbF_nil, e_nbF_cons, e_nbs_map, e_makeL, e_madeBR, e_methL, e_methLR_f, e_toWs_nil, e_toWs_cons, e_lstW, e_lstWR, e_mPk, e_pkR_i, e_pkR_s, e_pkR_b, e_setP, e_nin_al, e_in_al, e_in_ft, e_in_fl, e_nin_ft, e_nin_fl, e_eqS, e_neS, e_eqB, e_neB, e_sl_s, e_handed_a, e_handedA, e_f1R_len, e_kR2, e_seqK_l, e_seqK_t, e_items_al, e_items_fl, e_items_ft, e_items_ol, e_tuple_v, e_tuple_a, e_tupA, e_tuple_l, e_tuple_t, e_list_l, e_list_t, e_list_o, e_aug, e_augA, e_addI, e_subI, e_chain, e_chR, e_chK, e_fldR_f, List.getElem?_cons_zero, List.getElem?_cons_succ, List.set_cons_zero, List.set_cons_succ, List.length_cons, List.length_nil, Option.map_some, Option.map_none, Option.bind_some, Option.bind_none, if_true, if_false, ite_true, ite_false, reduceIte, decide_true, decide_false, Bool.not_true, Bool.not_false, Bool.and_true, Bool.true_and, Bool.and_false, Bool.false_and, Bool.or_true, Bool.true_or, Bool.or_false, Bool.false_or, ne_eq, not_false_eq_true, not_true_eq_false, Option.some.injEq, reduceCtorEq, and_self, and_true, true_and, Bool.false_eq_true, List.nil_append, List.cons_append, List.append_nil, decide_eq_true_eq, st_lk, e2, c, e3]
    · refine ⟨s2, (1 + r1).toNat, o2, by omega, by omega, ?_⟩
      have : (((1 + r1).toNat : Nat) : Int) = 1 + r1 := by omega
      rw [this]
      simp (decide := true) only [e_bind, e_then, e_badb, e_var, e_lk_f, e_lk_b, e_lk_l, e_lk_t, e_lk_o, e_C, e_op, e_seq, e_seq_n, e_seq_r, e_seq_b, e_seq_c, e_nil, e_brk, e_exp, e_set, e_asgn, e_ret, e_handed, e_if, e_ifE, e_mBl, e_blR, e_not, e_and, e_or, e_andV, e_orV, e_notV, e_tru, e_truR, e_add, e_sub, e_mul, e_div, e_mod, e_pow, e_lt, e_gt, e_le, e_ge, e_eq, e_ne, e_neg, e_nilA, e_cons, e_callB, e_f1, e_len_str, e_len_lst, e_len_lok, e_len_tup, e_int, e_abs, e_par, e_no, e_while, e_for, e_gNm, e_range1, e_range2, e_rg1, e_rg2, e_slotW, e_get_v, e_get_a, e_fr_f, e_toFv, e_toF_v, e_toF_a, e_toFb, e_toFa, e_fr_l, e_fr_o, e_frs_nil, e_frs_frz, e_frs_cons, e_frF_nil, e_frF_cons, e_prep_nil, e_prep_f, e_prep_t, e_prepT, e_prep_v, e_called, e_calledR, e_bkR, e_back_nil, e_back_cons, e_call, e_callR, e_madeF, e_make, e_fld, e_fldSet, e_fldSetR, e_meth, e_f1l, e_f1a, e_rd_f, e_mkK, e_yes, e_toW, e_toFs_nil, e_toFs_cons, e_tup, e_lst, e_tupR, e_lstR, e_scR, e_f2, e_kR0, e_kR1, e_bits, e_bitsR, e_bm, e_bm_l, e_bm_s, e_app, e_appR, e_asg, e_seqG, e_gsc, e_gsn, e_gTp, e_exc_try, e_turnR_n, e_turnR_c, e_turnR_b, e_turnR_r, e_setIx, e_setA, e_setB, e_setC, e_iter, e_sl, e_pSome, e_pR, e_pNone, e_listR1, e_lr1, e_prepB_nil, e_prepB_cons, e_arg_ff, e_arg_la, e_lentA, e_arg_lf, e_arg_lb, e_arg_ta, e_ownA, e_arg_tv, e_callL, e_callRB, e_calledB, e_calledBR, e_calledBX, e_backB, e_lkBack_nil, e_lkBack_cons, e_nbs_nil, e_nbs_cons, e_nb_f, e_nb_l, e_nb_o, e_nbF_nil, e_nbF_cons, e_nbs_map, e_makeL, e_madeBR, e_methL, e_methLR_f, e_toWs_nil, e_toWs_cons, e_lstW, e_lstWR, e_mPk, e_pkR_i, e_pkR_s, e_pkR_b, e_setP, e_nin_al, e_in_al, e_in_ft, e_in_fl, e_nin_ft, e_nin_fl, e_eqS, e_neS, e_eqB, e_neB, e_sl_s, e_handed_a, e_handedA, e_f1R_len, e_kR2, e_seqK_l, e_seqK_t, e_items_al, e_items_fl, e_items_ft, e_items_ol, e_tuple_v, e_tuple_a, e_tupA, e_tuple_l, e_tuple_t, e_list_l, e_list_t, e_list_o, e_aug, e_augA, e_addI, e_subI, e_chain, e_chR, e_chK, e_fldR_f, List.getElem?_cons_zero, List.getElem?_cons_succ, List.set_cons_zero, List.set_cons_succ, List.length_cons, List.length_nil, Option.map_some, Option.map_none, Option.bind_some, Option.bind_none, if_true, if_false, ite_true, ite_false, reduceIte, decide_true, decide_false, Bool.not_true, Bool.not_false, Bool.and_true, Bool.true_and, Bool.and_false, Bool.false_and, Bool.or_true, Bool.true_or, Bool.or_false, Bool.false_or, ne_eq, not_false_eq_true, not_true_eq_false, Option.some.injEq, reduceCtorEq, and_self, and_true, true_and, Bool.false_eq_true, List.nil_append, List.cons_append, List.append_nil, decide_eq_true_eq, st_lk, e2, c]
  obtain ⟨s3, m, o3, m0, m1, e3⟩ := key
  obtain ⟨s4, ts, e4, o4, hp, hz, hl⟩ := texts_is (K := K) (A := A) o3 m 10 m0 (by omega) (by decide) (by decide)
  refine ⟨s4, ts, ?_, o4, hp, hz, by omega⟩
  refine run_ret (m := m_l_pool K A) (L0 := [some (stW s), none]) (L := [some (stW s4), some (iW ((m : Nat) : Int))]) ?_
  have f1 : sSet fl_l_pool 1 (mOp aAddU (mC (.int 1)) (mCall fl_l_draw (fn_l_draw K A) (mCons (mVar 0) (mCons (mC (.int 6)) mNil)))) [some (stW s), none] = .next [some (stW s1), some (iW (1 + r1))] := by
    simp (decide := true) only [e_bind, e_then, e_badb, e_var, e_lk_f, e_lk_b, e_lk_l, e_lk_t, e_lk_o, e_C, e_op, e_seq, e_seq_n, e_seq_r, e_seq_b, e_seq_c, e_nil, e_brk, e_exp, e_set, e_asgn, e_ret, e_handed, e_if, e_ifE, e_mBl, e_blR, e_not, e_and, e_or, e_andV, e_orV, e_notV, e_tru, e_truR, e_add, e_sub, e_mul, e_div, e_mod, e_pow, e_lt, e_gt, e_le, e_ge, e_eq, e_ne, e_neg, e_nilA, e_cons, e_callB, e_f1, e_len_str, e_len_lst, e_len_lok, e_len_tup, e_int, e_abs, e_par, e_no, e_while, e_for, e_gNm, e_range1, e_range2, e_rg1, e_rg2, e_slotW, e_get_v, e_get_a, e_fr_f, e_toFv, e_toF_v, e_toF_a, e_toFb, e_toFa, e_fr_l, e_fr_o, e_frs_nil, e_frs_frz, e_frs_cons, e_frF_nil, e_frF_cons, e_prep_nil, e_prep_f, e_prep_t, e_prepT, e_prep_v, e_called, e_calledR, e_bkR, e_back_nil, e_back_cons, e_call, e_callR, e_madeF, e_make, e_fld, e_fldSet, e_fldSetR, e_meth, e_f1l, e_f1a, e_rd_f, e_mkK, e_yes, e_toW, e_toFs_nil, e_toFs_cons, e_tup, e_lst, e_tupR, e_lstR, e_scR, e_f2, e_kR0, e_kR1, e_bits, e_bitsR, e_bm, e_bm_l, e_bm_s, e_app, e_appR, e_asg, e_seqG, e_gsc, e_gsn, e_gTp, e_exc_try, e_turnR_n, e_turnR_c, e_turnR_b, e_turnR_r, e_setIx, e_setA, e_setB, e_setC, e_iter, e_sl, e_pSome, e_pR, e_pNone, e_listR1, e_lr1, e_prepB_nil, e_prepB_cons, e_arg_ff, e_arg_la, e_lentA, e_arg_lf, e_arg_lb, e_arg_ta, e_ownA, e_arg_tv, e_callL, e_callRB, e_calledB, e_calledBR, e_calledBX, e_backB, e_lkBack_nil, e_lkBack_cons, e_nbs_nil, e_nbs_cons, e_nb_f, e_nb_l, e_nb_o, e_nbF_nil, e_nbF_cons, e_nbs_map, e_makeL, e_madeBR, e_methL, e_methLR_f, e_toWs_nil, e_toWs_cons, e_lstW, e_lstWR, e_mPk, e_pkR_i, e_pkR_s, e_pkR_b, e_setP, e_nin_al, e_in_al, e_in_ft, e_in_fl, e_nin_ft, e_nin_fl, e_eqS, e_neS, e_eqB, e_neB, e_sl_s, e_handed_a, e_handedA, e_f1R_len, e_kR2, e_seqK_l, e_seqK_t, e_items_al, e_items_fl, e_items_ft, e_items_ol, e_tuple_v, e_tuple_a, e_tupA, e_tuple_l, e_tuple_t, e_list_l, e_list_t, e_list_o, e_aug, e_augA, e_addI, e_subI, e_chain, e_chR, e_chK, e_fldR_f, List.getElem?_cons_zero, List.getElem?_cons_succ, List.set_cons_zero, List.set_cons_succ, List.length_cons, List.length_nil, Option.map_some, Option.map_none, Option.bind_some, Option.bind_none, if_true, if_false, ite_true, ite_false, reduceIte, decide_true, decide_false, Bool.not_true, Bool.not_false, Bool.and_true, Bool.true_and, Bool.and_false, Bool.false_and, Bool.or_true, Bool.true_or, Bool.or_false, Bool.false_or, ne_eq, not_false_eq_true, not_true_eq_false, Option.some.injEq, reduceCtorEq, and_self, and_true, true_and, Bool.false_eq_true, List.nil_append, List.cons_append, List.append_nil, decide_eq_true_eq, st_lk, e1]
  rw [m_l_pool, e_seq, f1, e_seq_n, e_seq, e3, e_seq_n]
  have t10 : ((10 : Nat) : Int) = 10 := rfl
  rw [t10] at e4
  generalize oL (sD ts) = ow at *
  generalize ((m : Nat) : Int) = mm at *
  simp (decide := true) only [e_bind, e_then, e_badb, e_var, e_lk_f, e_lk_b, e_lk_l, e_lk_t, e_lk_o, e_C, e_op, e_seq, e_seq_n, e_seq_r, e_seq_b, e_seq_c, e_nil, e_brk, e_exp, e_set, e_asgn, e_ret, e_handed, e_if, e_ifE, e_mBl, e_blR, e_not, e_and, e_or, e_andV, e_orV, e_notV, e_tru, e_truR, e_add, e_sub, e_mul, e_div, e_mod, e_pow, e_lt, e_gt, e_le, e_ge, e_eq, e_ne, e_neg, e_nilA, e_cons, e_callB, e_f1, e_len_str, e_len_lst, e_len_lok, e_len_tup, e_int, e_abs, e_par, e_no, e_while, e_for, e_gNm, e_range1, e_range2, e_rg1, e_rg2, e_slotW, e_get_v, e_get_a, e_fr_f, e_toFv, e_toF_v, e_toF_a, e_toFb, e_toFa, e_fr_l, e_fr_o, e_frs_nil, e_frs_frz, e_frs_cons, e_frF_nil, e_frF_cons, e_prep_nil, e_prep_f, e_prep_t, e_prepT, e_prep_v, e_called, e_calledR, e_bkR, e_back_nil, e_back_cons, e_call, e_callR, e_madeF, e_make, e_fld, e_fldSet, e_fldSetR, e_meth, e_f1l, e_f1a, e_rd_f, e_mkK, e_yes, e_toW, e_toFs_nil, e_toFs_cons, e_tup, e_lst, e_tupR, e_lstR, e_scR, e_f2, e_kR0, e_kR1, e_bits, e_bitsR, e_bm, e_bm_l, e_bm_s, e_app, e_appR, e_asg, e_seqG, e_gsc, e_gsn, e_gTp, e_exc_try, e_turnR_n, e_turnR_c, e_turnR_b, e_turnR_r, e_setIx, e_setA, e_setB, e_setC, e_iter, e_sl, e_pSome, e_pR, e_pNone, e_listR1, e_lr1, e_prepB_nil, e_prepB_cons, e_arg_ff, e_arg_la, e_lentA, e_arg_lf, e_arg_lb, e_arg_ta, e_ownA, e_arg_tv, e_callL, e_callRB, e_calledB, e_calledBR, e_calledBX, e_backB, e_lkBack_nil, e_lkBack_cons, e_nbs_nil, e_nbs_cons, e_nb_f, e_nb_l, e_nb_o, e_nbF_nil, e_nbF_cons, e_nbs_map, e_makeL, e_madeBR, e_methL, e_methLR_f, e_toWs_nil, e_toWs_cons, e_lstW, e_lstWR, e_mPk, e_pkR_i, e_pkR_s, e_pkR_b, e_setP, e_nin_al, e_in_al, e_in_ft, e_in_fl, e_nin_ft, e_nin_fl, e_eqS, e_neS, e_eqB, e_neB, e_sl_s, e_handed_a, e_handedA, e_f1R_len, e_kR2, e_seqK_l, e_seqK_t, e_items_al, e_items_fl, e_items_ft, e_items_ol, e_tuple_v, e_tuple_a, e_tupA, e_tuple_l, e_tuple_t, e_list_l, e_list_t, e_list_o, e_aug, e_augA, e_addI, e_subI, e_chain, e_chR, e_chK, e_fldR_f, List.getElem?_cons_zero, List.getElem?_cons_succ, List.set_cons_zero, List.set_cons_succ, List.length_cons, List.length_nil, Option.map_some, Option.map_none, Option.bind_some, Option.bind_none, if_true, if_false, ite_true, ite_false, reduceIte, decide_true, decide_false, Bool.not_true, Bool.not_false, Bool.and_true, Bool.true_and, Bool.and_false, Bool.false_and, Bool.or_true, Bool.true_or, Bool.or_false, Bool.false_or, ne_eq, not_false_eq_true, not_true_eq_false, Option.some.injEq, reduceCtorEq, and_self, and_true, true_and, Bool.false_eq_true, List.nil_append, List.cons_append, List.append_nil, decide_eq_true_eq, st_lk, e4]
theorem some_is {s : DS} (h : s.Ok) {ts : List Str} (h0 : 0 < ts.length) (hts : ts.length < 1000) (most : Nat) (hm : most < 900) :
    ∃ s' xs, fn_l_some K A [stW s, .frz (.lst (sD ts)), iW (most : Nat)] = .ok (oL (sD xs)) [stW s'] ∧ s'.Ok ∧ xs.Nodup ∧ (∀ x ∈ xs, x ∈ ts) ∧ xs.length ≤ most := by
  obtain ⟨s1, r1, e1, o1, a1, b1⟩ := draw_is (K := K) (A := A) h (lim := (most : Int) + 1) (by omega) (bit31 (by omega) (by omega))
  obtain ⟨n, rfl⟩ : ∃ k : Nat, r1 = (k : Nat) := ⟨r1.toNat, by omega⟩
  have hlen : lenD (.lst (sD ts)) = some (.int ts.length) := by show some (D.int ((sD ts).length : Nat)) = _; rw [sD_len]
  obtain ⟨L2, e2, s2, xs, k4, k5, rfl, o2, nd, hx, hl⟩ := for_all (g := gNm fl_l_some 4) (body := m_l_some_b1 K A) (ws := intsW 0 n) (L := [some (stW s1), some (.frz (.lst (sD ts))), some (iW (most : Nat)), some (oL (sD [])), none, none])
    (fun i L => ∃ s xs k4 k5, L = [some (stW s), some (.frz (.lst (sD ts))), some (iW (most : Nat)), some (oL (sD xs)), k4, k5] ∧ s.Ok ∧ xs.Nodup ∧ (∀ x ∈ xs, x ∈ ts) ∧ xs.length ≤ i)
    (fun i w L hw ⟨s, xs, k4, k5, e, o, nd, hx, hl⟩ => by
      obtain ⟨hi, rfl⟩ := intsW_get hw
      subst e
      obtain ⟨s', r, e2, o2, r0, r1⟩ := draw_is (K := K) (A := A) o (lim := (ts.length : Int)) (by omega) (bit31 (by omega) (by omega))
      obtain ⟨rn, rfl⟩ : ∃ k : Nat, r = (k : Nat) := ⟨r.toNat, by omega⟩
      have hrn : rn < ts.length := by omega
      have ix := fun L : Lc => ix_fL (L := L) (sD_get hrn)
      have nn := fun (a0 a1 a2 a4 a5 : Option W) => ninR_l (L := [a0, a1, a2, some (oL (sD xs)), a4, a5]) (t := ts[rn]) (i := 3) (ts := xs) rfl
      have hmem : ts[rn] ∈ ts := List.getElem_mem _
      generalize ts[rn] = t at *
      by_cases hin : t ∈ xs
      · refine ⟨_, ?_, s', xs, some (iW (0 + (i : Nat))), some (.frz (.str t)), rfl, o2, nd, hx, by omega⟩
        rw [decide_eq_true hin] at nn
        rw [turn_is]
        unfold oL at *
        have lk := fun L : Lc => e_lk_l (L := L) 3 ((sD xs).map .frz)
        generalize (sD xs).map W.frz = oo at *
        generalize sD ts = tt at *
        simp (decide := true) only [e_bind, e_then, e_badb, e_var, e_lk_f, e_lk_b, e_lk_l, e_lk_t, e_lk_o, e_C, e_op, e_seq, e_seq_n, e_seq_r, e_seq_b, e_seq_c, e_nil, e_brk, e_exp, e_set, e_asgn, e_ret, e_handed, e_if, e_ifE, e_mBl, e_blR, e_not, e_and, e_or, e_andV, e_orV, e_notV, e_tru, e_truR, e_add, e_sub, e_mul, e_div, e_mod, e_pow, e_lt, e_gt, e_le, e_ge, e_eq, e_ne, e_neg, e_nilA, e_cons, e_callB, e_f1, e_len_str, e_len_lst, e_len_lok, e_len_tup, e_int, e_abs, e_par, e_no, e_while, e_for, e_gNm, e_range1, e_range2, e_rg1, e_rg2, e_slotW, e_get_v, e_get_a, e_fr_f, e_toFv, e_toF_v, e_toF_a, e_toFb, e_toFa, e_fr_l, e_fr_o, e_frs_nil, e_frs_frz, e_frs_cons, e_frF_nil, e_frF_cons, e_prep_nil, e_prep_f, e_prep_t, e_prepT, e_prep_v, e_called, e_calledR, e_bkR, e_back_nil, e_back_cons, e_call, e_callR, e_madeF, e_make, e_fld, e_fldSet, e_fldSetR, e_meth, e_f1l, e_f1a, e_rd_f, e_mkK, e_yes, e_toW, e_toFs_nil, e_toFs_cons, e_tup, e_lst, e_tupR, e_lstR, e_scR, e_f2, e_kR0, e_kR1, e_bits, e_bitsR, e_bm, e_bm_l, e_bm_s, e_app, e_appR, e_asg, e_seqG, e_gsc, e_gsn, e_gTp, e_exc_try, e_turnR_n, e_turnR_c, e_turnR_b, e_turnR_r, e_setIx, e_setA, e_setB, e_setC, e_iter, e_sl, e_pSome, e_pR, e_pNone, e_listR1, e_lr1, e_prepB_nil, e_prepB_cons, e_arg_ff, e_arg_la, e_lentA, e_arg_lf, e_arg_lb, e_arg_ta, e_ownA, e_arg_tv, e_callL, e_callRB, e_calledB, e_calledBR, e_calledBX, e_backB, e_lkBack_nil, e_lkBack_cons, e_nbs_nil, e_nbs_cons, e_nb_f, e_nb_l, e_nb_o, e_nbF_nil, e_nbF_cons, e_nbs_map, e_makeL, e_madeBR, e_methL, e_methLR_f, e_toWs_nil, e_toWs_cons, e_lstW, e_lstWR, e_mPk, e_pkR_i, e_pkR_s, e_pkR_b, e_setP, e_nin_al, e_in_al, e_in_ft, e_in_fl, e_nin_ft, e_nin_fl, e_eqS, e_neS, e_eqB, e_neB, e_sl_s, e_handed_a, e_handedA, e_f1R_len, e_kR2, e_seqK_l, e_seqK_t, e_items_al, e_items_fl, e_items_ft, e_items_ol, e_tuple_v, e_tuple_a, e_tupA, e_tuple_l, e_tuple_t, e_list_l, e_list_t, e_list_o, e_aug, e_augA, e_addI, e_subI, e_chain, e_chR, e_chK, e_fldR_f, List.getElem?_cons_zero, List.getElem?_cons_succ, List.set_cons_zero, List.set_cons_succ, List.length_cons, List.length_nil, Option.map_some, Option.map_none, Option.bind_some, Option.bind_none, if_true, if_false, ite_true, ite_false, reduceIte, decide_true, decide_false, Bool.not_true, Bool.not_false, Bool.and_true, Bool.true_and, Bool.and_false, Bool.false_and, Bool.or_true, Bool.true_or, Bool.or_false, Bool.false_or, ne_eq, not_false_eq_true, not_true_eq_false, Option.some.injEq, reduceCtorEq, and_self, and_true, true_and, Bool.false_eq_true, List.nil_append, List.cons_append, List.append_nil, decide_eq_true_eq, m_l_some_b1, st_lk, hlen, e2, ix, lk, nn]
      · refine ⟨_, ?_, s', xs ++ [t], some (iW (0 + (i : Nat))), some (.frz (.str t)), rfl, o2, ?_, ?_, by simp; omega⟩
        · rw [decide_eq_false hin] at nn
          have hsz : ((sD xs).map W.frz).length < sizeLine := by rw [List.length_map, List.length_map]; exact small1000 (by omega)
          rw [turn_is, show sD (xs ++ [t]) = sD xs ++ [.str t] by simp [sD], oL_snoc]
          unfold oL at *
          have lk := fun L : Lc => e_lk_l (L := L) 3 ((sD xs).map .frz)
          generalize (sD xs).map W.frz = oo at *
          generalize sD ts = tt at *
          simp (decide := true) only [e_bind, e_then, e_badb, e_var, e_lk_f, e_lk_b, e_lk_l, e_lk_t, e_lk_o, e_C, e_op, e_seq, e_seq_n, e_seq_r, e_seq_b, e_seq_c, e_nil, e_brk, e_exp, e_set, e_asgn, e_ret, e_handed, e_if, e_ifE, e_mBl, e_blR, e_not, e_and, e_or, e_andV, e_orV, e_notV, e_tru, e_truR, e_add, e_sub, e_mul, e_div, e_mod, e_pow, e_lt, e_gt, e_le, e_ge, e_eq, e_ne, e_neg, e_nilA, e_cons, e_callB, e_f1, e_len_str, e_len_lst, e_len_lok, e_len_tup, e_int, e_abs, e_par, e_no, e_while, e_for, e_gNm, e_range1, e_range2, e_rg1, e_rg2, e_slotW, e_get_v, e_get_a, e_fr_f, e_toFv, e_toF_v, e_toF_a, e_toFb, e_toFa, e_fr_l, e_fr_o, e_frs_nil, e_frs_frz, e_frs_cons, e_frF_nil, e_frF_cons, e_prep_nil, e_prep_f, e_prep_t, e_prepT, e_prep_v, e_called, e_calledR, e_bkR, e_back_nil, e_back_cons, e_call, e_callR, e_madeF, e_make, e_fld, e_fldSet, e_fldSetR, e_meth, e_f1l, e_f1a, e_rd_f, e_mkK, e_yes, e_toW, e_toFs_nil, e_toFs_cons, e_tup, e_lst, e_tupR, e_lstR, e_scR, e_f2, e_kR0, e_kR1, e_bits, e_bitsR, e_bm, e_bm_l, e_bm_s, e_app, e_appR, e_asg, e_seqG, e_gsc, e_gsn, e_gTp, e_exc_try, e_turnR_n, e_turnR_c, e_turnR_b, e_turnR_r, e_setIx, e_setA, e_setB, e_setC, e_iter, e_sl, e_pSome, e_pR, e_pNone, e_listR1, e_lr1, e_prepB_nil, e_prepB_cons, e_arg_ff, e_arg_la, e_lentA, e_arg_lf, e_arg_lb, e_arg_ta, e_ownA, e_arg_tv, e_callL, e_callRB, e_calledB, e_calledBR, e_calledBX, e_backB, e_lkBack_nil, e_lkBack_cons, e_nbs_nil, e_nbs_cons, e_nb_f, e_nb_l, e_nb_o, e_nbF_nil, e_nbF_cons, e_nbs_map, e_makeL, e_madeBR, e_methL, e_methLR_f, e_toWs_nil, e_toWs_cons, e_lstW, e_lstWR, e_mPk, e_pkR_i, e_pkR_s, e_pkR_b, e_setP, e_nin_al, e_in_al, e_in_ft, e_in_fl, e_nin_ft, e_nin_fl, e_eqS, e_neS, e_eqB, e_neB, e_sl_s, e_handed_a, e_handedA, e_f1R_len, e_kR2, e_seqK_l, e_seqK_t, e_items_al, e_items_fl, e_items_ft, e_items_ol, e_tuple_v, e_tuple_a, e_tupA, e_tuple_l, e_tuple_t, e_list_l, e_list_t, e_list_o, e_aug, e_augA, e_addI, e_subI, e_chain, e_chR, e_chK, e_fldR_f, List.getElem?_cons_zero, List.getElem?_cons_succ, List.set_cons_zero, List.set_cons_succ, List.length_cons, List.length_nil, Option.map_some, Option.map_none, Option.bind_some, Option.bind_none, if_true, if_false, ite_true, ite_false, reduceIte, decide_true, decide_false, Bool.not_true, Bool.not_false, Bool.and_true, Bool.true_and, Bool.and_false, Bool.false_and, Bool.or_true, Bool.true_or, Bool.or_false, Bool.false_or, ne_eq, not_false_eq_true, not_true_eq_false, Option.some.injEq, reduceCtorEq, and_self, and_true, true_and, Bool.false_eq_true, List.nil_append, List.cons_append, List.append_nil, decide_eq_true_eq, m_l_some_b1, st_lk, hlen, e2, ix, lk, nn, hsz]
        · rw [List.nodup_append]
          exact ⟨nd, by simp, fun p hp r hr => by rw [List.mem_singleton] at hr; subst hr; intro e; subst e; exact hin hp⟩
        · intro x hx2
          rcases List.mem_append.mp hx2 with h | h
          · exact hx x h
          · rw [List.mem_singleton.mp h]; exact hmem)
    ⟨s1, [], none, none, rfl, o1, List.nodup_nil, (fun x hx => by cases hx), Nat.le_refl 0⟩
  rw [intsW_len] at hl
  refine ⟨s2, xs, ?_, o2, nd, hx, by omega⟩
  have rk : SzR ((n : Nat) : Int) := szR (by omega) (by omega)
  have nk : (((n : Nat) : Int)).toNat = n := by omega
  have lk := fun L : Lc => e_lk_l (L := L) 3 ((sD xs).map .frz)
  refine run_ret (m := m_l_some K A) (L0 := [some (stW s), some (.frz (.lst (sD ts))), some (iW (most : Nat)), none, none, none]) (L := [some (stW s2), some (.frz (.lst (sD ts))), some (iW (most : Nat)), none, k4, k5]) ?_
  have hz0 : oL (sD []) = .olst [] := rfl
  rw [hz0] at e2
  unfold oL at *
  generalize (sD xs).map W.frz = ow at *
  generalize sD ts = tt at *
  generalize ((n : Nat) : Int) = nn at *
  generalize ((most : Nat) : Int) = mo at *
  simp (decide := true) only [e_bind, e_then, e_badb, e_var, e_lk_f, e_lk_b, e_lk_l, e_lk_t, e_lk_o, e_C, e_op, e_seq, e_seq_n, e_seq_r, e_seq_b, e_seq_c, e_nil, e_brk, e_exp, e_set, e_asgn, e_ret, e_handed, e_if, e_ifE, e_mBl, e_blR, e_not, e_and, e_or, e_andV, e_orV, e_notV, e_tru, e_truR, e_add, e_sub, e_mul, e_div, e_mod, e_pow, e_lt, e_gt, e_le, e_ge, e_eq, e_ne, e_neg, e_nilA, e_cons, e_callB, e_f1, e_len_str, e_len_lst, e_len_lok, e_len_tup, e_int, e_abs, e_par, e_no, e_while, e_for, e_gNm, e_range1, e_range2, e_rg1, e_rg2, e_slotW, e_get_v, e_get_a, e_fr_f, e_toFv, e_toF_v, e_toF_a, e_toFb, e_toFa, e_fr_l, e_fr_o, e_frs_nil, e_frs_frz, e_frs_cons, e_frF_nil, e_frF_cons, e_prep_nil, e_prep_f, e_prep_t, e_prepT, e_prep_v, e_called, e_calledR, e_bkR, e_back_nil, e_back_cons, e_call, e_callR, e_madeF, e_make, e_fld, e_fldSet, e_fldSetR, e_meth, e_f1l, e_f1a, e_rd_f, e_mkK, e_yes, e_toW, e_toFs_nil, e_toFs_cons, e_tup, e_lst, e_tupR, e_lstR, e_scR, e_f2, e_kR0, e_kR1, e_bits, e_bitsR, e_bm, e_bm_l, e_bm_s, e_app, e_appR, e_asg, e_seqG, e_gsc, e_gsn, e_gTp, e_exc_try, e_turnR_n, e_turnR_c, e_turnR_b, e_turnR_r, e_setIx, e_setA, e_setB, e_setC, e_iter, e_sl, e_pSome, e_pR, e_pNone, e_listR1, e_lr1, e_prepB_nil, e_prepB_cons, e_arg_ff, e_arg_la, e_lentA, e_arg_lf, e_arg_lb, e_arg_ta, e_ownA, e_arg_tv, e_callL, e_callRB, e_calledB, e_calledBR, e_calledBX, e_backB, e_lkBack_nil, e_lkBack_cons, e_nbs_nil, e_nbs_cons, e_nb_f, e_nb_l, e_nb_o, e_nbF_nil, e_nbF_cons, e_nbs_map, e_makeL, e_madeBR, e_methL, e_methLR_f, e_toWs_nil, e_toWs_cons, e_lstW, e_lstWR, e_mPk, e_pkR_i, e_pkR_s, e_pkR_b, e_setP, e_nin_al, e_in_al, e_in_ft, e_in_fl, e_nin_ft, e_nin_fl, e_eqS, e_neS, e_eqB, e_neB, e_sl_s, e_handed_a, e_handedA, e_f1R_len, e_kR2, e_seqK_l, e_seqK_t, e_items_al, e_items_fl, e_items_ft, e_items_ol, e_tuple_v, e_tuple_a, e_tupA, e_tuple_l, e_tuple_t, e_list_l, e_list_t, e_list_o, e_aug, e_augA, e_addI, e_subI, e_chain, e_chR, e_chK, e_fldR_f, List.getElem?_cons_zero, List.getElem?_cons_succ, List.set_cons_zero, List.set_cons_succ, List.length_cons, List.length_nil, Option.map_some, Option.map_none, Option.bind_some, Option.bind_none, if_true, if_false, ite_true, ite_false, reduceIte, decide_true, decide_false, Bool.not_true, Bool.not_false, Bool.and_true, Bool.true_and, Bool.and_false, Bool.false_and, Bool.or_true, Bool.true_or, Bool.or_false, Bool.false_or, ne_eq, not_false_eq_true, not_true_eq_false, Option.some.injEq, reduceCtorEq, and_self, and_true, true_and, Bool.false_eq_true, List.nil_append, List.cons_append, List.append_nil, decide_eq_true_eq, m_l_some, st_lk, e1, rk, nk, e2, lk, List.map_nil]
theorem entries_is {s : DS} (h : s.Ok) {ts : List Str} (h0 : 0 < ts.length) (hts : ts.length ≤ 24) :
    ∃ (s' : DS) (es : List En), fn_l_entries K A [stW s, .frz (.lst (sD ts))] = .ok (oL (es.map eD)) [stW s'] ∧ s'.Ok ∧ (∀ e ∈ es, EnOk ts e) ∧ 0 < es.length ∧ es.length ≤ 60 := by
  obtain ⟨s1, r1, e1, o1, a1, b1⟩ := draw_is (K := K) (A := A) h (lim := 6) (by decide) (bit31 (by decide) (by decide))
  obtain ⟨s2, r2, e2, o2, a2, b2⟩ := draw_is (K := K) (A := A) o1 (lim := 8) (by decide) (bit31 (by decide) (by decide))
  have key : ∃ s3 m, s3.Ok ∧ 0 < m ∧ m ≤ 60 ∧ ∀ x3 x4 x5 x6 x7, (sIf (mBl (mOp cEqS (mCall fl_l_draw (fn_l_draw K A) (mCons (mVar 0) (mCons (mC (.int 8)) mNil))) (mC (.int 0))))
  (sSet fl_l_entries 2 (mOp aAddU (mC (.int 1)) (mCall fl_l_draw (fn_l_draw K A) (mCons (mVar 0) (mCons (mC (.int 60)) mNil)))))
  sNil) [some (stW s1), some (.frz (.lst (sD ts))), some (iW (1 + r1)), x3, x4, x5, x6, x7] = .next [some (stW s3), some (.frz (.lst (sD ts))), some (iW ((m : Nat) : Int)), x3, x4, x5, x6, x7] := by
    generalize sD ts = tt at *
    by_cases c : r2 = 0
    · obtain ⟨s3, r3, e3, o3, a3, b3⟩ := draw_is (K := K) (A := A) o2 (lim := 60) (by decide) (bit31 (by decide) (by decide))
      refine ⟨s3, (1 + r3).toNat, o3, by omega, by omega, fun x3 x4 x5 x6 x7 => ?_⟩
      have : (((1 + r3).toNat : Nat) : Int) = 1 + r3 := by omega
      rw [this]
      simp (decide := true) only [e_bind, e_then, e_badb, e_var, e_lk_f, e_lk_b, e_lk_l, e_lk_t, e_lk_o, e_C, e_op, e_seq, e_seq_n, e_seq_r, e_seq_b, e_seq_c, e_nil, e_brk, e_exp, e_set, e_asgn, e_ret, e_handed, e_if, e_ifE, e_mBl, e_blR, e_not, e_and, e_or, e_andV, e_orV, e_notV, e_tru, e_truR, e_add, e_sub, e_mul, e_div, e_mod, e_pow, e_lt, e_gt, e_le, e_ge, e_eq, e_ne, e_neg, e_nilA, e_cons, e_callB, e_f1, e_len_str, e_len_lst, e_len_lok, e_len_tup, e_int, e_abs, e_par, e_no, e_while, e_for, e_gNm, e_range1, e_range2, e_rg1, e_rg2, e_slotW, e_get_v, e_get_a, e_fr_f, e_toFv, e_toF_v, e_toF_a, e_toFb, e_toFa, e_fr_l, e_fr_o, e_frs_nil, e_frs_frz, e_frs_cons, e_frF_nil, e_frF_cons, e_prep_nil, e_prep_f, e_prep_t, e_prepT, e_prep_v, e_called, e_calledR, e_bkR, e_back_nil, e_back_cons, e_call, e_callR, e_madeF, e_make, e_fld, e_fldSet, e_fldSetR, e_meth, e_f1l, e_f1a, e_rd_f, e_mkK, e_yes, e_toW, e_toFs_nil, e_toFs_cons, e_tup, e_lst, e_tupR, e_lstR, e_scR, e_f2, e_kR0, e_kR1, e_bits, e_bitsR, e_bm, e_bm_l, e_bm_s, e_app, e_appR, e_asg, e_seqG, e_gsc, e_gsn, e_gTp, e_exc_try, e_turnR_n, e_turnR_c, e_turnR_b, e_turnR_r, e_setIx, e_setA, e_setB, e_setC, e_iter, e_sl, e_pSome, e_pR, e_pNone, e_listR1, e_lr1, e_prepB_nil, e_prepB_cons, e_arg_ff, e_arg_la, e_lentA, e_arg_lf, e_arg_lb, e_arg_ta, e_ownA, e_arg_tv, e_callL, e_callRB, e_calledB, e_calledBR, e_calledBX, e_backB, e_lkBack_nil, e_lkBack_cons, e_nbs_nil, e_nbs_cons, e_nb_f, e_nb_l, e_nb_o, e_nbF_nil, e_nbF_cons, e_nbs_map, e_makeL, e_madeBR, e_methL, e_methLR_f, e_toWs_nil, e_toWs_cons, e_lstW, e_lstWR, e_mPk, e_pkR_i, e_pkR_s, e_pkR_b, e_setP, e_nin_al, e_in_al, e_in_ft, e_in_fl, e_nin_ft, e_nin_fl, e_eqS, e_neS, e_eqB, e_neB, e_sl_s, e_handed_a, e_handedA, e_f1R_len, e_kR2, e_seqK_l, e_seqK_t, e_items_al, e_items_fl, e_items_ft, e_items_ol, e_tuple_v, e_tuple_a, e_tupA, e_tuple_l, e_tuple_t, e_list_l, e_list_t, e_list_o, e_aug, e_augA, e_addI, e_subI, e_chain, e_chR, e_chK, e_fldR_f, List.getElem?_cons_zero, List.getElem?_cons_succ, List.set_cons_zero, List.set_cons_succ, List.length_cons, List.length_nil, Option.map_some, Option.map_none, Option.bind_some, Option.bind_none, if_true, if_false, ite_true, ite_false, reduceIte, decide_true, decide_false, Bool.not_true, Bool.not_false, Bool.and_true, Bool.true_and, Bool.and_false, Bool.false_and, Bool.or_true, Bool.true_or, Bool.or_false, Bool.false_or, ne_eq, not_false_eq_true, not_true_eq_false, Option.some.injEq, reduceCtorEq, and_self, and_true, true_and, Bool.false_eq_true, List.nil_append, List.cons_append, List.append_nil, decide_eq_true_eq, st_lk, e2, c, e3]
    · refine ⟨s2, (1 + r1).toNat, o2, by omega, by omega, fun x3 x4 x5 x6 x7 => ?_⟩
      have : (((1 + r1).toNat : Nat) : Int) = 1 + r1 := by omega
      rw [this]
      simp (decide := true) only [e_bind, e_then, e_badb, e_var, e_lk_f, e_lk_b, e_lk_l, e_lk_t, e_lk_o, e_C, e_op, e_seq, e_seq_n, e_seq_r, e_seq_b, e_seq_c, e_nil, e_brk, e_exp, e_set, e_asgn, e_ret, e_handed, e_if, e_ifE, e_mBl, e_blR, e_not, e_and, e_or, e_andV, e_orV, e_notV, e_tru, e_truR, e_add, e_sub, e_mul, e_div, e_mod, e_pow, e_lt, e_gt, e_le, e_ge, e_eq, e_ne, e_neg, e_nilA, e_cons, e_callB, e_f1, e_len_str, e_len_lst, e_len_lok, e_len_tup, e_int, e_abs, e_par, e_no, e_while, e_for, e_gNm, e_range1, e_range2, e_rg1, e_rg2, e_slotW, e_get_v, e_get_a, e_fr_f, e_toFv, e_toF_v, e_toF_a, e_toFb, e_toFa, e_fr_l, e_fr_o, e_frs_nil, e_frs_frz, e_frs_cons, e_frF_nil, e_frF_cons, e_prep_nil, e_prep_f, e_prep_t, e_prepT, e_prep_v, e_called, e_calledR, e_bkR, e_back_nil, e_back_cons, e_call, e_callR, e_madeF, e_make, e_fld, e_fldSet, e_fldSetR, e_meth, e_f1l, e_f1a, e_rd_f, e_mkK, e_yes, e_toW, e_toFs_nil, e_toFs_cons, e_tup, e_lst, e_tupR, e_lstR, e_scR, e_f2, e_kR0, e_kR1, e_bits, e_bitsR, e_bm, e_bm_l, e_bm_s, e_app, e_appR, e_asg, e_seqG, e_gsc, e_gsn, e_gTp, e_exc_try, e_turnR_n, e_turnR_c, e_turnR_b, e_turnR_r, e_setIx, e_setA, e_setB, e_setC, e_iter, e_sl, e_pSome, e_pR, e_pNone, e_listR1, e_lr1, e_prepB_nil, e_prepB_cons, e_arg_ff, e_arg_la, e_lentA, e_arg_lf, e_arg_lb, e_arg_ta, e_ownA, e_arg_tv, e_callL, e_callRB, e_calledB, e_calledBR, e_calledBX, e_backB, e_lkBack_nil, e_lkBack_cons, e_nbs_nil, e_nbs_cons, e_nb_f, e_nb_l, e_nb_o, e_nbF_nil, e_nbF_cons, e_nbs_map, e_makeL, e_madeBR, e_methL, e_methLR_f, e_toWs_nil, e_toWs_cons, e_lstW, e_lstWR, e_mPk, e_pkR_i, e_pkR_s, e_pkR_b, e_setP, e_nin_al, e_in_al, e_in_ft, e_in_fl, e_nin_ft, e_nin_fl, e_eqS, e_neS, e_eqB, e_neB, e_sl_s, e_handed_a, e_handedA, e_f1R_len, e_kR2, e_seqK_l, e_seqK_t, e_items_al, e_items_fl, e_items_ft, e_items_ol, e_tuple_v, e_tuple_a, e_tupA, e_tuple_l, e_tuple_t, e_list_l, e_list_t, e_list_o, e_aug, e_augA, e_addI, e_subI, e_chain, e_chR, e_chK, e_fldR_f, List.getElem?_cons_zero, List.getElem?_cons_succ, List.set_cons_zero, List.set_cons_succ, List.length_cons, List.length_nil, Option.map_some, Option.map_none, Option.bind_some, Option.bind_none, if_true, if_false, ite_true, ite_false, reduceIte, decide_true, decide_false, Bool.not_true, Bool.not_false, Bool.and_true, Bool.true_and, Bool.and_false, Bool.false_and, Bool.or_true, Bool.true_or, Bool.or_false, Bool.false_or, ne_eq, not_false_eq_true, not_true_eq_false, Option.some.injEq, reduceCtorEq, and_self, and_true, true_and, Bool.false_eq_true, List.nil_append, List.cons_append, List.append_nil, decide_eq_true_eq, st_lk, e2, c]
  obtain ⟨s3, m, o3, m0, m1, e3⟩ := key
  obtain ⟨s4, kind, e4, o4, a4, b4⟩ := draw_is (K := K) (A := A) o3 (lim := 8) (by decide) (bit31 (by decide) (by decide))
  obtain ⟨s5, r5, e5, o5, a5, b5⟩ := draw_is (K := K) (A := A) o4 (lim := 3) (by decide) (bit31 (by decide) (by decide))
  have hlen : lenD (.lst (sD ts)) = some (.int ts.length) := by show some (D.int ((sD ts).length : Nat)) = _; rw [sD_len]
  obtain ⟨most, hmost, hix⟩ : ∃ most : Nat, most ≤ 24 ∧ ∀ L : Lc, kR ixW (some (.olst [.frz (.int 2), .frz (.int 4), .frz (.int ts.length)])) (some (.frz (.int r5))) L = .ok (.val (.frz (.int (most : Nat)))) L := by
    have c3 : r5 = 0 ∨ r5 = 1 ∨ r5 = 2 := by omega
    rcases c3 with rfl | rfl | rfl
    · exact ⟨2, by decide, fun L => ix_oL (ds := [.int 2, .int 4, .int ts.length]) (i := 0) rfl⟩
    · exact ⟨4, by decide, fun L => ix_oL (ds := [.int 2, .int 4, .int ts.length]) (i := 1) rfl⟩
    · exact ⟨ts.length, hts, fun L => ix_oL (ds := [.int 2, .int 4, .int ts.length]) (i := 2) rfl⟩
  obtain ⟨L6, e6, s6, es, k6, k7, rfl, o6, hes, hl⟩ := for_all (g := gNm fl_l_entries 6) (body := m_l_entries_b1 K A) (ws := intsW 0 m) (L := [some (stW s5), some (.frz (.lst (sD ts))), some (iW (m : Nat)), some (iW kind), some (iW (most : Nat)), some (oL ([].map eD)), none, none])
    (fun i L => ∃ (s : DS) (es : List En) (k6 k7 : Option W), L = [some (stW s), some (.frz (.lst (sD ts))), some (iW (m : Nat)), some (iW kind), some (iW (most : Nat)), some (oL (es.map eD)), k6, k7] ∧ s.Ok ∧ (∀ e ∈ es, EnOk ts e) ∧ es.length = i)
    (fun i w L hw ⟨s, es, k6, k7, e, o, hes, hl⟩ => by
      obtain ⟨hi, rfl⟩ := intsW_get hw
      subst e
      obtain ⟨s', r, e2, o2, r0, r1⟩ := draw_is (K := K) (A := A) o (lim := (ts.length : Int)) (by omega) (bit31 (by omega) (by omega))
      obtain ⟨rn, rfl⟩ : ∃ k : Nat, r = (k : Nat) := ⟨r.toNat, by omega⟩
      have hrn : rn < ts.length := by omega
      have ix := fun L : Lc => ix_fL (L := L) (sD_get hrn)
      have hmem : ts[rn] ∈ ts := List.getElem_mem _
      generalize ts[rn] = t at *
      obtain ⟨s7, wt, e7, o7, w0, w1⟩ := weight_is (K := K) (A := A) o2 kind
      obtain ⟨s8, xs, e8, o8, nd, hx, hxl⟩ := some_is (K := K) (A := A) o7 h0 (by omega) most (by omega)
      refine ⟨_, ?_, s8, es ++ [⟨wt, t, xs⟩], some (iW (0 + (i : Nat))), some (.frz (.str t)), rfl, o8, fun e he => ?_, by simp [hl]⟩
      · have hsz : ((es.map eD).map W.frz).length < sizeLine := by rw [List.length_map, List.length_map]; exact small1000 (by omega)
        rw [turn_is, List.map_append, show [⟨wt, t, xs⟩].map eD = [.tup [.int wt, .str t, .lst (sD xs)]] from rfl, oL_snoc]
        have fr8 : (oL (sD xs)).fr = some (.lst (sD xs)) := by rw [e_fr_l, e_frs_frz]; rfl
        generalize oL (sD xs) = xo at *
        unfold oL at *
        have lk := fun L : Lc => e_lk_l (L := L) 5 ((es.map eD).map .frz)
        generalize (es.map eD).map W.frz = oo at *
        generalize sD ts = tt at *
        generalize D.lst (sD xs) = xd at *
        simp (decide := true) only [e_bind, e_then, e_badb, e_var, e_lk_f, e_lk_b, e_lk_l, e_lk_t, e_lk_o, e_C, e_op, e_seq, e_seq_n, e_seq_r, e_seq_b, e_seq_c, e_nil, e_brk, e_exp, e_set, e_asgn, e_ret, e_handed, e_if, e_ifE, e_mBl, e_blR, e_not, e_and, e_or, e_andV, e_orV, e_notV, e_tru, e_truR, e_add, e_sub, e_mul, e_div, e_mod, e_pow, e_lt, e_gt, e_le, e_ge, e_eq, e_ne, e_neg, e_nilA, e_cons, e_callB, e_f1, e_len_str, e_len_lst, e_len_lok, e_len_tup, e_int, e_abs, e_par, e_no, e_while, e_for, e_gNm, e_range1, e_range2, e_rg1, e_rg2, e_slotW, e_get_v, e_get_a, e_fr_f, e_toFv, e_toF_v, e_toF_a, e_toFb, e_toFa, e_fr_l, e_fr_o, e_frs_nil, e_frs_frz, e_frs_cons, e_frF_nil, e_frF_cons, e_prep_nil, e_prep_f, e_prep_t, e_prepT, e_prep_v, e_called, e_calledR, e_bkR, e_back_nil, e_back_cons, e_call, e_callR, e_madeF, e_make, e_fld, e_fldSet, e_fldSetR, e_meth, e_f1l, e_f1a, e_rd_f, e_mkK, e_yes, e_toW, e_toFs_nil, e_toFs_cons, e_tup, e_lst, e_tupR, e_lstR, e_scR, e_f2, e_kR0, e_kR1, e_bits, e_bitsR, e_bm, e_bm_l, e_bm_s, e_app, e_appR, e_asg, e_seqG, e_gsc, e_gsn, e_gTp, e_exc_try, e_turnR_n, e_turnR_c, e_turnR_b, e_turnR_r, e_setIx, e_setA, e_setB, e_setC, e_iter, e_sl, e_pSome, e_pR, e_pNone, e_listR1, e_lr1, e_prepB_nil, e_prepB_cons, e_arg_ff, e_arg_la, e_lentA, e_arg_lf, e_arg_lb, e_arg_ta, e_ownA, e_arg_tv, e_callL, e_callRB, e_calledB, e_calledBR, e_calledBX, e_backB, e_lkBack_nil, e_lkBack_cons, e_nbs_nil, e_nbs_cons, e_nb_f, e_nb_l, e_nb_o, e_nbF_nil, e_nbF_cons, e_nbs_map, e_makeL, e_madeBR, e_methL, e_methLR_f, e_toWs_nil, e_toWs_cons, e_lstW, e_lstWR, e_mPk, e_pkR_i, e_pkR_s, e_pkR_b, e_setP, e_nin_al, e_in_al, e_in_ft, e_in_fl, e_nin_ft, e_nin_fl, e_eqS, e_neS, e_eqB, e_neB, e_sl_s, e_handed_a, e_handedA, e_f1R_len, e_kR2, e_seqK_l, e_seqK_t, e_items_al, e_items_fl, e_items_ft, e_items_ol, e_tuple_v, e_tuple_a, e_tupA, e_tuple_l, e_tuple_t, e_list_l, e_list_t, e_list_o, e_aug, e_augA, e_addI, e_subI, e_chain, e_chR, e_chK, e_fldR_f, List.getElem?_cons_zero, List.getElem?_cons_succ, List.set_cons_zero, List.set_cons_succ, List.length_cons, List.length_nil, Option.map_some, Option.map_none, Option.bind_some, Option.bind_none, if_true, if_false, ite_true, ite_false, reduceIte, decide_true, decide_false, Bool.not_true, Bool.not_false, Bool.and_true, Bool.true_and, Bool.and_false, Bool.false_and, Bool.or_true, Bool.true_or, Bool.or_false, Bool.false_or, ne_eq, not_false_eq_true, not_true_eq_false, Option.some.injEq, reduceCtorEq, and_self, and_true, true_and, Bool.false_eq_true, List.nil_append, List.cons_append, List.append_nil, decide_eq_true_eq, m_l_entries_b1, st_lk, hlen, e2, ix, lk, e7, e8, fr8, hsz]
      · rcases List.mem_append.mp he with h | h
        · exact hes e h
        · rw [List.mem_singleton.mp h]; exact ⟨w0, w1, hmem, nd, hx, by show xs.length ≤ 24; omega⟩)
    ⟨s5, [], none, none, rfl, o5, (fun e he => by cases he), rfl⟩
  rw [intsW_len] at hl
  refine ⟨s6, es, ?_, o6, hes, by omega, by omega⟩
  have rk : SzR ((m : Nat) : Int) := szR (by omega) (by omega)
  have nk : (((m : Nat) : Int)).toNat = m := by omega
  have lk := fun L : Lc => e_lk_l (L := L) 5 ((es.map eD).map .frz)
  refine run_ret (m := m_l_entries K A) (L0 := [some (stW s), some (.frz (.lst (sD ts))), none, none, none, none, none, none]) (L := [some (stW s6), some (.frz (.lst (sD ts))), some (iW (m : Nat)), some (iW kind), some (iW (most : Nat)), none, k6, k7]) ?_
  have f1 : sSet fl_l_entries 2 (mOp aAddU (mC (.int 1)) (mCall fl_l_draw (fn_l_draw K A) (mCons (mVar 0) (mCons (mC (.int 6)) mNil)))) [some (stW s), some (.frz (.lst (sD ts))), none, none, none, none, none, none] = .next [some (stW s1), some (.frz (.lst (sD ts))), some (iW (1 + r1)), none, none, none, none, none] := by
    generalize sD ts = tt at *
    simp (decide := true) only [e_bind, e_then, e_badb, e_var, e_lk_f, e_lk_b, e_lk_l, e_lk_t, e_lk_o, e_C, e_op, e_seq, e_seq_n, e_seq_r, e_seq_b, e_seq_c, e_nil, e_brk, e_exp, e_set, e_asgn, e_ret, e_handed, e_if, e_ifE, e_mBl, e_blR, e_not, e_and, e_or, e_andV, e_orV, e_notV, e_tru, e_truR, e_add, e_sub, e_mul, e_div, e_mod, e_pow, e_lt, e_gt, e_le, e_ge, e_eq, e_ne, e_neg, e_nilA, e_cons, e_callB, e_f1, e_len_str, e_len_lst, e_len_lok, e_len_tup, e_int, e_abs, e_par, e_no, e_while, e_for, e_gNm, e_range1, e_range2, e_rg1, e_rg2, e_slotW, e_get_v, e_get_a, e_fr_f, e_toFv, e_toF_v, e_toF_a, e_toFb, e_toFa, e_fr_l, e_fr_o, e_frs_nil, e_frs_frz, e_frs_cons, e_frF_nil, e_frF_cons, e_prep_nil, e_prep_f, e_prep_t, e_prepT, e_prep_v, e_called, e_calledR, e_bkR, e_back_nil, e_back_cons, e_call, e_callR, e_madeF, e_make, e_fld, e_fldSet, e_fldSetR, e_meth, e_f1l, e_f1a, e_rd_f, e_mkK, e_yes, e_toW, e_toFs_nil, e_toFs_cons, e_tup, e_lst, e_tupR, e_lstR, e_scR, e_f2, e_kR0, e_kR1, e_bits, e_bitsR, e_bm, e_bm_l, e_bm_s, e_app, e_appR, e_asg, e_seqG, e_gsc, e_gsn, e_gTp, e_exc_try, e_turnR_n, e_turnR_c, e_turnR_b, e_turnR_r, e_setIx, e_setA, e_setB, e_setC, e_iter, e_sl, e_pSome, e_pR, e_pNone, e_listR1, e_lr1, e_prepB_nil, e_prepB_cons, e_arg_ff, e_arg_la, e_lentA, e_arg_lf, e_arg_lb, e_arg_ta, e_ownA, e_arg_tv, e_callL, e_callRB, e_calledB, e_calledBR, e_calledBX, e_backB, e_lkBack_nil, e_lkBack_cons, e_nbs_nil, e_nbs_cons, e_nb_f, e_nb_l, e_nb_o, e_nbF_nil, e_nbF_cons, e_nbs_map, e_makeL, e_madeBR, e_methL, e_methLR_f, e_toWs_nil, e_toWs_cons, e_lstW, e_lstWR, e_mPk, e_pkR_i, e_pkR_s, e_pkR_b, e_setP, e_nin_al, e_in_al, e_in_ft, e_in_fl, e_nin_ft, e_nin_fl, e_eqS, e_neS, e_eqB, e_neB, e_sl_s, e_handed_a, e_handedA, e_f1R_len, e_kR2, e_seqK_l, e_seqK_t, e_items_al, e_items_fl, e_items_ft, e_items_ol, e_tuple_v, e_tuple_a, e_tupA, e_tuple_l, e_tuple_t, e_list_l, e_list_t, e_list_o, e_aug, e_augA, e_addI, e_subI, e_chain, e_chR, e_chK, e_fldR_f, List.getElem?_cons_zero, List.getElem?_cons_succ, List.set_cons_zero, List.set_cons_succ, List.length_cons, List.length_nil, Option.map_some, Option.map_none, Option.bind_some, Option.bind_none, if_true, if_false, ite_true, ite_false, reduceIte, decide_true, decide_false, Bool.not_true, Bool.not_false, Bool.and_true, Bool.true_and, Bool.and_false, Bool.false_and, Bool.or_true, Bool.true_or, Bool.or_false, Bool.false_or, ne_eq, not_false_eq_true, not_true_eq_false, Option.some.injEq, reduceCtorEq, and_self, and_true, true_and, Bool.false_eq_true, List.nil_append, List.cons_append, List.append_nil, decide_eq_true_eq, st_lk, e1]
  rw [m_l_entries, e_seq, f1, e_seq_n, e_seq, e3, e_seq_n]
  have hz0 : oL ([].map eD) = .olst [] := rfl
  rw [hz0] at e6
  unfold oL at *
  generalize (es.map eD).map W.frz = ow at *
  generalize sD ts = tt at *
  generalize ((ts.length : Nat) : Int) = tl at *
  generalize ((m : Nat) : Int) = mm at *
  generalize ((most : Nat) : Int) = mo at *
  simp (decide := true) only [e_bind, e_then, e_badb, e_var, e_lk_f, e_lk_b, e_lk_l, e_lk_t, e_lk_o, e_C, e_op, e_seq, e_seq_n, e_seq_r, e_seq_b, e_seq_c, e_nil, e_brk, e_exp, e_set, e_asgn, e_ret, e_handed, e_if, e_ifE, e_mBl, e_blR, e_not, e_and, e_or, e_andV, e_orV, e_notV, e_tru, e_truR, e_add, e_sub, e_mul, e_div, e_mod, e_pow, e_lt, e_gt, e_le, e_ge, e_eq, e_ne, e_neg, e_nilA, e_cons, e_callB, e_f1, e_len_str, e_len_lst, e_len_lok, e_len_tup, e_int, e_abs, e_par, e_no, e_while, e_for, e_gNm, e_range1, e_range2, e_rg1, e_rg2, e_slotW, e_get_v, e_get_a, e_fr_f, e_toFv, e_toF_v, e_toF_a, e_toFb, e_toFa, e_fr_l, e_fr_o, e_frs_nil, e_frs_frz, e_frs_cons, e_frF_nil, e_frF_cons, e_prep_nil, e_prep_f, e_prep_t, e_prepT, e_prep_v, e_called, e_calledR, e_bkR, e_back_nil, e_back_cons, e_call, e_callR, e_madeF, e_make, e_fld, e_fldSet, e_fldSetR, e_meth, e_f1l, e_f1a, e_rd_f, e_mkK, e_yes, e_toW, e_toFs_nil, e_toFs_cons, e_tup, e_lst, e_tupR, e_lstR, e_scR, e_f2, e_kR0, e_kR1, e_bits, e_bitsR, e_bm, e_bm_l, e_bm_s, e_app, e_appR, e_asg, e_seqG, e_gsc, e_gsn, e_gTp, e_exc_try, e_turnR_n, e_turnR_c, e_turnR_b, e_turnR_r, e_setIx, e_setA, e_setB, e_setC, e_iter, e_sl, e_pSome, e_pR, e_pNone, e_listR1, e_lr1, e_prepB_nil, e_prepB_cons, e_arg_ff, e_arg_la, e_lentA, e_arg_lf, e_arg_lb, e_arg_ta, e_ownA, e_arg_tv, e_callL, e_callRB, e_calledB, e_calledBR, e_calledBX, e_backB, e_lkBack_nil, e_lkBack_cons, e_nbs_nil, e_nbs_cons, e_nb_f, e_nb_l, e_nb_o, e_nbF_nil, e_nbF_cons, e_nbs_map, e_makeL, e_madeBR, e_methL, e_methLR_f, e_toWs_nil, e_toWs_cons, e_lstW, e_lstWR, e_mPk, e_pkR_i, e_pkR_s, e_pkR_b, e_setP, e_nin_al, e_in_al, e_in_ft, e_in_fl, e_nin_ft, e_nin_fl, e_eqS, e_neS, e_eqB, e_neB, e_sl_s, e_handed_a, e_handedA, e_f1R_len, e_kR2, e_seqK_l, e_seqK_t, e_items_al, e_items_fl, e_items_ft, e_items_ol, e_tuple_v, e_tuple_a, e_tupA, e_tuple_l, e_tuple_t, e_list_l, e_list_t, e_list_o, e_aug, e_augA, e_addI, e_subI, e_chain, e_chR, e_chK, e_fldR_f, List.getElem?_cons_zero, List.getElem?_cons_succ, List.set_cons_zero, List.set_cons_succ, List.length_cons, List.length_nil, Option.map_some, Option.map_none, Option.bind_some, Option.bind_none, if_true, if_false, ite_true, ite_false, reduceIte, decide_true, decide_false, Bool.not_true, Bool.not_false, Bool.and_true, Bool.true_and, Bool.and_false, Bool.false_and, Bool.or_true, Bool.true_or, Bool.or_false, Bool.false_or, ne_eq, not_false_eq_true, not_true_eq_false, Option.some.injEq, reduceCtorEq, and_self, and_true, true_and, Bool.false_eq_true, List.nil_append, List.cons_append, List.append_nil, decide_eq_true_eq, st_lk, e4, hlen, e5, hix, rk, nk, e6, lk, List.map_cons, List.map_nil]
end
end L

set_option exponentiation.threshold 20000
namespace L
open PySem PySem.Spec PyProof.Rows L2 BV
/-- what a marking keeps of a key -/
abbrev tD (e : En) : D := .tup [.int e.w, .str e.t, .tup (sD (sortS e.a))]
def total (es : List En) : Int := (es.map (·.w)).sum
def mkD (C : Addr) (es : List En) : D := .obj C [("entries", .tup (es.map tD)), ("whole", .int (total es))]
def mkW (C : Addr) (es : List En) : W := .oobj C [("entries", .frz (.tup (es.map tD))), ("whole", .frz (.int (total es)))]
/-- a key as it is handed in -/
structure Tri (e : En) (w : W) : Prop where
  no : w.no = true
  ex : ∃ c, w.seq = some [.frz (.int e.w), .frz (.str e.t), c] ∧ (∀ i (L : Lc), look i (some (some c)) L = .ok (.val c) L) ∧ ∀ L : Lc, bSorted [.val c] L = .ok (.val (oL (sD (sortS e.a)))) L
theorem tri_f (e : En) (h : e.a.length < 64) : Tri e (.frz (eD e)) := ⟨rfl, .frz (.lst (sD e.a)), rfl, fun _ _ => rfl, fun L => sorted_f e.a h⟩
theorem tri_b (e : En) (h : e.a.length < 64) : Tri e (.brw (.lst [.int e.w, .str e.t, .lst (sD e.a)])) := ⟨rfl, .brw (.lst (sD e.a)), rfl, fun _ _ => rfl, fun L => sorted_b e.a h⟩
def Tris : List En → List W → Prop
  | [], [] => True
  | e :: es, w :: ws => Tri e w ∧ Tris es ws
  | _, _ => False
theorem Tris.len : ∀ {es : List En} {ws : List W}, Tris es ws → ws.length = es.length
  | [], [], _ => rfl
  | _ :: _, _ :: _, ⟨_, h⟩ => by rw [List.length_cons, List.length_cons, Tris.len h]
  | [], _ :: _, h => h.elim
  | _ :: _, [], h => h.elim
theorem tris_f : ∀ es : List En, (∀ e ∈ es, e.a.length < 64) → Tris es ((es.map eD).map .frz)
  | [], _ => trivial
  | e :: es, h => ⟨tri_f e (h e List.mem_cons_self), tris_f es fun x hx => h x (List.mem_cons_of_mem _ hx)⟩
theorem total_snoc (es : List En) (e : En) : total (es ++ [e]) = total es + e.w := by unfold total; rw [List.map_append, List.sum_append]; simp
section
variable {K : PySem.W.Frag} {A : Ad}
theorem int_t (i : Int) : isi K [A.Marking] (.int i) (.ty "int") = some (.bl true) := isi_ty rfl (by rfl)
theorem int_b (i : Int) : isi K [A.Marking] (.int i) (.ty "bool") = some (.bl false) := isi_ty rfl (by rfl)
theorem integer_is (i : Int) : fn_l_integer K A [iW i] = .ok (.frz (.bl true)) [] := by
  refine run_ret (m := m_l_integer K A) (L0 := [some (iW i)]) (L := [some (iW i)]) ?_
  simp (decide := true) only [e_bind, e_then, e_badb, e_var, e_lk_f, e_lk_b, e_lk_l, e_lk_t, e_lk_o, e_C, e_op, e_seq, e_seq_n, e_seq_r, e_seq_b, e_seq_c, e_nil, e_brk, e_exp, e_set, e_asgn, e_ret, e_handed, e_if, e_ifE, e_mBl, e_blR, e_not, e_and, e_or, e_andV, e_orV, e_notV, e_tru, e_truR, e_add, e_sub, e_mul, e_div, e_mod, e_pow, e_lt, e_gt, e_le, e_ge, e_eq, e_ne, e_neg, e_nilA, e_cons, e_callB, e_f1, e_len_str, e_len_lst, e_len_lok, e_len_tup, e_int, e_abs, e_par, e_no, e_while, e_for, e_gNm, e_range1, e_range2, e_rg1, e_rg2, e_slotW, e_get_v, e_get_a, e_fr_f, e_toFv, e_toF_v, e_toF_a, e_toFb, e_toFa, e_fr_l, e_fr_o, e_frs_nil, e_frs_frz, e_frs_cons, e_frF_nil, e_frF_cons, e_prep_nil, e_prep_f, e_prep_t, e_prepT, e_prep_v, e_called, e_calledR, e_bkR, e_back_nil, e_back_cons, e_call, e_callR, e_madeF, e_make, e_fld, e_fldSet, e_fldSetR, e_meth, e_f1l, e_f1a, e_rd_f, e_mkK, e_yes, e_toW, e_toFs_nil, e_toFs_cons, e_tup, e_lst, e_tupR, e_lstR, e_scR, e_f2, e_kR0, e_kR1, e_bits, e_bitsR, e_bm, e_bm_l, e_bm_s, e_app, e_appR, e_asg, e_seqG, e_gsc, e_gsn, e_gTp, e_exc_try, e_turnR_n, e_turnR_c, e_turnR_b, e_turnR_r, e_setIx, e_setA, e_setB, e_setC, e_iter, e_sl, e_pSome, e_pR, e_pNone, e_listR1, e_lr1, e_prepB_nil, e_prepB_cons, e_arg_ff, e_arg_la, e_lentA, e_arg_lf, e_arg_lb, e_arg_ta, e_ownA, e_arg_tv, e_callL, e_callRB, e_calledB, e_calledBR, e_calledBX, e_backB, e_lkBack_nil, e_lkBack_cons, e_nbs_nil, e_nbs_cons, e_nb_f, e_nb_l, e_nb_o, e_nbF_nil, e_nbF_cons, e_nbs_map, e_makeL, e_madeBR, e_methL, e_methLR_f, e_toWs_nil, e_toWs_cons, e_lstW, e_lstWR, e_mPk, e_pkR_i, e_pkR_s, e_pkR_b, e_setP, e_nin_al, e_in_al, e_in_ft, e_in_fl, e_nin_ft, e_nin_fl, e_eqS, e_neS, e_eqB, e_neB, e_sl_s, e_handed_a, e_handedA, e_f1R_len, e_kR2, e_seqK_l, e_seqK_t, e_items_al, e_items_fl, e_items_ft, e_items_ol, e_tuple_v, e_tuple_a, e_tupA, e_tuple_l, e_tuple_t, e_list_l, e_list_t, e_list_o, e_aug, e_augA, e_addI, e_subI, e_chain, e_chR, e_chK, e_fldR_f, List.getElem?_cons_zero, List.getElem?_cons_succ, List.set_cons_zero, List.set_cons_succ, List.length_cons, List.length_nil, Option.map_some, Option.map_none, Option.bind_some, Option.bind_none, if_true, if_false, ite_true, ite_false, reduceIte, decide_true, decide_false, Bool.not_true, Bool.not_false, Bool.and_true, Bool.true_and, Bool.and_false, Bool.false_and, Bool.or_true, Bool.true_or, Bool.or_false, Bool.false_or, ne_eq, not_false_eq_true, not_true_eq_false, Option.some.injEq, reduceCtorEq, and_self, and_true, true_and, Bool.false_eq_true, List.nil_append, List.cons_append, List.append_nil, decide_eq_true_eq, m_l_integer, int_t, int_b]
theorem init_turn (s0 s1 : Option W) (ks : List En) (hk : ks.length < 1000) (i : Nat) {e : En} {w : W} (h : Tri e w) (hw : 1 ≤ e.w) (s4 s5 s6 s7 : Option W) :
    ∃ c, turnF (gTp 2 (gsCons (gNm fl_Marking_init 4) (gsCons (gTp 3 (gsCons (gNm fl_Marking_init 5) (gsCons (gNm fl_Marking_init 6) (gsCons (gNm fl_Marking_init 7) gsNil)))) gsNil))) (m_Marking_init_b1 K A) (pairW (.frz (.int (i : Nat))) w)
      [s0, s1, some (oL (ks.map tD)), some (iW (total ks)), s4, s5, s6, s7] = .next [s0, s1, some (oL ((ks ++ [e]).map tD)), some (iW (total (ks ++ [e]))), some (iW (i : Nat)), some (iW e.w), some (.frz (.str e.t)), some c] := by
  obtain ⟨hn, c, hs, hl, hso⟩ := h
  refine ⟨c, ?_⟩
  have t2 := fun (gs : List W → MS) (L : Lc) => gTp_pair (L := L) (gs := gs) (d := .int (i : Nat)) hn
  have t3 := fun (gs : List W → MS) (L : Lc) => gTp_of (L := L) (gs := gs) (n := 3) hs rfl
  have hsz : ((ks.map tD).map W.frz).length < sizeLine := by rw [List.length_map, List.length_map]; exact small1000 (by omega)
  have w1 : ¬ e.w < 1 := by omega
  rw [turn_is, List.map_append, show [e].map tD = [tD e] from rfl, oL_snoc, total_snoc]
  unfold oL tD at *
  have lk := fun L : Lc => e_lk_l (L := L) 2 ((ks.map fun e => D.tup [D.int e.w, D.str e.t, D.tup (sD (sortS e.a))]).map .frz)
  generalize (ks.map fun e => D.tup [D.int e.w, D.str e.t, D.tup (sD (sortS e.a))]).map W.frz = oo at *
  have tp := fun L : Lc => e_tuple_v (L := L) (sD (sortS e.a))
  generalize (sD (sortS e.a)).map W.frz = so at *
  generalize sD (sortS e.a) = sd at *
  generalize ((i : Nat) : Int) = i1 at *
  simp (decide := true) only [e_bind, e_then, e_badb, e_var, e_lk_f, e_lk_b, e_lk_l, e_lk_t, e_lk_o, e_C, e_op, e_seq, e_seq_n, e_seq_r, e_seq_b, e_seq_c, e_nil, e_brk, e_exp, e_set, e_asgn, e_ret, e_handed, e_if, e_ifE, e_mBl, e_blR, e_not, e_and, e_or, e_andV, e_orV, e_notV, e_tru, e_truR, e_add, e_sub, e_mul, e_div, e_mod, e_pow, e_lt, e_gt, e_le, e_ge, e_eq, e_ne, e_neg, e_nilA, e_cons, e_callB, e_f1, e_len_str, e_len_lst, e_len_lok, e_len_tup, e_int, e_abs, e_par, e_no, e_while, e_for, e_gNm, e_range1, e_range2, e_rg1, e_rg2, e_slotW, e_get_v, e_get_a, e_fr_f, e_toFv, e_toF_v, e_toF_a, e_toFb, e_toFa, e_fr_l, e_fr_o, e_frs_nil, e_frs_frz, e_frs_cons, e_frF_nil, e_frF_cons, e_prep_nil, e_prep_f, e_prep_t, e_prepT, e_prep_v, e_called, e_calledR, e_bkR, e_back_nil, e_back_cons, e_call, e_callR, e_madeF, e_make, e_fld, e_fldSet, e_fldSetR, e_meth, e_f1l, e_f1a, e_rd_f, e_mkK, e_yes, e_toW, e_toFs_nil, e_toFs_cons, e_tup, e_lst, e_tupR, e_lstR, e_scR, e_f2, e_kR0, e_kR1, e_bits, e_bitsR, e_bm, e_bm_l, e_bm_s, e_app, e_appR, e_asg, e_seqG, e_gsc, e_gsn, e_gTp, e_exc_try, e_turnR_n, e_turnR_c, e_turnR_b, e_turnR_r, e_setIx, e_setA, e_setB, e_setC, e_iter, e_sl, e_pSome, e_pR, e_pNone, e_listR1, e_lr1, e_prepB_nil, e_prepB_cons, e_arg_ff, e_arg_la, e_lentA, e_arg_lf, e_arg_lb, e_arg_ta, e_ownA, e_arg_tv, e_callL, e_callRB, e_calledB, e_calledBR, e_calledBX, e_backB, e_lkBack_nil, e_lkBack_cons, e_nbs_nil, e_nbs_cons, e_nb_f, e_nb_l, e_nb_o, e_nbF_nil, e_nbF_cons, e_nbs_map, e_makeL, e_madeBR, e_methL, e_methLR_f, e_toWs_nil, e_toWs_cons, e_lstW, e_lstWR, e_mPk, e_pkR_i, e_pkR_s, e_pkR_b, e_setP, e_nin_al, e_in_al, e_in_ft, e_in_fl, e_nin_ft, e_nin_fl, e_eqS, e_neS, e_eqB, e_neB, e_sl_s, e_handed_a, e_handedA, e_f1R_len, e_kR2, e_seqK_l, e_seqK_t, e_items_al, e_items_fl, e_items_ft, e_items_ol, e_tuple_v, e_tuple_a, e_tupA, e_tuple_l, e_tuple_t, e_list_l, e_list_t, e_list_o, e_aug, e_augA, e_addI, e_subI, e_chain, e_chR, e_chK, e_fldR_f, List.getElem?_cons_zero, List.getElem?_cons_succ, List.set_cons_zero, List.set_cons_succ, List.length_cons, List.length_nil, Option.map_some, Option.map_none, Option.bind_some, Option.bind_none, if_true, if_false, ite_true, ite_false, reduceIte, decide_true, decide_false, Bool.not_true, Bool.not_false, Bool.and_true, Bool.true_and, Bool.and_false, Bool.false_and, Bool.or_true, Bool.true_or, Bool.or_false, Bool.false_or, ne_eq, not_false_eq_true, not_true_eq_false, Option.some.injEq, reduceCtorEq, and_self, and_true, true_and, Bool.false_eq_true, List.nil_append, List.cons_append, List.append_nil, decide_eq_true_eq, m_Marking_init_b1, t2, t3, int_t, int_b, w1, lk, hl, hso, tp, hsz]
theorem init_loop (s0 s1 : Option W) : ∀ (es : List En) (ws : List W) (ks : List En) (i : Nat) (s4 s5 s6 s7 : Option W), Tris es ws → (∀ e ∈ es, 1 ≤ e.w) → ks.length + es.length < 1000 →
    ∃ t4 t5 t6 t7, forL (gTp 2 (gsCons (gNm fl_Marking_init 4) (gsCons (gTp 3 (gsCons (gNm fl_Marking_init 5) (gsCons (gNm fl_Marking_init 6) (gsCons (gNm fl_Marking_init 7) gsNil)))) gsNil))) (m_Marking_init_b1 K A) (enumI i ws)
      [s0, s1, some (oL (ks.map tD)), some (iW (total ks)), s4, s5, s6, s7] = .next [s0, s1, some (oL ((ks ++ es).map tD)), some (iW (total (ks ++ es))), t4, t5, t6, t7]
  | [], [], ks, i, s4, s5, s6, s7, _, _, _ => ⟨s4, s5, s6, s7, by rw [enumI, forL, List.append_nil]⟩
  | e :: es, w :: ws, ks, i, s4, s5, s6, s7, ⟨h, ht⟩, hw, hl => by
    rw [List.length_cons] at hl
    obtain ⟨c, e1⟩ := init_turn (K := K) (A := A) s0 s1 ks (by omega) i h (hw e List.mem_cons_self) s4 s5 s6 s7
    obtain ⟨t4, t5, t6, t7, e2⟩ := init_loop s0 s1 es ws (ks ++ [e]) (i + 1) _ _ _ _ ht (fun x hx => hw x (List.mem_cons_of_mem _ hx)) (by rw [List.length_append, List.length_singleton]; omega)
    refine ⟨t4, t5, t6, t7, ?_⟩
    rw [enumI, for_next e1, e2, List.append_assoc]
    rfl
  | [], _ :: _, _, _, _, _, _, _, h, _, _ => h.elim
  | _ :: _, [], _, _, _, _, _, _, h, _, _ => h.elim
theorem init_is {es : List En} {w : W} {ws : List W} (hlk : ∀ i (L : Lc), look i (some (some w)) L = .ok (.val w) L) (hit : ∀ L : Lc, itemsOf (.val w) L = .ok ws L) (ht : Tris es ws) (hw : ∀ e ∈ es, 1 ≤ e.w) (hl : es.length < 1000) :
    fn_Marking_init K A [.oobj A.Marking [], w] = .ok (.frz .non) [mkW A.Marking es] := by
  obtain ⟨t4, t5, t6, t7, e1⟩ := init_loop (K := K) (A := A) (some (.oobj A.Marking [])) (some w) es ws [] 0 none none none none ht hw (by simpa using hl)
  rw [List.nil_append] at e1
  have z : oL (([] : List En).map tD) = .olst [] := rfl
  have z2 : total [] = 0 := rfl
  rw [z, z2] at e1
  have lk := fun L : Lc => e_lk_l (L := L) 2 ((es.map tD).map .frz)
  have tp := fun L : Lc => e_tupA (L := L) 2 (es.map tD)
  unfold mkW
  unfold oL at *
  have cm : A.Marking ∈ [A.Marking] := List.mem_cons_self
  refine run_next (m := m_Marking_init K A) (L0 := [some (.oobj A.Marking []), some w, none, none, none, none, none, none]) (L := [some (.oobj A.Marking [("entries", .frz (.tup (es.map tD))), ("whole", .frz (.int (total es)))]), some w, some (.olst ((es.map tD).map .frz)), some (iW (total es)), t4, t5, t6, t7]) ?_
  have en : ∀ L : Lc, mEnum (mCons (mVar 1) mNil) [some (.oobj A.Marking []), some w, some (.olst []), some (iW 0), none, none, none, none] = .ok (enumI 0 ws) [some (.oobj A.Marking []), some w, some (.olst []), some (iW 0), none, none, none, none] := fun L => by
    unfold mEnum
    simp (decide := true) only [e_bind, e_then, e_badb, e_var, e_lk_f, e_lk_b, e_lk_l, e_lk_t, e_lk_o, e_C, e_op, e_seq, e_seq_n, e_seq_r, e_seq_b, e_seq_c, e_nil, e_brk, e_exp, e_set, e_asgn, e_ret, e_handed, e_if, e_ifE, e_mBl, e_blR, e_not, e_and, e_or, e_andV, e_orV, e_notV, e_tru, e_truR, e_add, e_sub, e_mul, e_div, e_mod, e_pow, e_lt, e_gt, e_le, e_ge, e_eq, e_ne, e_neg, e_nilA, e_cons, e_callB, e_f1, e_len_str, e_len_lst, e_len_lok, e_len_tup, e_int, e_abs, e_par, e_no, e_while, e_for, e_gNm, e_range1, e_range2, e_rg1, e_rg2, e_slotW, e_get_v, e_get_a, e_fr_f, e_toFv, e_toF_v, e_toF_a, e_toFb, e_toFa, e_fr_l, e_fr_o, e_frs_nil, e_frs_frz, e_frs_cons, e_frF_nil, e_frF_cons, e_prep_nil, e_prep_f, e_prep_t, e_prepT, e_prep_v, e_called, e_calledR, e_bkR, e_back_nil, e_back_cons, e_call, e_callR, e_madeF, e_make, e_fld, e_fldSet, e_fldSetR, e_meth, e_f1l, e_f1a, e_rd_f, e_mkK, e_yes, e_toW, e_toFs_nil, e_toFs_cons, e_tup, e_lst, e_tupR, e_lstR, e_scR, e_f2, e_kR0, e_kR1, e_bits, e_bitsR, e_bm, e_bm_l, e_bm_s, e_app, e_appR, e_asg, e_seqG, e_gsc, e_gsn, e_gTp, e_exc_try, e_turnR_n, e_turnR_c, e_turnR_b, e_turnR_r, e_setIx, e_setA, e_setB, e_setC, e_iter, e_sl, e_pSome, e_pR, e_pNone, e_listR1, e_lr1, e_prepB_nil, e_prepB_cons, e_arg_ff, e_arg_la, e_lentA, e_arg_lf, e_arg_lb, e_arg_ta, e_ownA, e_arg_tv, e_callL, e_callRB, e_calledB, e_calledBR, e_calledBX, e_backB, e_lkBack_nil, e_lkBack_cons, e_nbs_nil, e_nbs_cons, e_nb_f, e_nb_l, e_nb_o, e_nbF_nil, e_nbF_cons, e_nbs_map, e_makeL, e_madeBR, e_methL, e_methLR_f, e_toWs_nil, e_toWs_cons, e_lstW, e_lstWR, e_mPk, e_pkR_i, e_pkR_s, e_pkR_b, e_setP, e_nin_al, e_in_al, e_in_ft, e_in_fl, e_nin_ft, e_nin_fl, e_eqS, e_neS, e_eqB, e_neB, e_sl_s, e_handed_a, e_handedA, e_f1R_len, e_kR2, e_seqK_l, e_seqK_t, e_items_al, e_items_fl, e_items_ft, e_items_ol, e_tuple_v, e_tuple_a, e_tupA, e_tuple_l, e_tuple_t, e_list_l, e_list_t, e_list_o, e_aug, e_augA, e_addI, e_subI, e_chain, e_chR, e_chK, e_fldR_f, List.getElem?_cons_zero, List.getElem?_cons_succ, List.set_cons_zero, List.set_cons_succ, List.length_cons, List.length_nil, Option.map_some, Option.map_none, Option.bind_some, Option.bind_none, if_true, if_false, ite_true, ite_false, reduceIte, decide_true, decide_false, Bool.not_true, Bool.not_false, Bool.and_true, Bool.true_and, Bool.and_false, Bool.false_and, Bool.or_true, Bool.true_or, Bool.or_false, Bool.false_or, ne_eq, not_false_eq_true, not_true_eq_false, Option.some.injEq, reduceCtorEq, and_self, and_true, true_and, Bool.false_eq_true, List.nil_append, List.cons_append, List.append_nil, decide_eq_true_eq, hlk, hit, enumW_is]
  have hpw : putW ("whole" : Str) (W.frz (D.int (total es))) [(("entries" : Str), W.frz (.tup (es.map tD)))] = [(("entries" : Str), W.frz (.tup (es.map tD))), (("whole" : Str), W.frz (D.int (total es)))] := by
    unfold putW putW
    rw [if_neg (by decide)]
  have hpe : putW ("entries" : Str) (W.frz (.tup (es.map tD))) [] = [(("entries" : Str), W.frz (.tup (es.map tD)))] := by
    unfold putW
    rfl
  have f1000 : ([(("entries" : Str), W.frz (.tup (es.map tD)))] : List (Str × W)).length < 1000 := by rw [List.length_singleton]; decide
  generalize es.map tD = ed at *
  generalize total es = tot at *
  generalize ed.map W.frz = ew at *
  simp (decide := true) only [e_bind, e_then, e_badb, e_var, e_lk_f, e_lk_b, e_lk_l, e_lk_t, e_lk_o, e_C, e_op, e_seq, e_seq_n, e_seq_r, e_seq_b, e_seq_c, e_nil, e_brk, e_exp, e_set, e_asgn, e_ret, e_handed, e_if, e_ifE, e_mBl, e_blR, e_not, e_and, e_or, e_andV, e_orV, e_notV, e_tru, e_truR, e_add, e_sub, e_mul, e_div, e_mod, e_pow, e_lt, e_gt, e_le, e_ge, e_eq, e_ne, e_neg, e_nilA, e_cons, e_callB, e_f1, e_len_str, e_len_lst, e_len_lok, e_len_tup, e_int, e_abs, e_par, e_no, e_while, e_for, e_gNm, e_range1, e_range2, e_rg1, e_rg2, e_slotW, e_get_v, e_get_a, e_fr_f, e_toFv, e_toF_v, e_toF_a, e_toFb, e_toFa, e_fr_l, e_fr_o, e_frs_nil, e_frs_frz, e_frs_cons, e_frF_nil, e_frF_cons, e_prep_nil, e_prep_f, e_prep_t, e_prepT, e_prep_v, e_called, e_calledR, e_bkR, e_back_nil, e_back_cons, e_call, e_callR, e_madeF, e_make, e_fld, e_fldSet, e_fldSetR, e_meth, e_f1l, e_f1a, e_rd_f, e_mkK, e_yes, e_toW, e_toFs_nil, e_toFs_cons, e_tup, e_lst, e_tupR, e_lstR, e_scR, e_f2, e_kR0, e_kR1, e_bits, e_bitsR, e_bm, e_bm_l, e_bm_s, e_app, e_appR, e_asg, e_seqG, e_gsc, e_gsn, e_gTp, e_exc_try, e_turnR_n, e_turnR_c, e_turnR_b, e_turnR_r, e_setIx, e_setA, e_setB, e_setC, e_iter, e_sl, e_pSome, e_pR, e_pNone, e_listR1, e_lr1, e_prepB_nil, e_prepB_cons, e_arg_ff, e_arg_la, e_lentA, e_arg_lf, e_arg_lb, e_arg_ta, e_ownA, e_arg_tv, e_callL, e_callRB, e_calledB, e_calledBR, e_calledBX, e_backB, e_lkBack_nil, e_lkBack_cons, e_nbs_nil, e_nbs_cons, e_nb_f, e_nb_l, e_nb_o, e_nbF_nil, e_nbF_cons, e_nbs_map, e_makeL, e_madeBR, e_methL, e_methLR_f, e_toWs_nil, e_toWs_cons, e_lstW, e_lstWR, e_mPk, e_pkR_i, e_pkR_s, e_pkR_b, e_setP, e_nin_al, e_in_al, e_in_ft, e_in_fl, e_nin_ft, e_nin_fl, e_eqS, e_neS, e_eqB, e_neB, e_sl_s, e_handed_a, e_handedA, e_f1R_len, e_kR2, e_seqK_l, e_seqK_t, e_items_al, e_items_fl, e_items_ft, e_items_ol, e_tuple_v, e_tuple_a, e_tupA, e_tuple_l, e_tuple_t, e_list_l, e_list_t, e_list_o, e_aug, e_augA, e_addI, e_subI, e_chain, e_chR, e_chK, e_fldR_f, List.getElem?_cons_zero, List.getElem?_cons_succ, List.set_cons_zero, List.set_cons_succ, List.length_cons, List.length_nil, Option.map_some, Option.map_none, Option.bind_some, Option.bind_none, if_true, if_false, ite_true, ite_false, reduceIte, decide_true, decide_false, Bool.not_true, Bool.not_false, Bool.and_true, Bool.true_and, Bool.and_false, Bool.false_and, Bool.or_true, Bool.true_or, Bool.or_false, Bool.false_or, ne_eq, not_false_eq_true, not_true_eq_false, Option.some.injEq, reduceCtorEq, and_self, and_true, true_and, Bool.false_eq_true, List.nil_append, List.cons_append, List.append_nil, decide_eq_true_eq, m_Marking_init, en [], e1, lk, tp, cm, hpw, hpe, f1000, List.map_nil]
end
end L

set_option exponentiation.threshold 20000
namespace L
open PySem PySem.Spec PyProof.Rows L2 BV
/-- which key has the number -/
def atN : List En → Int → Nat
  | [], _ => 0
  | e :: es, n => if n < e.w then 0 else atN es (n - e.w) + 1
theorem total_cons (e : En) (es : List En) : total (e :: es) = e.w + total es := rfl
theorem atN_lt : ∀ (es : List En) (n : Int), n < total es → 0 ≤ n → atN es n < es.length
  | [], n, h, h0 => by have : total [] = 0 := rfl; omega
  | e :: es, n, h, h0 => by
    rw [total_cons] at h
    unfold atN
    by_cases c : n < e.w
    · rw [if_pos c, List.length_cons]; omega
    · rw [if_neg c, List.length_cons]
      have := atN_lt es (n - e.w) (by omega) (by omega)
      omega
theorem total_nn : ∀ (es : List En), (∀ e ∈ es, 1 ≤ e.w) → (es.length : Int) ≤ total es
  | [], _ => Int.le_refl 0
  | e :: es, h => by
    rw [total_cons, List.length_cons]
    have := total_nn es fun x hx => h x (List.mem_cons_of_mem _ hx)
    have := h e List.mem_cons_self
    omega
section
variable {K : PySem.W.Frag} {A : Ad}
theorem below_is (v m : Int) (h0 : 0 ≤ v) (h : v < m) : fn__is_below K A [iW v, iW m] = .ok (.frz (.bl true)) [] := by
  refine run_ret (m := m__is_below K A) (L0 := [some (iW v), some (iW m)]) (L := [some (iW v), some (iW m)]) ?_
  simp (decide := true) only [e_bind, e_then, e_badb, e_var, e_lk_f, e_lk_b, e_lk_l, e_lk_t, e_lk_o, e_C, e_op, e_seq, e_seq_n, e_seq_r, e_seq_b, e_seq_c, e_nil, e_brk, e_exp, e_set, e_asgn, e_ret, e_handed, e_if, e_ifE, e_mBl, e_blR, e_not, e_and, e_or, e_andV, e_orV, e_notV, e_tru, e_truR, e_add, e_sub, e_mul, e_div, e_mod, e_pow, e_lt, e_gt, e_le, e_ge, e_eq, e_ne, e_neg, e_nilA, e_cons, e_callB, e_f1, e_len_str, e_len_lst, e_len_lok, e_len_tup, e_int, e_abs, e_par, e_no, e_while, e_for, e_gNm, e_range1, e_range2, e_rg1, e_rg2, e_slotW, e_get_v, e_get_a, e_fr_f, e_toFv, e_toF_v, e_toF_a, e_toFb, e_toFa, e_fr_l, e_fr_o, e_frs_nil, e_frs_frz, e_frs_cons, e_frF_nil, e_frF_cons, e_prep_nil, e_prep_f, e_prep_t, e_prepT, e_prep_v, e_called, e_calledR, e_bkR, e_back_nil, e_back_cons, e_call, e_callR, e_madeF, e_make, e_fld, e_fldSet, e_fldSetR, e_meth, e_f1l, e_f1a, e_rd_f, e_mkK, e_yes, e_toW, e_toFs_nil, e_toFs_cons, e_tup, e_lst, e_tupR, e_lstR, e_scR, e_f2, e_kR0, e_kR1, e_bits, e_bitsR, e_bm, e_bm_l, e_bm_s, e_app, e_appR, e_asg, e_seqG, e_gsc, e_gsn, e_gTp, e_exc_try, e_turnR_n, e_turnR_c, e_turnR_b, e_turnR_r, e_setIx, e_setA, e_setB, e_setC, e_iter, e_sl, e_pSome, e_pR, e_pNone, e_listR1, e_lr1, e_prepB_nil, e_prepB_cons, e_arg_ff, e_arg_la, e_lentA, e_arg_lf, e_arg_lb, e_arg_ta, e_ownA, e_arg_tv, e_callL, e_callRB, e_calledB, e_calledBR, e_calledBX, e_backB, e_lkBack_nil, e_lkBack_cons, e_nbs_nil, e_nbs_cons, e_nb_f, e_nb_l, e_nb_o, e_nbF_nil, e_nbF_cons, e_nbs_map, e_makeL, e_madeBR, e_methL, e_methLR_f, e_toWs_nil, e_toWs_cons, e_lstW, e_lstWR, e_mPk, e_pkR_i, e_pkR_s, e_pkR_b, e_setP, e_nin_al, e_in_al, e_in_ft, e_in_fl, e_nin_ft, e_nin_fl, e_eqS, e_neS, e_eqB, e_neB, e_sl_s, e_handed_a, e_handedA, e_f1R_len, e_kR2, e_seqK_l, e_seqK_t, e_items_al, e_items_fl, e_items_ft, e_items_ol, e_tuple_v, e_tuple_a, e_tupA, e_tuple_l, e_tuple_t, e_list_l, e_list_t, e_list_o, e_aug, e_augA, e_addI, e_subI, e_chain, e_chR, e_chK, e_fldR_f, List.getElem?_cons_zero, List.getElem?_cons_succ, List.set_cons_zero, List.set_cons_succ, List.length_cons, List.length_nil, Option.map_some, Option.map_none, Option.bind_some, Option.bind_none, if_true, if_false, ite_true, ite_false, reduceIte, decide_true, decide_false, Bool.not_true, Bool.not_false, Bool.and_true, Bool.true_and, Bool.and_false, Bool.false_and, Bool.or_true, Bool.true_or, Bool.or_false, Bool.false_or, ne_eq, not_false_eq_true, not_true_eq_false, Option.some.injEq, reduceCtorEq, and_self, and_true, true_and, Bool.false_eq_true, List.nil_append, List.cons_append, List.append_nil, decide_eq_true_eq, m__is_below, int_t, int_b, h0, h]
theorem fld_e {L : Lc} (es : List En) : fldR [A.Marking] "entries" (some (.frz (mkD A.Marking es))) L = .ok (.val (.frz (.tup (es.map tD)))) L := fldR_l rfl
theorem fld_w {L : Lc} (es : List En) : fldR [A.Marking] "whole" (some (.frz (mkD A.Marking es))) L = .ok (.val (.frz (.int (total es)))) L := fldR_l rfl
theorem key_loop (s0 : Option W) (n : Int) : ∀ (es : List En) (i : Nat) (b : Int) (s3 s4 s5 s6 : Option W), b ≤ n → n < b + total es →
    ∃ t2 t3 t4 t5 t6, forL (gTp 2 (gsCons (gNm fl_Marking_key_of 3) (gsCons (gTp 3 (gsCons (gNm fl_Marking_key_of 4) (gsCons (gNm fl_Marking_key_of 5) (gsCons (gNm fl_Marking_key_of 6) gsNil)))) gsNil))) (m_Marking_key_of_b1 K A) (enumI i ((es.map tD).map .frz))
      [s0, some (iW n), some (iW b), s3, s4, s5, s6] = .ret (iW ((i + atN es (n - b) : Nat) : Int)) [s0, some (iW n), t2, t3, t4, t5, t6]
  | [], i, b, _, _, _, _, h1, h2 => by have : total [] = 0 := rfl; omega
  | e :: es, i, b, s3, s4, s5, s6, h1, h2 => by
    rw [total_cons] at h2
    have ei : enumI i (((e :: es).map tD).map .frz) = pairW (.frz (.int (i : Nat))) (.frz (tD e)) :: enumI (i + 1) ((es.map tD).map .frz) := rfl
    have t2 := fun (gs : List W → MS) (L : Lc) => gTp_pair (L := L) (gs := gs) (d := .int (i : Nat)) (w := .frz (tD e)) rfl
    have t3 := fun (gs : List W → MS) (L : Lc) => gTp_of (L := L) (gs := gs) (n := 3) (w := .frz (tD e)) (ws := [.frz (.int e.w), .frz (.str e.t), .frz (.tup (sD (sortS e.a)))]) rfl rfl
    rw [ei]
    unfold atN
    generalize tD e = te at *
    generalize D.tup (sD (sortS e.a)) = ta at *
    by_cases c : n < b + e.w
    · rw [if_pos (by omega), Nat.add_zero]
      refine ⟨some (iW (b + e.w)), some (iW (i : Nat)), some (iW e.w), some (.frz (.str e.t)), some (.frz ta), ?_⟩
      rw [forL]
      have tt : turnF (gTp 2 (gsCons (gNm fl_Marking_key_of 3) (gsCons (gTp 3 (gsCons (gNm fl_Marking_key_of 4) (gsCons (gNm fl_Marking_key_of 5) (gsCons (gNm fl_Marking_key_of 6) gsNil)))) gsNil))) (m_Marking_key_of_b1 K A) (pairW (.frz (.int (i : Nat))) (.frz te)) [s0, some (iW n), some (iW b), s3, s4, s5, s6] = .ret (iW (i : Nat)) [s0, some (iW n), some (iW (b + e.w)), some (iW (i : Nat)), some (iW e.w), some (.frz (.str e.t)), some (.frz ta)] := by
        rw [turn_is]
        simp (decide := true) only [e_bind, e_then, e_badb, e_var, e_lk_f, e_lk_b, e_lk_l, e_lk_t, e_lk_o, e_C, e_op, e_seq, e_seq_n, e_seq_r, e_seq_b, e_seq_c, e_nil, e_brk, e_exp, e_set, e_asgn, e_ret, e_handed, e_if, e_ifE, e_mBl, e_blR, e_not, e_and, e_or, e_andV, e_orV, e_notV, e_tru, e_truR, e_add, e_sub, e_mul, e_div, e_mod, e_pow, e_lt, e_gt, e_le, e_ge, e_eq, e_ne, e_neg, e_nilA, e_cons, e_callB, e_f1, e_len_str, e_len_lst, e_len_lok, e_len_tup, e_int, e_abs, e_par, e_no, e_while, e_for, e_gNm, e_range1, e_range2, e_rg1, e_rg2, e_slotW, e_get_v, e_get_a, e_fr_f, e_toFv, e_toF_v, e_toF_a, e_toFb, e_toFa, e_fr_l, e_fr_o, e_frs_nil, e_frs_frz, e_frs_cons, e_frF_nil, e_frF_cons, e_prep_nil, e_prep_f, e_prep_t, e_prepT, e_prep_v, e_called, e_calledR, e_bkR, e_back_nil, e_back_cons, e_call, e_callR, e_madeF, e_make, e_fld, e_fldSet, e_fldSetR, e_meth, e_f1l, e_f1a, e_rd_f, e_mkK, e_yes, e_toW, e_toFs_nil, e_toFs_cons, e_tup, e_lst, e_tupR, e_lstR, e_scR, e_f2, e_kR0, e_kR1, e_bits, e_bitsR, e_bm, e_bm_l, e_bm_s, e_app, e_appR, e_asg, e_seqG, e_gsc, e_gsn, e_gTp, e_exc_try, e_turnR_n, e_turnR_c, e_turnR_b, e_turnR_r, e_setIx, e_setA, e_setB, e_setC, e_iter, e_sl, e_pSome, e_pR, e_pNone, e_listR1, e_lr1, e_prepB_nil, e_prepB_cons, e_arg_ff, e_arg_la, e_lentA, e_arg_lf, e_arg_lb, e_arg_ta, e_ownA, e_arg_tv, e_callL, e_callRB, e_calledB, e_calledBR, e_calledBX, e_backB, e_lkBack_nil, e_lkBack_cons, e_nbs_nil, e_nbs_cons, e_nb_f, e_nb_l, e_nb_o, e_nbF_nil, e_nbF_cons, e_nbs_map, e_makeL, e_madeBR, e_methL, e_methLR_f, e_toWs_nil, e_toWs_cons, e_lstW, e_lstWR, e_mPk, e_pkR_i, e_pkR_s, e_pkR_b, e_setP, e_nin_al, e_in_al, e_in_ft, e_in_fl, e_nin_ft, e_nin_fl, e_eqS, e_neS, e_eqB, e_neB, e_sl_s, e_handed_a, e_handedA, e_f1R_len, e_kR2, e_seqK_l, e_seqK_t, e_items_al, e_items_fl, e_items_ft, e_items_ol, e_tuple_v, e_tuple_a, e_tupA, e_tuple_l, e_tuple_t, e_list_l, e_list_t, e_list_o, e_aug, e_augA, e_addI, e_subI, e_chain, e_chR, e_chK, e_fldR_f, List.getElem?_cons_zero, List.getElem?_cons_succ, List.set_cons_zero, List.set_cons_succ, List.length_cons, List.length_nil, Option.map_some, Option.map_none, Option.bind_some, Option.bind_none, if_true, if_false, ite_true, ite_false, reduceIte, decide_true, decide_false, Bool.not_true, Bool.not_false, Bool.and_true, Bool.true_and, Bool.and_false, Bool.false_and, Bool.or_true, Bool.true_or, Bool.or_false, Bool.false_or, ne_eq, not_false_eq_true, not_true_eq_false, Option.some.injEq, reduceCtorEq, and_self, and_true, true_and, Bool.false_eq_true, List.nil_append, List.cons_append, List.append_nil, decide_eq_true_eq, m_Marking_key_of_b1, t2, t3, c]
      exact for_ret tt _
    · rw [if_neg (by omega)]
      obtain ⟨u2, u3, u4, u5, u6, e2⟩ := key_loop s0 n es (i + 1) (b + e.w) (some (iW (i : Nat))) (some (iW e.w)) (some (.frz (.str e.t))) (some (.frz ta)) (by omega) (by omega)
      refine ⟨u2, u3, u4, u5, u6, ?_⟩
      have tt : turnF (gTp 2 (gsCons (gNm fl_Marking_key_of 3) (gsCons (gTp 3 (gsCons (gNm fl_Marking_key_of 4) (gsCons (gNm fl_Marking_key_of 5) (gsCons (gNm fl_Marking_key_of 6) gsNil)))) gsNil))) (m_Marking_key_of_b1 K A) (pairW (.frz (.int (i : Nat))) (.frz te)) [s0, some (iW n), some (iW b), s3, s4, s5, s6] = .next [s0, some (iW n), some (iW (b + e.w)), some (iW (i : Nat)), some (iW e.w), some (.frz (.str e.t)), some (.frz ta)] := by
        rw [turn_is]
        simp (decide := true) only [e_bind, e_then, e_badb, e_var, e_lk_f, e_lk_b, e_lk_l, e_lk_t, e_lk_o, e_C, e_op, e_seq, e_seq_n, e_seq_r, e_seq_b, e_seq_c, e_nil, e_brk, e_exp, e_set, e_asgn, e_ret, e_handed, e_if, e_ifE, e_mBl, e_blR, e_not, e_and, e_or, e_andV, e_orV, e_notV, e_tru, e_truR, e_add, e_sub, e_mul, e_div, e_mod, e_pow, e_lt, e_gt, e_le, e_ge, e_eq, e_ne, e_neg, e_nilA, e_cons, e_callB, e_f1, e_len_str, e_len_lst, e_len_lok, e_len_tup, e_int, e_abs, e_par, e_no, e_while, e_for, e_gNm, e_range1, e_range2, e_rg1, e_rg2, e_slotW, e_get_v, e_get_a, e_fr_f, e_toFv, e_toF_v, e_toF_a, e_toFb, e_toFa, e_fr_l, e_fr_o, e_frs_nil, e_frs_frz, e_frs_cons, e_frF_nil, e_frF_cons, e_prep_nil, e_prep_f, e_prep_t, e_prepT, e_prep_v, e_called, e_calledR, e_bkR, e_back_nil, e_back_cons, e_call, e_callR, e_madeF, e_make, e_fld, e_fldSet, e_fldSetR, e_meth, e_f1l, e_f1a, e_rd_f, e_mkK, e_yes, e_toW, e_toFs_nil, e_toFs_cons, e_tup, e_lst, e_tupR, e_lstR, e_scR, e_f2, e_kR0, e_kR1, e_bits, e_bitsR, e_bm, e_bm_l, e_bm_s, e_app, e_appR, e_asg, e_seqG, e_gsc, e_gsn, e_gTp, e_exc_try, e_turnR_n, e_turnR_c, e_turnR_b, e_turnR_r, e_setIx, e_setA, e_setB, e_setC, e_iter, e_sl, e_pSome, e_pR, e_pNone, e_listR1, e_lr1, e_prepB_nil, e_prepB_cons, e_arg_ff, e_arg_la, e_lentA, e_arg_lf, e_arg_lb, e_arg_ta, e_ownA, e_arg_tv, e_callL, e_callRB, e_calledB, e_calledBR, e_calledBX, e_backB, e_lkBack_nil, e_lkBack_cons, e_nbs_nil, e_nbs_cons, e_nb_f, e_nb_l, e_nb_o, e_nbF_nil, e_nbF_cons, e_nbs_map, e_makeL, e_madeBR, e_methL, e_methLR_f, e_toWs_nil, e_toWs_cons, e_lstW, e_lstWR, e_mPk, e_pkR_i, e_pkR_s, e_pkR_b, e_setP, e_nin_al, e_in_al, e_in_ft, e_in_fl, e_nin_ft, e_nin_fl, e_eqS, e_neS, e_eqB, e_neB, e_sl_s, e_handed_a, e_handedA, e_f1R_len, e_kR2, e_seqK_l, e_seqK_t, e_items_al, e_items_fl, e_items_ft, e_items_ol, e_tuple_v, e_tuple_a, e_tupA, e_tuple_l, e_tuple_t, e_list_l, e_list_t, e_list_o, e_aug, e_augA, e_addI, e_subI, e_chain, e_chR, e_chK, e_fldR_f, List.getElem?_cons_zero, List.getElem?_cons_succ, List.set_cons_zero, List.set_cons_succ, List.length_cons, List.length_nil, Option.map_some, Option.map_none, Option.bind_some, Option.bind_none, if_true, if_false, ite_true, ite_false, reduceIte, decide_true, decide_false, Bool.not_true, Bool.not_false, Bool.and_true, Bool.true_and, Bool.and_false, Bool.false_and, Bool.or_true, Bool.true_or, Bool.or_false, Bool.false_or, ne_eq, not_false_eq_true, not_true_eq_false, Option.some.injEq, reduceCtorEq, and_self, and_true, true_and, Bool.false_eq_true, List.nil_append, List.cons_append, List.append_nil, decide_eq_true_eq, m_Marking_key_of_b1, t2, t3, c]
      rw [for_next tt, e2]
      have e3 : i + 1 + atN es (n - (b + e.w)) = i + (atN es (n - b - e.w) + 1) := by rw [show n - (b + e.w) = n - b - e.w by omega]; omega
      rw [e3]
theorem key_of_is (es : List En) (n : Int) (h0 : 0 ≤ n) (h : n < total es) : fn_Marking_key_of K A [.frz (mkD A.Marking es), iW n] = .ok (iW (atN es n : Nat)) [] := by
  obtain ⟨t2, t3, t4, t5, t6, e1⟩ := key_loop (K := K) (A := A) (some (.frz (mkD A.Marking es))) n es 0 0 none none none none h0 (by omega)
  rw [Nat.zero_add, Int.sub_zero] at e1
  have e2 := below_is (K := K) (A := A) n (total es) h0 h
  have f1 := fun L : Lc => fld_e (L := L) (A := A) es
  have f2 := fun L : Lc => fld_w (L := L) (A := A) es
  have en := enumW_is ((es.map tD).map .frz)
  have men : ∀ L : Lc, L[0]? = some (some (.frz (mkD A.Marking es))) → mEnum (mCons (mFld [A.Marking] "entries" (mVar 0)) mNil) L = .ok (enumI 0 ((es.map tD).map .frz)) L := fun L hL => by
    have e0 : mCons (mFld [A.Marking] "entries" (mVar 0)) mNil L = .ok [.val (.frz (.tup (es.map tD)))] L := by
      generalize mkD A.Marking es = mk at *
      simp (decide := true) only [e_bind, e_then, e_badb, e_var, e_lk_f, e_lk_b, e_lk_l, e_lk_t, e_lk_o, e_C, e_op, e_seq, e_seq_n, e_seq_r, e_seq_b, e_seq_c, e_nil, e_brk, e_exp, e_set, e_asgn, e_ret, e_handed, e_if, e_ifE, e_mBl, e_blR, e_not, e_and, e_or, e_andV, e_orV, e_notV, e_tru, e_truR, e_add, e_sub, e_mul, e_div, e_mod, e_pow, e_lt, e_gt, e_le, e_ge, e_eq, e_ne, e_neg, e_nilA, e_cons, e_callB, e_f1, e_len_str, e_len_lst, e_len_lok, e_len_tup, e_int, e_abs, e_par, e_no, e_while, e_for, e_gNm, e_range1, e_range2, e_rg1, e_rg2, e_slotW, e_get_v, e_get_a, e_fr_f, e_toFv, e_toF_v, e_toF_a, e_toFb, e_toFa, e_fr_l, e_fr_o, e_frs_nil, e_frs_frz, e_frs_cons, e_frF_nil, e_frF_cons, e_prep_nil, e_prep_f, e_prep_t, e_prepT, e_prep_v, e_called, e_calledR, e_bkR, e_back_nil, e_back_cons, e_call, e_callR, e_madeF, e_make, e_fld, e_fldSet, e_fldSetR, e_meth, e_f1l, e_f1a, e_rd_f, e_mkK, e_yes, e_toW, e_toFs_nil, e_toFs_cons, e_tup, e_lst, e_tupR, e_lstR, e_scR, e_f2, e_kR0, e_kR1, e_bits, e_bitsR, e_bm, e_bm_l, e_bm_s, e_app, e_appR, e_asg, e_seqG, e_gsc, e_gsn, e_gTp, e_exc_try, e_turnR_n, e_turnR_c, e_turnR_b, e_turnR_r, e_setIx, e_setA, e_setB, e_setC, e_iter, e_sl, e_pSome, e_pR, e_pNone, e_listR1, e_lr1, e_prepB_nil, e_prepB_cons, e_arg_ff, e_arg_la, e_lentA, e_arg_lf, e_arg_lb, e_arg_ta, e_ownA, e_arg_tv, e_callL, e_callRB, e_calledB, e_calledBR, e_calledBX, e_backB, e_lkBack_nil, e_lkBack_cons, e_nbs_nil, e_nbs_cons, e_nb_f, e_nb_l, e_nb_o, e_nbF_nil, e_nbF_cons, e_nbs_map, e_makeL, e_madeBR, e_methL, e_methLR_f, e_toWs_nil, e_toWs_cons, e_lstW, e_lstWR, e_mPk, e_pkR_i, e_pkR_s, e_pkR_b, e_setP, e_nin_al, e_in_al, e_in_ft, e_in_fl, e_nin_ft, e_nin_fl, e_eqS, e_neS, e_eqB, e_neB, e_sl_s, e_handed_a, e_handedA, e_f1R_len, e_kR2, e_seqK_l, e_seqK_t, e_items_al, e_items_fl, e_items_ft, e_items_ol, e_tuple_v, e_tuple_a, e_tupA, e_tuple_l, e_tuple_t, e_list_l, e_list_t, e_list_o, e_aug, e_augA, e_addI, e_subI, e_chain, e_chR, e_chK, e_fldR_f, List.getElem?_cons_zero, List.getElem?_cons_succ, List.set_cons_zero, List.set_cons_succ, List.length_cons, List.length_nil, Option.map_some, Option.map_none, Option.bind_some, Option.bind_none, if_true, if_false, ite_true, ite_false, reduceIte, decide_true, decide_false, Bool.not_true, Bool.not_false, Bool.and_true, Bool.true_and, Bool.and_false, Bool.false_and, Bool.or_true, Bool.true_or, Bool.or_false, Bool.false_or, ne_eq, not_false_eq_true, not_true_eq_false, Option.some.injEq, reduceCtorEq, and_self, and_true, true_and, Bool.false_eq_true, List.nil_append, List.cons_append, List.append_nil, decide_eq_true_eq, hL, f1]
    unfold mEnum
    rw [e0]
    show (itemsOf (.val (.frz (.tup (es.map tD)))) L).bind (fun ws L2 => .ok (enumW ws) L2) = _
    rw [e_items_ft]
    show Res.ok (enumW _) L = _
    rw [en]
  have men1 := men [some (.frz (mkD A.Marking es)), some (iW n), some (iW 0), none, none, none, none] rfl
  refine run_ret (m := m_Marking_key_of K A) (L0 := [some (.frz (mkD A.Marking es)), some (iW n), none, none, none, none, none]) (L := [some (.frz (mkD A.Marking es)), some (iW n), t2, t3, t4, t5, t6]) ?_
  generalize enumI 0 ((es.map tD).map .frz) = ee at *
  generalize mkD A.Marking es = mk at *
  simp (decide := true) only [e_bind, e_then, e_badb, e_var, e_lk_f, e_lk_b, e_lk_l, e_lk_t, e_lk_o, e_C, e_op, e_seq, e_seq_n, e_seq_r, e_seq_b, e_seq_c, e_nil, e_brk, e_exp, e_set, e_asgn, e_ret, e_handed, e_if, e_ifE, e_mBl, e_blR, e_not, e_and, e_or, e_andV, e_orV, e_notV, e_tru, e_truR, e_add, e_sub, e_mul, e_div, e_mod, e_pow, e_lt, e_gt, e_le, e_ge, e_eq, e_ne, e_neg, e_nilA, e_cons, e_callB, e_f1, e_len_str, e_len_lst, e_len_lok, e_len_tup, e_int, e_abs, e_par, e_no, e_while, e_for, e_gNm, e_range1, e_range2, e_rg1, e_rg2, e_slotW, e_get_v, e_get_a, e_fr_f, e_toFv, e_toF_v, e_toF_a, e_toFb, e_toFa, e_fr_l, e_fr_o, e_frs_nil, e_frs_frz, e_frs_cons, e_frF_nil, e_frF_cons, e_prep_nil, e_prep_f, e_prep_t, e_prepT, e_prep_v, e_called, e_calledR, e_bkR, e_back_nil, e_back_cons, e_call, e_callR, e_madeF, e_make, e_fld, e_fldSet, e_fldSetR, e_meth, e_f1l, e_f1a, e_rd_f, e_mkK, e_yes, e_toW, e_toFs_nil, e_toFs_cons, e_tup, e_lst, e_tupR, e_lstR, e_scR, e_f2, e_kR0, e_kR1, e_bits, e_bitsR, e_bm, e_bm_l, e_bm_s, e_app, e_appR, e_asg, e_seqG, e_gsc, e_gsn, e_gTp, e_exc_try, e_turnR_n, e_turnR_c, e_turnR_b, e_turnR_r, e_setIx, e_setA, e_setB, e_setC, e_iter, e_sl, e_pSome, e_pR, e_pNone, e_listR1, e_lr1, e_prepB_nil, e_prepB_cons, e_arg_ff, e_arg_la, e_lentA, e_arg_lf, e_arg_lb, e_arg_ta, e_ownA, e_arg_tv, e_callL, e_callRB, e_calledB, e_calledBR, e_calledBX, e_backB, e_lkBack_nil, e_lkBack_cons, e_nbs_nil, e_nbs_cons, e_nb_f, e_nb_l, e_nb_o, e_nbF_nil, e_nbF_cons, e_nbs_map, e_makeL, e_madeBR, e_methL, e_methLR_f, e_toWs_nil, e_toWs_cons, e_lstW, e_lstWR, e_mPk, e_pkR_i, e_pkR_s, e_pkR_b, e_setP, e_nin_al, e_in_al, e_in_ft, e_in_fl, e_nin_ft, e_nin_fl, e_eqS, e_neS, e_eqB, e_neB, e_sl_s, e_handed_a, e_handedA, e_f1R_len, e_kR2, e_seqK_l, e_seqK_t, e_items_al, e_items_fl, e_items_ft, e_items_ol, e_tuple_v, e_tuple_a, e_tupA, e_tuple_l, e_tuple_t, e_list_l, e_list_t, e_list_o, e_aug, e_augA, e_addI, e_subI, e_chain, e_chR, e_chK, e_fldR_f, List.getElem?_cons_zero, List.getElem?_cons_succ, List.set_cons_zero, List.set_cons_succ, List.length_cons, List.length_nil, Option.map_some, Option.map_none, Option.bind_some, Option.bind_none, if_true, if_false, ite_true, ite_false, reduceIte, decide_true, decide_false, Bool.not_true, Bool.not_false, Bool.and_true, Bool.true_and, Bool.and_false, Bool.false_and, Bool.or_true, Bool.true_or, Bool.or_false, Bool.false_or, ne_eq, not_false_eq_true, not_true_eq_false, Option.some.injEq, reduceCtorEq, and_self, and_true, true_and, Bool.false_eq_true, List.nil_append, List.cons_append, List.append_nil, decide_eq_true_eq, m_Marking_key_of, f1, f2, e2, men1, e1]
theorem tD_get {es : List En} {k : Nat} (h : k < es.length) : (es.map tD)[k]? = some (tD es[k]) := by rw [List.getElem?_map, List.getElem?_eq_getElem h]; rfl
theorem write_is (es : List En) (k : Nat) (h : k < es.length) : fn_Marking_write K A [.frz (mkD A.Marking es), iW (k : Nat)] = .ok (.frz (.str es[k].t)) [] := by
  have e2 := below_is (K := K) (A := A) (k : Nat) (es.length : Nat) (by omega) (by omega)
  have f1 := fun L : Lc => fld_e (L := L) (A := A) es
  have ix := fun L : Lc => ix_fT (L := L) (tD_get h)
  have hl : lenD (.tup (es.map tD)) = some (.int (es.length : Nat)) := by show some (D.int ((es.map tD).length : Nat)) = _; rw [List.length_map]
  refine run_ret (m := m_Marking_write K A) (L0 := [some (.frz (mkD A.Marking es)), some (iW (k : Nat))]) (L := [some (.frz (mkD A.Marking es)), some (iW (k : Nat))]) ?_
  generalize mkD A.Marking es = mk at *
  generalize es.map tD = et at *
  generalize ((k : Nat) : Int) = k1 at *
  generalize ((es.length : Nat) : Int) = l1 at *
  simp (decide := true) only [e_bind, e_then, e_badb, e_var, e_lk_f, e_lk_b, e_lk_l, e_lk_t, e_lk_o, e_C, e_op, e_seq, e_seq_n, e_seq_r, e_seq_b, e_seq_c, e_nil, e_brk, e_exp, e_set, e_asgn, e_ret, e_handed, e_if, e_ifE, e_mBl, e_blR, e_not, e_and, e_or, e_andV, e_orV, e_notV, e_tru, e_truR, e_add, e_sub, e_mul, e_div, e_mod, e_pow, e_lt, e_gt, e_le, e_ge, e_eq, e_ne, e_neg, e_nilA, e_cons, e_callB, e_f1, e_len_str, e_len_lst, e_len_lok, e_len_tup, e_int, e_abs, e_par, e_no, e_while, e_for, e_gNm, e_range1, e_range2, e_rg1, e_rg2, e_slotW, e_get_v, e_get_a, e_fr_f, e_toFv, e_toF_v, e_toF_a, e_toFb, e_toFa, e_fr_l, e_fr_o, e_frs_nil, e_frs_frz, e_frs_cons, e_frF_nil, e_frF_cons, e_prep_nil, e_prep_f, e_prep_t, e_prepT, e_prep_v, e_called, e_calledR, e_bkR, e_back_nil, e_back_cons, e_call, e_callR, e_madeF, e_make, e_fld, e_fldSet, e_fldSetR, e_meth, e_f1l, e_f1a, e_rd_f, e_mkK, e_yes, e_toW, e_toFs_nil, e_toFs_cons, e_tup, e_lst, e_tupR, e_lstR, e_scR, e_f2, e_kR0, e_kR1, e_bits, e_bitsR, e_bm, e_bm_l, e_bm_s, e_app, e_appR, e_asg, e_seqG, e_gsc, e_gsn, e_gTp, e_exc_try, e_turnR_n, e_turnR_c, e_turnR_b, e_turnR_r, e_setIx, e_setA, e_setB, e_setC, e_iter, e_sl, e_pSome, e_pR, e_pNone, e_listR1, e_lr1, e_prepB_nil, e_prepB_cons, e_arg_ff, e_arg_la, e_lentA, e_arg_lf, e_arg_lb, e_arg_ta, e_ownA, e_arg_tv, e_callL, e_callRB, e_calledB, e_calledBR, e_calledBX, e_backB, e_lkBack_nil, e_lkBack_cons, e_nbs_nil, e_nbs_cons, e_nb_f, e_nb_l, e_nb_o, e_nbF_nil, e_nbF_cons, e_nbs_map, e_makeL, e_madeBR, e_methL, e_methLR_f, e_toWs_nil, e_toWs_cons, e_lstW, e_lstWR, e_mPk, e_pkR_i, e_pkR_s, e_pkR_b, e_setP, e_nin_al, e_in_al, e_in_ft, e_in_fl, e_nin_ft, e_nin_fl, e_eqS, e_neS, e_eqB, e_neB, e_sl_s, e_handed_a, e_handedA, e_f1R_len, e_kR2, e_seqK_l, e_seqK_t, e_items_al, e_items_fl, e_items_ft, e_items_ol, e_tuple_v, e_tuple_a, e_tupA, e_tuple_l, e_tuple_t, e_list_l, e_list_t, e_list_o, e_aug, e_augA, e_addI, e_subI, e_chain, e_chR, e_chK, e_fldR_f, List.getElem?_cons_zero, List.getElem?_cons_succ, List.set_cons_zero, List.set_cons_succ, List.length_cons, List.length_nil, Option.map_some, Option.map_none, Option.bind_some, Option.bind_none, if_true, if_false, ite_true, ite_false, reduceIte, decide_true, decide_false, Bool.not_true, Bool.not_false, Bool.and_true, Bool.true_and, Bool.and_false, Bool.false_and, Bool.or_true, Bool.true_or, Bool.or_false, Bool.false_or, ne_eq, not_false_eq_true, not_true_eq_false, Option.some.injEq, reduceCtorEq, and_self, and_true, true_and, Bool.false_eq_true, List.nil_append, List.cons_append, List.append_nil, decide_eq_true_eq, m_Marking_write, f1, hl, e2, ix]
theorem accuses_is (es : List En) (k : Nat) (h : k < es.length) (t : Str) : fn_Marking_accuses K A [.frz (mkD A.Marking es), iW (k : Nat), .frz (.str t)] = .ok (.frz (.bl (decide (t ∈ es[k].a)))) [] := by
  have e2 := below_is (K := K) (A := A) (k : Nat) (es.length : Nat) (by omega) (by omega)
  have f1 := fun L : Lc => fld_e (L := L) (A := A) es
  have ix := fun L : Lc => ix_fT (L := L) (tD_get h)
  have hl : lenD (.tup (es.map tD)) = some (.int (es.length : Nat)) := by show some (D.int ((es.map tD).length : Nat)) = _; rw [List.length_map]
  have hd : decide (t ∈ sortS es[k].a) = decide (t ∈ es[k].a) := decide_eq_decide.mpr (sortS_perm _).mem_iff
  refine run_ret (m := m_Marking_accuses K A) (L0 := [some (.frz (mkD A.Marking es)), some (iW (k : Nat)), some (.frz (.str t))]) (L := [some (.frz (mkD A.Marking es)), some (iW (k : Nat)), some (.frz (.str t))]) ?_
  generalize mkD A.Marking es = mk at *
  generalize es.map tD = et at *
  generalize ((k : Nat) : Int) = k1 at *
  generalize ((es.length : Nat) : Int) = l1 at *
  simp (decide := true) only [e_bind, e_then, e_badb, e_var, e_lk_f, e_lk_b, e_lk_l, e_lk_t, e_lk_o, e_C, e_op, e_seq, e_seq_n, e_seq_r, e_seq_b, e_seq_c, e_nil, e_brk, e_exp, e_set, e_asgn, e_ret, e_handed, e_if, e_ifE, e_mBl, e_blR, e_not, e_and, e_or, e_andV, e_orV, e_notV, e_tru, e_truR, e_add, e_sub, e_mul, e_div, e_mod, e_pow, e_lt, e_gt, e_le, e_ge, e_eq, e_ne, e_neg, e_nilA, e_cons, e_callB, e_f1, e_len_str, e_len_lst, e_len_lok, e_len_tup, e_int, e_abs, e_par, e_no, e_while, e_for, e_gNm, e_range1, e_range2, e_rg1, e_rg2, e_slotW, e_get_v, e_get_a, e_fr_f, e_toFv, e_toF_v, e_toF_a, e_toFb, e_toFa, e_fr_l, e_fr_o, e_frs_nil, e_frs_frz, e_frs_cons, e_frF_nil, e_frF_cons, e_prep_nil, e_prep_f, e_prep_t, e_prepT, e_prep_v, e_called, e_calledR, e_bkR, e_back_nil, e_back_cons, e_call, e_callR, e_madeF, e_make, e_fld, e_fldSet, e_fldSetR, e_meth, e_f1l, e_f1a, e_rd_f, e_mkK, e_yes, e_toW, e_toFs_nil, e_toFs_cons, e_tup, e_lst, e_tupR, e_lstR, e_scR, e_f2, e_kR0, e_kR1, e_bits, e_bitsR, e_bm, e_bm_l, e_bm_s, e_app, e_appR, e_asg, e_seqG, e_gsc, e_gsn, e_gTp, e_exc_try, e_turnR_n, e_turnR_c, e_turnR_b, e_turnR_r, e_setIx, e_setA, e_setB, e_setC, e_iter, e_sl, e_pSome, e_pR, e_pNone, e_listR1, e_lr1, e_prepB_nil, e_prepB_cons, e_arg_ff, e_arg_la, e_lentA, e_arg_lf, e_arg_lb, e_arg_ta, e_ownA, e_arg_tv, e_callL, e_callRB, e_calledB, e_calledBR, e_calledBX, e_backB, e_lkBack_nil, e_lkBack_cons, e_nbs_nil, e_nbs_cons, e_nb_f, e_nb_l, e_nb_o, e_nbF_nil, e_nbF_cons, e_nbs_map, e_makeL, e_madeBR, e_methL, e_methLR_f, e_toWs_nil, e_toWs_cons, e_lstW, e_lstWR, e_mPk, e_pkR_i, e_pkR_s, e_pkR_b, e_setP, e_nin_al, e_in_al, e_in_ft, e_in_fl, e_nin_ft, e_nin_fl, e_eqS, e_neS, e_eqB, e_neB, e_sl_s, e_handed_a, e_handedA, e_f1R_len, e_kR2, e_seqK_l, e_seqK_t, e_items_al, e_items_fl, e_items_ft, e_items_ol, e_tuple_v, e_tuple_a, e_tupA, e_tuple_l, e_tuple_t, e_list_l, e_list_t, e_list_o, e_aug, e_augA, e_addI, e_subI, e_chain, e_chR, e_chK, e_fldR_f, List.getElem?_cons_zero, List.getElem?_cons_succ, List.set_cons_zero, List.set_cons_succ, List.length_cons, List.length_nil, Option.map_some, Option.map_none, Option.bind_some, Option.bind_none, if_true, if_false, ite_true, ite_false, reduceIte, decide_true, decide_false, Bool.not_true, Bool.not_false, Bool.and_true, Bool.true_and, Bool.and_false, Bool.false_and, Bool.or_true, Bool.true_or, Bool.or_false, Bool.false_or, ne_eq, not_false_eq_true, not_true_eq_false, Option.some.injEq, reduceCtorEq, and_self, and_true, true_and, Bool.false_eq_true, List.nil_append, List.cons_append, List.append_nil, decide_eq_true_eq, m_Marking_accuses, f1, hl, e2, ix, hd]
/-! the law's own -/
theorem eD_get {es : List En} {k : Nat} (h : k < es.length) : (es.map eD)[k]? = some (eD es[k]) := by rw [List.getElem?_map, List.getElem?_eq_getElem h]; rfl
theorem at_loop (es0 : List En) : ∀ (suf pre : List En) (n : Int) (s2 : Option W), es0 = pre ++ suf → 0 ≤ n → n < total suf →
    ∃ t1 t2, forL (gNm fl_l_at 2) (m_l_at_b1 K A) (intsW (pre.length : Nat) suf.length) [some (.frz (.lst (es0.map eD))), some (iW n), s2] = .ret (iW ((pre.length + atN suf n : Nat) : Int)) [some (.frz (.lst (es0.map eD))), t1, t2]
  | [], pre, n, s2, he, h0, h => by have : total [] = 0 := rfl; omega
  | e :: suf, pre, n, s2, he, h0, h => by
    rw [total_cons] at h
    have hk : pre.length < es0.length := by rw [he, List.length_append, List.length_cons]; omega
    have hg : es0[pre.length] = e := by simp [he]
    have ix := fun L : Lc => ix_fL (L := L) (eD_get hk)
    rw [hg] at ix
    rw [List.length_cons, intsW_succ]
    unfold atN
    by_cases c : n < e.w
    · rw [if_pos c, Nat.add_zero]
      refine ⟨some (iW n), some (iW (pre.length : Nat)), ?_⟩
      refine for_ret ?_ _
      rw [turn_is]
      generalize es0.map eD = ed at *
      generalize ((pre.length : Nat) : Int) = p1 at *
      simp (decide := true) only [e_bind, e_then, e_badb, e_var, e_lk_f, e_lk_b, e_lk_l, e_lk_t, e_lk_o, e_C, e_op, e_seq, e_seq_n, e_seq_r, e_seq_b, e_seq_c, e_nil, e_brk, e_exp, e_set, e_asgn, e_ret, e_handed, e_if, e_ifE, e_mBl, e_blR, e_not, e_and, e_or, e_andV, e_orV, e_notV, e_tru, e_truR, e_add, e_sub, e_mul, e_div, e_mod, e_pow, e_lt, e_gt, e_le, e_ge, e_eq, e_ne, e_neg, e_nilA, e_cons, e_callB, e_f1, e_len_str, e_len_lst, e_len_lok, e_len_tup, e_int, e_abs, e_par, e_no, e_while, e_for, e_gNm, e_range1, e_range2, e_rg1, e_rg2, e_slotW, e_get_v, e_get_a, e_fr_f, e_toFv, e_toF_v, e_toF_a, e_toFb, e_toFa, e_fr_l, e_fr_o, e_frs_nil, e_frs_frz, e_frs_cons, e_frF_nil, e_frF_cons, e_prep_nil, e_prep_f, e_prep_t, e_prepT, e_prep_v, e_called, e_calledR, e_bkR, e_back_nil, e_back_cons, e_call, e_callR, e_madeF, e_make, e_fld, e_fldSet, e_fldSetR, e_meth, e_f1l, e_f1a, e_rd_f, e_mkK, e_yes, e_toW, e_toFs_nil, e_toFs_cons, e_tup, e_lst, e_tupR, e_lstR, e_scR, e_f2, e_kR0, e_kR1, e_bits, e_bitsR, e_bm, e_bm_l, e_bm_s, e_app, e_appR, e_asg, e_seqG, e_gsc, e_gsn, e_gTp, e_exc_try, e_turnR_n, e_turnR_c, e_turnR_b, e_turnR_r, e_setIx, e_setA, e_setB, e_setC, e_iter, e_sl, e_pSome, e_pR, e_pNone, e_listR1, e_lr1, e_prepB_nil, e_prepB_cons, e_arg_ff, e_arg_la, e_lentA, e_arg_lf, e_arg_lb, e_arg_ta, e_ownA, e_arg_tv, e_callL, e_callRB, e_calledB, e_calledBR, e_calledBX, e_backB, e_lkBack_nil, e_lkBack_cons, e_nbs_nil, e_nbs_cons, e_nb_f, e_nb_l, e_nb_o, e_nbF_nil, e_nbF_cons, e_nbs_map, e_makeL, e_madeBR, e_methL, e_methLR_f, e_toWs_nil, e_toWs_cons, e_lstW, e_lstWR, e_mPk, e_pkR_i, e_pkR_s, e_pkR_b, e_setP, e_nin_al, e_in_al, e_in_ft, e_in_fl, e_nin_ft, e_nin_fl, e_eqS, e_neS, e_eqB, e_neB, e_sl_s, e_handed_a, e_handedA, e_f1R_len, e_kR2, e_seqK_l, e_seqK_t, e_items_al, e_items_fl, e_items_ft, e_items_ol, e_tuple_v, e_tuple_a, e_tupA, e_tuple_l, e_tuple_t, e_list_l, e_list_t, e_list_o, e_aug, e_augA, e_addI, e_subI, e_chain, e_chR, e_chK, e_fldR_f, List.getElem?_cons_zero, List.getElem?_cons_succ, List.set_cons_zero, List.set_cons_succ, List.length_cons, List.length_nil, Option.map_some, Option.map_none, Option.bind_some, Option.bind_none, if_true, if_false, ite_true, ite_false, reduceIte, decide_true, decide_false, Bool.not_true, Bool.not_false, Bool.and_true, Bool.true_and, Bool.and_false, Bool.false_and, Bool.or_true, Bool.true_or, Bool.or_false, Bool.false_or, ne_eq, not_false_eq_true, not_true_eq_false, Option.some.injEq, reduceCtorEq, and_self, and_true, true_and, Bool.false_eq_true, List.nil_append, List.cons_append, List.append_nil, decide_eq_true_eq, m_l_at_b1, ix, c]
    · rw [if_neg c]
      obtain ⟨t1, t2, e2⟩ := at_loop es0 suf (pre ++ [e]) (n - e.w) (some (iW (pre.length : Nat))) (by rw [he, List.append_assoc]; rfl) (by omega) (by omega)
      rw [List.length_append, List.length_singleton, Int.natCast_add] at e2
      refine ⟨t1, t2, ?_⟩
      have tt : turnF (gNm fl_l_at 2) (m_l_at_b1 K A) (.frz (.int (pre.length : Nat))) [some (.frz (.lst (es0.map eD))), some (iW n), s2] = .next [some (.frz (.lst (es0.map eD))), some (iW (n - e.w)), some (iW (pre.length : Nat))] := by
        rw [turn_is]
        generalize es0.map eD = ed at *
        generalize ((pre.length : Nat) : Int) = p1 at *
        simp (decide := true) only [e_bind, e_then, e_badb, e_var, e_lk_f, e_lk_b, e_lk_l, e_lk_t, e_lk_o, e_C, e_op, e_seq, e_seq_n, e_seq_r, e_seq_b, e_seq_c, e_nil, e_brk, e_exp, e_set, e_asgn, e_ret, e_handed, e_if, e_ifE, e_mBl, e_blR, e_not, e_and, e_or, e_andV, e_orV, e_notV, e_tru, e_truR, e_add, e_sub, e_mul, e_div, e_mod, e_pow, e_lt, e_gt, e_le, e_ge, e_eq, e_ne, e_neg, e_nilA, e_cons, e_callB, e_f1, e_len_str, e_len_lst, e_len_lok, e_len_tup, e_int, e_abs, e_par, e_no, e_while, e_for, e_gNm, e_range1, e_range2, e_rg1, e_rg2, e_slotW, e_get_v, e_get_a, e_fr_f, e_toFv, e_toF_v, e_toF_a, e_toFb, e_toFa, e_fr_l, e_fr_o, e_frs_nil, e_frs_frz, e_frs_cons, e_frF_nil, e_frF_cons, e_prep_nil, e_prep_f, e_prep_t, e_prepT, e_prep_v, e_called, e_calledR, e_bkR, e_back_nil, e_back_cons, e_call, e_callR, e_madeF, e_make, e_fld, e_fldSet, e_fldSetR, e_meth, e_f1l, e_f1a, e_rd_f, e_mkK, e_yes, e_toW, e_toFs_nil, e_toFs_cons, e_tup, e_lst, e_tupR, e_lstR, e_scR, e_f2, e_kR0, e_kR1, e_bits, e_bitsR, e_bm, e_bm_l, e_bm_s, e_app, e_appR, e_asg, e_seqG, e_gsc, e_gsn, e_gTp, e_exc_try, e_turnR_n, e_turnR_c, e_turnR_b, e_turnR_r, e_setIx, e_setA, e_setB, e_setC, e_iter, e_sl, e_pSome, e_pR, e_pNone, e_listR1, e_lr1, e_prepB_nil, e_prepB_cons, e_arg_ff, e_arg_la, e_lentA, e_arg_lf, e_arg_lb, e_arg_ta, e_ownA, e_arg_tv, e_callL, e_callRB, e_calledB, e_calledBR, e_calledBX, e_backB, e_lkBack_nil, e_lkBack_cons, e_nbs_nil, e_nbs_cons, e_nb_f, e_nb_l, e_nb_o, e_nbF_nil, e_nbF_cons, e_nbs_map, e_makeL, e_madeBR, e_methL, e_methLR_f, e_toWs_nil, e_toWs_cons, e_lstW, e_lstWR, e_mPk, e_pkR_i, e_pkR_s, e_pkR_b, e_setP, e_nin_al, e_in_al, e_in_ft, e_in_fl, e_nin_ft, e_nin_fl, e_eqS, e_neS, e_eqB, e_neB, e_sl_s, e_handed_a, e_handedA, e_f1R_len, e_kR2, e_seqK_l, e_seqK_t, e_items_al, e_items_fl, e_items_ft, e_items_ol, e_tuple_v, e_tuple_a, e_tupA, e_tuple_l, e_tuple_t, e_list_l, e_list_t, e_list_o, e_aug, e_augA, e_addI, e_subI, e_chain, e_chR, e_chK, e_fldR_f, List.getElem?_cons_zero, List.getElem?_cons_succ, List.set_cons_zero, List.set_cons_succ, List.length_cons, List.length_nil, Option.map_some, Option.map_none, Option.bind_some, Option.bind_none, if_true, if_false, ite_true, ite_false, reduceIte, decide_true, decide_false, Bool.not_true, Bool.not_false, Bool.and_true, Bool.true_and, Bool.and_false, Bool.false_and, Bool.or_true, Bool.true_or, Bool.or_false, Bool.false_or, ne_eq, not_false_eq_true, not_true_eq_false, Option.some.injEq, reduceCtorEq, and_self, and_true, true_and, Bool.false_eq_true, List.nil_append, List.cons_append, List.append_nil, decide_eq_true_eq, m_l_at_b1, ix, c]
      rw [for_next tt]
      have z1 : ((1 : Nat) : Int) = 1 := rfl
      rw [z1] at e2
      rw [e2, show pre.length + 1 + atN suf (n - e.w) = pre.length + (atN suf (n - e.w) + 1) by omega]
theorem at_is (es : List En) (hl : es.length < 1000) (n : Int) (h0 : 0 ≤ n) (h : n < total es) : fn_l_at K A [.frz (.lst (es.map eD)), iW n] = .ok (iW (atN es n : Nat)) [] := by
  obtain ⟨t1, t2, e1⟩ := at_loop (K := K) (A := A) es es [] n none rfl h0 h
  have z : ((([] : List En).length : Nat) : Int) = 0 := rfl
  rw [z, List.length_nil, Nat.zero_add] at e1
  have hlen : lenD (.lst (es.map eD)) = some (.int (es.length : Nat)) := by show some (D.int ((es.map eD).length : Nat)) = _; rw [List.length_map]
  have rk : SzR ((es.length : Nat) : Int) := szR (by omega) (by omega)
  have nk : (((es.length : Nat) : Int)).toNat = es.length := by omega
  refine run_ret (m := m_l_at K A) (L0 := [some (.frz (.lst (es.map eD))), some (iW n), none]) (L := [some (.frz (.lst (es.map eD))), t1, t2]) ?_
  generalize es.map eD = ed at *
  generalize ((es.length : Nat) : Int) = l1 at *
  simp (decide := true) only [e_bind, e_then, e_badb, e_var, e_lk_f, e_lk_b, e_lk_l, e_lk_t, e_lk_o, e_C, e_op, e_seq, e_seq_n, e_seq_r, e_seq_b, e_seq_c, e_nil, e_brk, e_exp, e_set, e_asgn, e_ret, e_handed, e_if, e_ifE, e_mBl, e_blR, e_not, e_and, e_or, e_andV, e_orV, e_notV, e_tru, e_truR, e_add, e_sub, e_mul, e_div, e_mod, e_pow, e_lt, e_gt, e_le, e_ge, e_eq, e_ne, e_neg, e_nilA, e_cons, e_callB, e_f1, e_len_str, e_len_lst, e_len_lok, e_len_tup, e_int, e_abs, e_par, e_no, e_while, e_for, e_gNm, e_range1, e_range2, e_rg1, e_rg2, e_slotW, e_get_v, e_get_a, e_fr_f, e_toFv, e_toF_v, e_toF_a, e_toFb, e_toFa, e_fr_l, e_fr_o, e_frs_nil, e_frs_frz, e_frs_cons, e_frF_nil, e_frF_cons, e_prep_nil, e_prep_f, e_prep_t, e_prepT, e_prep_v, e_called, e_calledR, e_bkR, e_back_nil, e_back_cons, e_call, e_callR, e_madeF, e_make, e_fld, e_fldSet, e_fldSetR, e_meth, e_f1l, e_f1a, e_rd_f, e_mkK, e_yes, e_toW, e_toFs_nil, e_toFs_cons, e_tup, e_lst, e_tupR, e_lstR, e_scR, e_f2, e_kR0, e_kR1, e_bits, e_bitsR, e_bm, e_bm_l, e_bm_s, e_app, e_appR, e_asg, e_seqG, e_gsc, e_gsn, e_gTp, e_exc_try, e_turnR_n, e_turnR_c, e_turnR_b, e_turnR_r, e_setIx, e_setA, e_setB, e_setC, e_iter, e_sl, e_pSome, e_pR, e_pNone, e_listR1, e_lr1, e_prepB_nil, e_prepB_cons, e_arg_ff, e_arg_la, e_lentA, e_arg_lf, e_arg_lb, e_arg_ta, e_ownA, e_arg_tv, e_callL, e_callRB, e_calledB, e_calledBR, e_calledBX, e_backB, e_lkBack_nil, e_lkBack_cons, e_nbs_nil, e_nbs_cons, e_nb_f, e_nb_l, e_nb_o, e_nbF_nil, e_nbF_cons, e_nbs_map, e_makeL, e_madeBR, e_methL, e_methLR_f, e_toWs_nil, e_toWs_cons, e_lstW, e_lstWR, e_mPk, e_pkR_i, e_pkR_s, e_pkR_b, e_setP, e_nin_al, e_in_al, e_in_ft, e_in_fl, e_nin_ft, e_nin_fl, e_eqS, e_neS, e_eqB, e_neB, e_sl_s, e_handed_a, e_handedA, e_f1R_len, e_kR2, e_seqK_l, e_seqK_t, e_items_al, e_items_fl, e_items_ft, e_items_ol, e_tuple_v, e_tuple_a, e_tupA, e_tuple_l, e_tuple_t, e_list_l, e_list_t, e_list_o, e_aug, e_augA, e_addI, e_subI, e_chain, e_chR, e_chK, e_fldR_f, List.getElem?_cons_zero, List.getElem?_cons_succ, List.set_cons_zero, List.set_cons_succ, List.length_cons, List.length_nil, Option.map_some, Option.map_none, Option.bind_some, Option.bind_none, if_true, if_false, ite_true, ite_false, reduceIte, decide_true, decide_false, Bool.not_true, Bool.not_false, Bool.and_true, Bool.true_and, Bool.and_false, Bool.false_and, Bool.or_true, Bool.true_or, Bool.or_false, Bool.false_or, ne_eq, not_false_eq_true, not_true_eq_false, Option.some.injEq, reduceCtorEq, and_self, and_true, true_and, Bool.false_eq_true, List.nil_append, List.cons_append, List.append_nil, decide_eq_true_eq, m_l_at, hlen, rk, nk, e1]
theorem keys_are_is (es : List En) (hl : es.length < 1000) (ns : List Int) (h : ∀ n ∈ ns, 0 ≤ n ∧ n < total es) :
    fn_l_keys_are K A [.frz (mkD A.Marking es), .frz (.lst (es.map eD)), .frz (.lst (ns.map D.int))] = .ok (.frz (.bl true)) [] := by
  obtain ⟨L1, e1, t3, t4, rfl⟩ := for_all (g := gNm fl_l_keys_are 3) (body := m_l_keys_are_b1 K A) (ws := (ns.map D.int).map .frz) (L := [some (.frz (mkD A.Marking es)), some (.frz (.lst (es.map eD))), some (.frz (.lst (ns.map D.int))), none, none])
    (fun i L => ∃ t3 t4, L = [some (.frz (mkD A.Marking es)), some (.frz (.lst (es.map eD))), some (.frz (.lst (ns.map D.int))), t3, t4])
    (fun i w L hw ⟨t3, t4, e⟩ => by
      rw [List.getElem?_map, List.getElem?_map] at hw
      obtain ⟨d, hd, rfl⟩ := map_some hw
      obtain ⟨n, hn, rfl⟩ := map_some hd
      subst e
      obtain ⟨h0, h1⟩ := h n (List.mem_of_getElem? hn)
      have e1 := key_of_is (K := K) (A := A) es n h0 h1
      have e2 := at_is (K := K) (A := A) es hl n h0 h1
      have e3 := integer_is (K := K) (A := A) (atN es n : Nat)
      have mm := fun (r : R) (mr : M (List R)) (L : Lc) => methR_of (L := L) (fl := fl_Marking_key_of) (fn := fn_Marking_key_of K A) (m := "key_of") (r := r) (w := .frz (mkD A.Marking es)) (C := A.Marking) (mr := mr) rfl rfl
      refine ⟨_, ?_, some (iW n), some (iW (atN es n : Nat)), rfl⟩
      rw [turn_is]
      generalize mkD A.Marking es = mk at *
      generalize es.map eD = ed at *
      generalize ns.map D.int = nd at *
      generalize ((atN es n : Nat) : Int) = k1 at *
      simp (decide := true) only [e_bind, e_then, e_badb, e_var, e_lk_f, e_lk_b, e_lk_l, e_lk_t, e_lk_o, e_C, e_op, e_seq, e_seq_n, e_seq_r, e_seq_b, e_seq_c, e_nil, e_brk, e_exp, e_set, e_asgn, e_ret, e_handed, e_if, e_ifE, e_mBl, e_blR, e_not, e_and, e_or, e_andV, e_orV, e_notV, e_tru, e_truR, e_add, e_sub, e_mul, e_div, e_mod, e_pow, e_lt, e_gt, e_le, e_ge, e_eq, e_ne, e_neg, e_nilA, e_cons, e_callB, e_f1, e_len_str, e_len_lst, e_len_lok, e_len_tup, e_int, e_abs, e_par, e_no, e_while, e_for, e_gNm, e_range1, e_range2, e_rg1, e_rg2, e_slotW, e_get_v, e_get_a, e_fr_f, e_toFv, e_toF_v, e_toF_a, e_toFb, e_toFa, e_fr_l, e_fr_o, e_frs_nil, e_frs_frz, e_frs_cons, e_frF_nil, e_frF_cons, e_prep_nil, e_prep_f, e_prep_t, e_prepT, e_prep_v, e_called, e_calledR, e_bkR, e_back_nil, e_back_cons, e_call, e_callR, e_madeF, e_make, e_fld, e_fldSet, e_fldSetR, e_meth, e_f1l, e_f1a, e_rd_f, e_mkK, e_yes, e_toW, e_toFs_nil, e_toFs_cons, e_tup, e_lst, e_tupR, e_lstR, e_scR, e_f2, e_kR0, e_kR1, e_bits, e_bitsR, e_bm, e_bm_l, e_bm_s, e_app, e_appR, e_asg, e_seqG, e_gsc, e_gsn, e_gTp, e_exc_try, e_turnR_n, e_turnR_c, e_turnR_b, e_turnR_r, e_setIx, e_setA, e_setB, e_setC, e_iter, e_sl, e_pSome, e_pR, e_pNone, e_listR1, e_lr1, e_prepB_nil, e_prepB_cons, e_arg_ff, e_arg_la, e_lentA, e_arg_lf, e_arg_lb, e_arg_ta, e_ownA, e_arg_tv, e_callL, e_callRB, e_calledB, e_calledBR, e_calledBX, e_backB, e_lkBack_nil, e_lkBack_cons, e_nbs_nil, e_nbs_cons, e_nb_f, e_nb_l, e_nb_o, e_nbF_nil, e_nbF_cons, e_nbs_map, e_makeL, e_madeBR, e_methL, e_methLR_f, e_toWs_nil, e_toWs_cons, e_lstW, e_lstWR, e_mPk, e_pkR_i, e_pkR_s, e_pkR_b, e_setP, e_nin_al, e_in_al, e_in_ft, e_in_fl, e_nin_ft, e_nin_fl, e_eqS, e_neS, e_eqB, e_neB, e_sl_s, e_handed_a, e_handedA, e_f1R_len, e_kR2, e_seqK_l, e_seqK_t, e_items_al, e_items_fl, e_items_ft, e_items_ol, e_tuple_v, e_tuple_a, e_tupA, e_tuple_l, e_tuple_t, e_list_l, e_list_t, e_list_o, e_aug, e_augA, e_addI, e_subI, e_chain, e_chR, e_chK, e_fldR_f, List.getElem?_cons_zero, List.getElem?_cons_succ, List.set_cons_zero, List.set_cons_succ, List.length_cons, List.length_nil, Option.map_some, Option.map_none, Option.bind_some, Option.bind_none, if_true, if_false, ite_true, ite_false, reduceIte, decide_true, decide_false, Bool.not_true, Bool.not_false, Bool.and_true, Bool.true_and, Bool.and_false, Bool.false_and, Bool.or_true, Bool.true_or, Bool.or_false, Bool.false_or, ne_eq, not_false_eq_true, not_true_eq_false, Option.some.injEq, reduceCtorEq, and_self, and_true, true_and, Bool.false_eq_true, List.nil_append, List.cons_append, List.append_nil, decide_eq_true_eq, m_l_keys_are_b1, mm, e1, e2, e3])
    ⟨none, none, rfl⟩
  refine run_ret (m := m_l_keys_are K A) (L0 := [some (.frz (mkD A.Marking es)), some (.frz (.lst (es.map eD))), some (.frz (.lst (ns.map D.int))), none, none]) (L := [some (.frz (mkD A.Marking es)), some (.frz (.lst (es.map eD))), some (.frz (.lst (ns.map D.int))), t3, t4]) ?_
  generalize mkD A.Marking es = mk at *
  generalize es.map eD = ed at *
  have it := fun L : Lc => e_items_fl (L := L) (ns.map D.int)
  generalize (ns.map D.int).map W.frz = nw at *
  generalize ns.map D.int = nd at *
  simp (decide := true) only [e_bind, e_then, e_badb, e_var, e_lk_f, e_lk_b, e_lk_l, e_lk_t, e_lk_o, e_C, e_op, e_seq, e_seq_n, e_seq_r, e_seq_b, e_seq_c, e_nil, e_brk, e_exp, e_set, e_asgn, e_ret, e_handed, e_if, e_ifE, e_mBl, e_blR, e_not, e_and, e_or, e_andV, e_orV, e_notV, e_tru, e_truR, e_add, e_sub, e_mul, e_div, e_mod, e_pow, e_lt, e_gt, e_le, e_ge, e_eq, e_ne, e_neg, e_nilA, e_cons, e_callB, e_f1, e_len_str, e_len_lst, e_len_lok, e_len_tup, e_int, e_abs, e_par, e_no, e_while, e_for, e_gNm, e_range1, e_range2, e_rg1, e_rg2, e_slotW, e_get_v, e_get_a, e_fr_f, e_toFv, e_toF_v, e_toF_a, e_toFb, e_toFa, e_fr_l, e_fr_o, e_frs_nil, e_frs_frz, e_frs_cons, e_frF_nil, e_frF_cons, e_prep_nil, e_prep_f, e_prep_t, e_prepT, e_prep_v, e_called, e_calledR, e_bkR, e_back_nil, e_back_cons, e_call, e_callR, e_madeF, e_make, e_fld, e_fldSet, e_fldSetR, e_meth, e_f1l, e_f1a, e_rd_f, e_mkK, e_yes, e_toW, e_toFs_nil, e_toFs_cons, e_tup, e_lst, e_tupR, e_lstR, e_scR, e_f2, e_kR0, e_kR1, e_bits, e_bitsR, e_bm, e_bm_l, e_bm_s, e_app, e_appR, e_asg, e_seqG, e_gsc, e_gsn, e_gTp, e_exc_try, e_turnR_n, e_turnR_c, e_turnR_b, e_turnR_r, e_setIx, e_setA, e_setB, e_setC, e_iter, e_sl, e_pSome, e_pR, e_pNone, e_listR1, e_lr1, e_prepB_nil, e_prepB_cons, e_arg_ff, e_arg_la, e_lentA, e_arg_lf, e_arg_lb, e_arg_ta, e_ownA, e_arg_tv, e_callL, e_callRB, e_calledB, e_calledBR, e_calledBX, e_backB, e_lkBack_nil, e_lkBack_cons, e_nbs_nil, e_nbs_cons, e_nb_f, e_nb_l, e_nb_o, e_nbF_nil, e_nbF_cons, e_nbs_map, e_makeL, e_madeBR, e_methL, e_methLR_f, e_toWs_nil, e_toWs_cons, e_lstW, e_lstWR, e_mPk, e_pkR_i, e_pkR_s, e_pkR_b, e_setP, e_nin_al, e_in_al, e_in_ft, e_in_fl, e_nin_ft, e_nin_fl, e_eqS, e_neS, e_eqB, e_neB, e_sl_s, e_handed_a, e_handedA, e_f1R_len, e_kR2, e_seqK_l, e_seqK_t, e_items_al, e_items_fl, e_items_ft, e_items_ol, e_tuple_v, e_tuple_a, e_tupA, e_tuple_l, e_tuple_t, e_list_l, e_list_t, e_list_o, e_aug, e_augA, e_addI, e_subI, e_chain, e_chR, e_chK, e_fldR_f, List.getElem?_cons_zero, List.getElem?_cons_succ, List.set_cons_zero, List.set_cons_succ, List.length_cons, List.length_nil, Option.map_some, Option.map_none, Option.bind_some, Option.bind_none, if_true, if_false, ite_true, ite_false, reduceIte, decide_true, decide_false, Bool.not_true, Bool.not_false, Bool.and_true, Bool.true_and, Bool.and_false, Bool.false_and, Bool.or_true, Bool.true_or, Bool.or_false, Bool.false_or, ne_eq, not_false_eq_true, not_true_eq_false, Option.some.injEq, reduceCtorEq, and_self, and_true, true_and, Bool.false_eq_true, List.nil_append, List.cons_append, List.append_nil, decide_eq_true_eq, m_l_keys_are, it, e1]
end
end L

set_option exponentiation.threshold 20000
namespace L
open PySem PySem.Spec PyProof.Rows L2 BV
theorem total_take : ∀ (es : List En) (i : Nat), (∀ e ∈ es, 1 ≤ e.w) → 0 ≤ total (es.take i) ∧ total (es.take i) ≤ total es
  | [], i, _ => by rw [List.take_nil]; exact ⟨Int.le_refl 0, Int.le_refl _⟩
  | e :: es, 0, h => by
    rw [List.take_zero]
    have := total_nn (e :: es) h
    exact ⟨Int.le_refl 0, by show 0 ≤ _; omega⟩
  | e :: es, i + 1, h => by
    rw [List.take_succ_cons, total_cons, total_cons]
    have ⟨a, b⟩ := total_take es i fun x hx => h x (List.mem_cons_of_mem _ hx)
    have := h e List.mem_cons_self
    exact ⟨by omega, by omega⟩
theorem take_snoc (es : List En) {i : Nat} {e : En} (h : es[i]? = some e) : es.take (i + 1) = es.take i ++ [e] := by rw [List.take_add_one, h]; rfl
/-- over the numbers: the keys that P takes -/
def pk (P : En → Bool) (es : List En) (m : Int) : Bool := match es[atN es m]? with
  | some e => P e
  | none => false
def cntP (P : En → Bool) (es : List En) (N : Nat) : Nat := (List.range N).countP fun m => pk P es (m : Nat)
theorem cntP_succ (P : En → Bool) (es : List En) (N : Nat) : cntP P es (N + 1) = cntP P es N + if pk P es (N : Nat) = true then 1 else 0 := by
  unfold cntP
  rw [List.range_succ, List.countP_append, List.countP_singleton]
theorem cntP_is (P : En → Bool) : ∀ (es : List En), (∀ e ∈ es, 1 ≤ e.w) → ((cntP P es (total es).toNat : Nat) : Int) = ((es.filter P).map (·.w)).sum
  | [], _ => rfl
  | e :: es, h => by
    have he := h e List.mem_cons_self
    have ih := cntP_is P es fun x hx => h x (List.mem_cons_of_mem _ hx)
    have hn := total_nn es fun x hx => h x (List.mem_cons_of_mem _ hx)
    have e1 : (total (e :: es)).toNat = e.w.toNat + (total es).toNat := by rw [total_cons]; omega
    unfold cntP at ih ⊢
    rw [e1, List.range_add, List.countP_append, List.countP_map]
    have c1 : (List.range e.w.toNat).countP (fun m => pk P (e :: es) (m : Nat)) = if P e = true then e.w.toNat else 0 := by
      have : ∀ m ∈ List.range e.w.toNat, pk P (e :: es) (m : Nat) = P e := fun m hm => by
        rw [List.mem_range] at hm
        unfold pk atN
        rw [if_pos (by omega)]
        rfl
      have e2 : (List.range e.w.toNat).countP (fun m => pk P (e :: es) (m : Nat)) = (List.range e.w.toNat).countP fun _ => P e := List.countP_congr fun m hm => by rw [this m hm]
      rw [e2]
      cases hp : P e with
      | true => rw [if_pos rfl, List.countP_eq_length.mpr (fun _ _ => rfl), List.length_range]
      | false => rw [if_neg (by decide), List.countP_eq_zero.mpr (fun _ _ => by decide)]
    have c2 : (List.range (total es).toNat).countP ((fun m => pk P (e :: es) (m : Nat)) ∘ fun x => e.w.toNat + x) = (List.range (total es).toNat).countP fun m => pk P es (m : Nat) := List.countP_congr fun m hm => by
      show pk P (e :: es) ((e.w.toNat + m : Nat) : Int) = true ↔ _
      have : pk P (e :: es) ((e.w.toNat + m : Nat) : Int) = pk P es (m : Nat) := by
        unfold pk
        rw [show atN (e :: es) ((e.w.toNat + m : Nat) : Int) = atN es (m : Nat) + 1 by
          unfold atN
          rw [if_neg (by omega), show ((e.w.toNat + m : Nat) : Int) - e.w = (m : Nat) by omega]
          cases es <;> rfl]
        rfl
      rw [this]
    rw [c1, c2, Int.natCast_add, ih]
    cases hp : P e with
    | true => rw [if_pos rfl, List.filter_cons_of_pos hp, List.map_cons, List.sum_cons]; omega
    | false => rw [if_neg (by decide), List.filter_cons_of_neg (by rw [hp]; decide)]; simp
section
variable {K : PySem.W.Frag} {A : Ad}
theorem numbers_is {s : DS} (h : s.Ok) (es : List En) (hw : ∀ e ∈ es, 1 ≤ e.w) (he : 0 < es.length) (hl : es.length ≤ 60) :
    ∃ (s' : DS) (ns : List Int), fn_l_numbers K A [stW s, .frz (.lst (es.map eD)), iW (total es)] = .ok (oL (ns.map D.int)) [stW s'] ∧ s'.Ok ∧ (∀ n ∈ ns, 0 ≤ n ∧ n < total es) ∧ 0 < ns.length ∧ ns.length < 1000 := by
  have ht := total_nn es hw
  by_cases c : total es ≤ 40
  · refine ⟨s, (List.range (total es).toNat).map fun k => ((k : Nat) : Int), ?_, h, fun n hn => ?_, by rw [List.length_map, List.length_range]; omega, by rw [List.length_map, List.length_range]; omega⟩
    · have rg : RgOk 0 (total es) := ⟨by omega, by omega, by omega, by omega, by omega⟩
      unfold oL
      rw [← intsW_oL]
      refine run_ret (m := m_l_numbers K A) (L0 := [some (stW s), some (.frz (.lst (es.map eD))), some (iW (total es)), none, none, none, none, none, none]) (L := [some (stW s), some (.frz (.lst (es.map eD))), some (iW (total es)), none, none, none, none, none, none]) ?_
      generalize es.map eD = ed at *
      simp (decide := true) only [e_bind, e_then, e_badb, e_var, e_lk_f, e_lk_b, e_lk_l, e_lk_t, e_lk_o, e_C, e_op, e_seq, e_seq_n, e_seq_r, e_seq_b, e_seq_c, e_nil, e_brk, e_exp, e_set, e_asgn, e_ret, e_handed, e_if, e_ifE, e_mBl, e_blR, e_not, e_and, e_or, e_andV, e_orV, e_notV, e_tru, e_truR, e_add, e_sub, e_mul, e_div, e_mod, e_pow, e_lt, e_gt, e_le, e_ge, e_eq, e_ne, e_neg, e_nilA, e_cons, e_callB, e_f1, e_len_str, e_len_lst, e_len_lok, e_len_tup, e_int, e_abs, e_par, e_no, e_while, e_for, e_gNm, e_range1, e_range2, e_rg1, e_rg2, e_slotW, e_get_v, e_get_a, e_fr_f, e_toFv, e_toF_v, e_toF_a, e_toFb, e_toFa, e_fr_l, e_fr_o, e_frs_nil, e_frs_frz, e_frs_cons, e_frF_nil, e_frF_cons, e_prep_nil, e_prep_f, e_prep_t, e_prepT, e_prep_v, e_called, e_calledR, e_bkR, e_back_nil, e_back_cons, e_call, e_callR, e_madeF, e_make, e_fld, e_fldSet, e_fldSetR, e_meth, e_f1l, e_f1a, e_rd_f, e_mkK, e_yes, e_toW, e_toFs_nil, e_toFs_cons, e_tup, e_lst, e_tupR, e_lstR, e_scR, e_f2, e_kR0, e_kR1, e_bits, e_bitsR, e_bm, e_bm_l, e_bm_s, e_app, e_appR, e_asg, e_seqG, e_gsc, e_gsn, e_gTp, e_exc_try, e_turnR_n, e_turnR_c, e_turnR_b, e_turnR_r, e_setIx, e_setA, e_setB, e_setC, e_iter, e_sl, e_pSome, e_pR, e_pNone, e_listR1, e_lr1, e_prepB_nil, e_prepB_cons, e_arg_ff, e_arg_la, e_lentA, e_arg_lf, e_arg_lb, e_arg_ta, e_ownA, e_arg_tv, e_callL, e_callRB, e_calledB, e_calledBR, e_calledBX, e_backB, e_lkBack_nil, e_lkBack_cons, e_nbs_nil, e_nbs_cons, e_nb_f, e_nb_l, e_nb_o, e_nbF_nil, e_nbF_cons, e_nbs_map, e_makeL, e_madeBR, e_methL, e_methLR_f, e_toWs_nil, e_toWs_cons, e_lstW, e_lstWR, e_mPk, e_pkR_i, e_pkR_s, e_pkR_b, e_setP, e_nin_al, e_in_al, e_in_ft, e_in_fl, e_nin_ft, e_nin_fl, e_eqS, e_neS, e_eqB, e_neB, e_sl_s, e_handed_a, e_handedA, e_f1R_len, e_kR2, e_seqK_l, e_seqK_t, e_items_al, e_items_fl, e_items_ft, e_items_ol, e_tuple_v, e_tuple_a, e_tupA, e_tuple_l, e_tuple_t, e_list_l, e_list_t, e_list_o, e_aug, e_augA, e_addI, e_subI, e_chain, e_chR, e_chK, e_fldR_f, List.getElem?_cons_zero, List.getElem?_cons_succ, List.set_cons_zero, List.set_cons_succ, List.length_cons, List.length_nil, Option.map_some, Option.map_none, Option.bind_some, Option.bind_none, if_true, if_false, ite_true, ite_false, reduceIte, decide_true, decide_false, Bool.not_true, Bool.not_false, Bool.and_true, Bool.true_and, Bool.and_false, Bool.false_and, Bool.or_true, Bool.true_or, Bool.or_false, Bool.false_or, ne_eq, not_false_eq_true, not_true_eq_false, Option.some.injEq, reduceCtorEq, and_self, and_true, true_and, Bool.false_eq_true, List.nil_append, List.cons_append, List.append_nil, decide_eq_true_eq, m_l_numbers, c, rg]
    · obtain ⟨k, hk, rfl⟩ := List.mem_map.mp hn
      rw [List.mem_range] at hk
      omega
  · obtain ⟨L1, e1, ns, t6, t7, t8, rfl, hns, hlen⟩ := for_all (g := gTp 3 (gsCons (gNm fl_l_numbers 6) (gsCons (gNm fl_l_numbers 7) (gsCons (gNm fl_l_numbers 8) gsNil)))) (body := m_l_numbers_b1 K A) (ws := (es.map eD).map .frz) (L := [some (stW s), some (.frz (.lst (es.map eD))), some (iW (total es)), some (oL (([] : List Int).map D.int)), some (iW 0), none, none, none, none])
      (fun i L => ∃ (ns : List Int) (t6 t7 t8 : Option W), L = [some (stW s), some (.frz (.lst (es.map eD))), some (iW (total es)), some (oL (ns.map D.int)), some (iW (total (es.take i))), none, t6, t7, t8] ∧ (∀ n ∈ ns, 0 ≤ n ∧ n < total es) ∧ ns.length = 2 * i)
      (fun i w L hw2 ⟨ns, t6, t7, t8, e, hns, hlen⟩ => by
        rw [List.getElem?_map, List.getElem?_map] at hw2
        obtain ⟨d, hd, rfl⟩ := map_some hw2
        obtain ⟨x, hx, rfl⟩ := map_some hd
        subst e
        have hi := (List.getElem?_eq_some_iff.mp hx).1
        have x1 := hw x (List.mem_of_getElem? hx)
        have tk := total_take es i hw
        have tk2 := total_take es (i + 1) hw
        rw [take_snoc es hx, total_snoc] at tk2 ⊢
        have t3 := fun (gs : List W → MS) (L : Lc) => gTp_of (L := L) (gs := gs) (n := 3) (w := .frz (eD x)) (ws := [.frz (.int x.w), .frz (.str x.t), .frz (.lst (sD x.a))]) rfl rfl
        have hsz : ((ns.map D.int).map W.frz).length < sizeLine := by rw [List.length_map, List.length_map]; exact small1000 (by omega)
        have hsz2 : ((ns.map D.int).map W.frz ++ [W.frz (.int (total (es.take i)))]).length < sizeLine := by rw [List.length_append, List.length_map, List.length_map, List.length_singleton]; exact small1000 (by omega)
        refine ⟨_, ?_, ns ++ [total (es.take i), total (es.take i) + x.w - 1], some (iW x.w), some (.frz (.str x.t)), some (.frz (.lst (sD x.a))), rfl, fun n hn => ?_, by simp [hlen]; omega⟩
        · rw [turn_is, show (ns ++ [total (es.take i), total (es.take i) + x.w - 1]).map D.int = ns.map D.int ++ [.int (total (es.take i))] ++ [.int (total (es.take i) + x.w - 1)] by simp, oL_snoc, List.map_append]
          unfold oL at *
          show _ = SRes.next [some (stW s), some (.frz (.lst (es.map eD))), some (iW (total es)), some (.olst ((ns.map D.int).map W.frz ++ [.frz (.int (total (es.take i)))] ++ [.frz (.int (total (es.take i) + x.w - 1))])), some (iW (total (es.take i) + x.w)), none, some (iW x.w), some (.frz (.str x.t)), some (.frz (.lst (sD x.a)))]
          generalize (ns.map D.int).map W.frz = nw at *
          generalize total (es.take i) = ti at *
          generalize total es = te at *
          generalize es.map eD = ed at *
          generalize eD x = xd at *
          generalize D.lst (sD x.a) = xa at *
          have lk := fun L : Lc => fun ws : List W => e_lk_l (L := L) 3 ws
          simp (decide := true) only [e_bind, e_then, e_badb, e_var, e_lk_f, e_lk_b, e_lk_l, e_lk_t, e_lk_o, e_C, e_op, e_seq, e_seq_n, e_seq_r, e_seq_b, e_seq_c, e_nil, e_brk, e_exp, e_set, e_asgn, e_ret, e_handed, e_if, e_ifE, e_mBl, e_blR, e_not, e_and, e_or, e_andV, e_orV, e_notV, e_tru, e_truR, e_add, e_sub, e_mul, e_div, e_mod, e_pow, e_lt, e_gt, e_le, e_ge, e_eq, e_ne, e_neg, e_nilA, e_cons, e_callB, e_f1, e_len_str, e_len_lst, e_len_lok, e_len_tup, e_int, e_abs, e_par, e_no, e_while, e_for, e_gNm, e_range1, e_range2, e_rg1, e_rg2, e_slotW, e_get_v, e_get_a, e_fr_f, e_toFv, e_toF_v, e_toF_a, e_toFb, e_toFa, e_fr_l, e_fr_o, e_frs_nil, e_frs_frz, e_frs_cons, e_frF_nil, e_frF_cons, e_prep_nil, e_prep_f, e_prep_t, e_prepT, e_prep_v, e_called, e_calledR, e_bkR, e_back_nil, e_back_cons, e_call, e_callR, e_madeF, e_make, e_fld, e_fldSet, e_fldSetR, e_meth, e_f1l, e_f1a, e_rd_f, e_mkK, e_yes, e_toW, e_toFs_nil, e_toFs_cons, e_tup, e_lst, e_tupR, e_lstR, e_scR, e_f2, e_kR0, e_kR1, e_bits, e_bitsR, e_bm, e_bm_l, e_bm_s, e_app, e_appR, e_asg, e_seqG, e_gsc, e_gsn, e_gTp, e_exc_try, e_turnR_n, e_turnR_c, e_turnR_b, e_turnR_r, e_setIx, e_setA, e_setB, e_setC, e_iter, e_sl, e_pSome, e_pR, e_pNone, e_listR1, e_lr1, e_prepB_nil, e_prepB_cons, e_arg_ff, e_arg_la, e_lentA, e_arg_lf, e_arg_lb, e_arg_ta, e_ownA, e_arg_tv, e_callL, e_callRB, e_calledB, e_calledBR, e_calledBX, e_backB, e_lkBack_nil, e_lkBack_cons, e_nbs_nil, e_nbs_cons, e_nb_f, e_nb_l, e_nb_o, e_nbF_nil, e_nbF_cons, e_nbs_map, e_makeL, e_madeBR, e_methL, e_methLR_f, e_toWs_nil, e_toWs_cons, e_lstW, e_lstWR, e_mPk, e_pkR_i, e_pkR_s, e_pkR_b, e_setP, e_nin_al, e_in_al, e_in_ft, e_in_fl, e_nin_ft, e_nin_fl, e_eqS, e_neS, e_eqB, e_neB, e_sl_s, e_handed_a, e_handedA, e_f1R_len, e_kR2, e_seqK_l, e_seqK_t, e_items_al, e_items_fl, e_items_ft, e_items_ol, e_tuple_v, e_tuple_a, e_tupA, e_tuple_l, e_tuple_t, e_list_l, e_list_t, e_list_o, e_aug, e_augA, e_addI, e_subI, e_chain, e_chR, e_chK, e_fldR_f, List.getElem?_cons_zero, List.getElem?_cons_succ, List.set_cons_zero, List.set_cons_succ, List.length_cons, List.length_nil, Option.map_some, Option.map_none, Option.bind_some, Option.bind_none, if_true, if_false, ite_true, ite_false, reduceIte, decide_true, decide_false, Bool.not_true, Bool.not_false, Bool.and_true, Bool.true_and, Bool.and_false, Bool.false_and, Bool.or_true, Bool.true_or, Bool.or_false, Bool.false_or, ne_eq, not_false_eq_true, not_true_eq_false, Option.some.injEq, reduceCtorEq, and_self, and_true, true_and, Bool.false_eq_true, List.nil_append, List.cons_append, List.append_nil, decide_eq_true_eq, m_l_numbers_b1, t3, lk, hsz, hsz2]
        · rcases List.mem_append.mp hn with h | h
          · exact hns n h
          · have : n = total (es.take i) ∨ n = total (es.take i) + x.w - 1 := by simpa using h
            rcases this with rfl | rfl <;> omega)
      ⟨[], none, none, none, rfl, (fun n hn => by cases hn), rfl⟩
    rw [List.length_map, List.length_map] at hlen
    rw [List.length_map, List.length_map, List.take_length] at e1
    have hz : total es ≠ 0 := by omega
    obtain ⟨L2, e2, s2, ns2, t5, rfl, o2, hns2, hlen2⟩ := for_all (g := gNm fl_l_numbers 5) (body := m_l_numbers_b2 K A) (ws := intsW 0 6) (L := [some (stW s), some (.frz (.lst (es.map eD))), some (iW (total es)), some (oL (ns.map D.int)), some (iW (total es)), none, t6, t7, t8])
      (fun i L => ∃ (s : DS) (ns : List Int) (t5 : Option W), L = [some (stW s), some (.frz (.lst (es.map eD))), some (iW (total es)), some (oL (ns.map D.int)), some (iW (total es)), t5, t6, t7, t8] ∧ s.Ok ∧ (∀ n ∈ ns, 0 ≤ n ∧ n < total es) ∧ ns.length = 2 * es.length + i)
      (fun i w L hw2 ⟨s, ns, t5, e, o, hns, hlen⟩ => by
        obtain ⟨hi, rfl⟩ := intsW_get hw2
        subst e
        obtain ⟨s', x, ex, ox, x0, x1⟩ := wide_is (K := K) (A := A) o
        have rx := fmod_rg x (show 0 < total es by omega)
        have hsz : ((ns.map D.int).map W.frz).length < sizeLine := by rw [List.length_map, List.length_map]; exact small1000 (by omega)
        refine ⟨_, ?_, s', ns ++ [x.fmod (total es)], some (iW (0 + (i : Nat))), rfl, ox, fun n hn => ?_, by simp [hlen]; omega⟩
        · rw [turn_is, List.map_append, show [x.fmod (total es)].map D.int = [.int (x.fmod (total es))] from rfl, oL_snoc]
          unfold oL at *
          generalize (ns.map D.int).map W.frz = nw at *
          generalize total es = te at *
          generalize es.map eD = ed at *
          have lk := fun L : Lc => e_lk_l (L := L) 3 nw
          simp (decide := true) only [e_bind, e_then, e_badb, e_var, e_lk_f, e_lk_b, e_lk_l, e_lk_t, e_lk_o, e_C, e_op, e_seq, e_seq_n, e_seq_r, e_seq_b, e_seq_c, e_nil, e_brk, e_exp, e_set, e_asgn, e_ret, e_handed, e_if, e_ifE, e_mBl, e_blR, e_not, e_and, e_or, e_andV, e_orV, e_notV, e_tru, e_truR, e_add, e_sub, e_mul, e_div, e_mod, e_pow, e_lt, e_gt, e_le, e_ge, e_eq, e_ne, e_neg, e_nilA, e_cons, e_callB, e_f1, e_len_str, e_len_lst, e_len_lok, e_len_tup, e_int, e_abs, e_par, e_no, e_while, e_for, e_gNm, e_range1, e_range2, e_rg1, e_rg2, e_slotW, e_get_v, e_get_a, e_fr_f, e_toFv, e_toF_v, e_toF_a, e_toFb, e_toFa, e_fr_l, e_fr_o, e_frs_nil, e_frs_frz, e_frs_cons, e_frF_nil, e_frF_cons, e_prep_nil, e_prep_f, e_prep_t, e_prepT, e_prep_v, e_called, e_calledR, e_bkR, e_back_nil, e_back_cons, e_call, e_callR, e_madeF, e_make, e_fld, e_fldSet, e_fldSetR, e_meth, e_f1l, e_f1a, e_rd_f, e_mkK, e_yes, e_toW, e_toFs_nil, e_toFs_cons, e_tup, e_lst, e_tupR, e_lstR, e_scR, e_f2, e_kR0, e_kR1, e_bits, e_bitsR, e_bm, e_bm_l, e_bm_s, e_app, e_appR, e_asg, e_seqG, e_gsc, e_gsn, e_gTp, e_exc_try, e_turnR_n, e_turnR_c, e_turnR_b, e_turnR_r, e_setIx, e_setA, e_setB, e_setC, e_iter, e_sl, e_pSome, e_pR, e_pNone, e_listR1, e_lr1, e_prepB_nil, e_prepB_cons, e_arg_ff, e_arg_la, e_lentA, e_arg_lf, e_arg_lb, e_arg_ta, e_ownA, e_arg_tv, e_callL, e_callRB, e_calledB, e_calledBR, e_calledBX, e_backB, e_lkBack_nil, e_lkBack_cons, e_nbs_nil, e_nbs_cons, e_nb_f, e_nb_l, e_nb_o, e_nbF_nil, e_nbF_cons, e_nbs_map, e_makeL, e_madeBR, e_methL, e_methLR_f, e_toWs_nil, e_toWs_cons, e_lstW, e_lstWR, e_mPk, e_pkR_i, e_pkR_s, e_pkR_b, e_setP, e_nin_al, e_in_al, e_in_ft, e_in_fl, e_nin_ft, e_nin_fl, e_eqS, e_neS, e_eqB, e_neB, e_sl_s, e_handed_a, e_handedA, e_f1R_len, e_kR2, e_seqK_l, e_seqK_t, e_items_al, e_items_fl, e_items_ft, e_items_ol, e_tuple_v, e_tuple_a, e_tupA, e_tuple_l, e_tuple_t, e_list_l, e_list_t, e_list_o, e_aug, e_augA, e_addI, e_subI, e_chain, e_chR, e_chK, e_fldR_f, List.getElem?_cons_zero, List.getElem?_cons_succ, List.set_cons_zero, List.set_cons_succ, List.length_cons, List.length_nil, Option.map_some, Option.map_none, Option.bind_some, Option.bind_none, if_true, if_false, ite_true, ite_false, reduceIte, decide_true, decide_false, Bool.not_true, Bool.not_false, Bool.and_true, Bool.true_and, Bool.and_false, Bool.false_and, Bool.or_true, Bool.true_or, Bool.or_false, Bool.false_or, ne_eq, not_false_eq_true, not_true_eq_false, Option.some.injEq, reduceCtorEq, and_self, and_true, true_and, Bool.false_eq_true, List.nil_append, List.cons_append, List.append_nil, decide_eq_true_eq, m_l_numbers_b2, lk, st_lk, ex, hz, hsz]
        · rcases List.mem_append.mp hn with h | h
          · exact hns n h
          · rw [List.mem_singleton.mp h]; exact rx)
      ⟨s, ns, none, rfl, h, hns, by omega⟩
    rw [intsW_len] at hlen2
    refine ⟨s2, ns2, ?_, o2, hns2, by omega, by omega⟩
    have r6 : SzR 6 := szR (by decide) (by decide)
    have n6 : Int.toNat 6 = 6 := rfl
    have it := fun L : Lc => e_items_fl (L := L) (es.map eD)
    refine run_ret (m := m_l_numbers K A) (L0 := [some (stW s), some (.frz (.lst (es.map eD))), some (iW (total es)), none, none, none, none, none, none]) (L := [some (stW s2), some (.frz (.lst (es.map eD))), some (iW (total es)), none, some (iW (total es)), t5, t6, t7, t8]) ?_
    have z : oL (([] : List Int).map D.int) = .olst [] := rfl
    rw [z] at e1
    unfold oL at *
    generalize (ns2.map D.int).map W.frz = nw2 at *
    generalize (ns.map D.int).map W.frz = nw at *
    generalize (es.map eD).map W.frz = ew at *
    generalize es.map eD = ed at *
    have lk := fun L : Lc => e_lk_l (L := L) 3 nw2
    generalize total es = te at *
    simp (decide := true) only [e_bind, e_then, e_badb, e_var, e_lk_f, e_lk_b, e_lk_l, e_lk_t, e_lk_o, e_C, e_op, e_seq, e_seq_n, e_seq_r, e_seq_b, e_seq_c, e_nil, e_brk, e_exp, e_set, e_asgn, e_ret, e_handed, e_if, e_ifE, e_mBl, e_blR, e_not, e_and, e_or, e_andV, e_orV, e_notV, e_tru, e_truR, e_add, e_sub, e_mul, e_div, e_mod, e_pow, e_lt, e_gt, e_le, e_ge, e_eq, e_ne, e_neg, e_nilA, e_cons, e_callB, e_f1, e_len_str, e_len_lst, e_len_lok, e_len_tup, e_int, e_abs, e_par, e_no, e_while, e_for, e_gNm, e_range1, e_range2, e_rg1, e_rg2, e_slotW, e_get_v, e_get_a, e_fr_f, e_toFv, e_toF_v, e_toF_a, e_toFb, e_toFa, e_fr_l, e_fr_o, e_frs_nil, e_frs_frz, e_frs_cons, e_frF_nil, e_frF_cons, e_prep_nil, e_prep_f, e_prep_t, e_prepT, e_prep_v, e_called, e_calledR, e_bkR, e_back_nil, e_back_cons, e_call, e_callR, e_madeF, e_make, e_fld, e_fldSet, e_fldSetR, e_meth, e_f1l, e_f1a, e_rd_f, e_mkK, e_yes, e_toW, e_toFs_nil, e_toFs_cons, e_tup, e_lst, e_tupR, e_lstR, e_scR, e_f2, e_kR0, e_kR1, e_bits, e_bitsR, e_bm, e_bm_l, e_bm_s, e_app, e_appR, e_asg, e_seqG, e_gsc, e_gsn, e_gTp, e_exc_try, e_turnR_n, e_turnR_c, e_turnR_b, e_turnR_r, e_setIx, e_setA, e_setB, e_setC, e_iter, e_sl, e_pSome, e_pR, e_pNone, e_listR1, e_lr1, e_prepB_nil, e_prepB_cons, e_arg_ff, e_arg_la, e_lentA, e_arg_lf, e_arg_lb, e_arg_ta, e_ownA, e_arg_tv, e_callL, e_callRB, e_calledB, e_calledBR, e_calledBX, e_backB, e_lkBack_nil, e_lkBack_cons, e_nbs_nil, e_nbs_cons, e_nb_f, e_nb_l, e_nb_o, e_nbF_nil, e_nbF_cons, e_nbs_map, e_makeL, e_madeBR, e_methL, e_methLR_f, e_toWs_nil, e_toWs_cons, e_lstW, e_lstWR, e_mPk, e_pkR_i, e_pkR_s, e_pkR_b, e_setP, e_nin_al, e_in_al, e_in_ft, e_in_fl, e_nin_ft, e_nin_fl, e_eqS, e_neS, e_eqB, e_neB, e_sl_s, e_handed_a, e_handedA, e_f1R_len, e_kR2, e_seqK_l, e_seqK_t, e_items_al, e_items_fl, e_items_ft, e_items_ol, e_tuple_v, e_tuple_a, e_tupA, e_tuple_l, e_tuple_t, e_list_l, e_list_t, e_list_o, e_aug, e_augA, e_addI, e_subI, e_chain, e_chR, e_chK, e_fldR_f, List.getElem?_cons_zero, List.getElem?_cons_succ, List.set_cons_zero, List.set_cons_succ, List.length_cons, List.length_nil, Option.map_some, Option.map_none, Option.bind_some, Option.bind_none, if_true, if_false, ite_true, ite_false, reduceIte, decide_true, decide_false, Bool.not_true, Bool.not_false, Bool.and_true, Bool.true_and, Bool.and_false, Bool.false_and, Bool.or_true, Bool.true_or, Bool.or_false, Bool.false_or, ne_eq, not_false_eq_true, not_true_eq_false, Option.some.injEq, reduceCtorEq, and_self, and_true, true_and, Bool.false_eq_true, List.nil_append, List.cons_append, List.append_nil, decide_eq_true_eq, m_l_numbers, c, it, e1, r6, n6, e2, lk, List.map_nil]
/-! counting over all numbers -/
theorem sum_f (xs : List En) (L : Lc) : f1 sumD [.val (.olst (xs.map fun e => W.frz (.int e.w)))] L = .ok (.val (.frz (.int (xs.map (·.w)).sum))) L := by
  have : (xs.map fun e => W.frz (.int e.w)) = ((xs.map (·.w)).map D.int).map .frz := by rw [List.map_map, List.map_map]; rfl
  rw [this, e_f1l]
  exact f1R_of (by rw [rd_lst, sumD_map])
theorem comp1 (es : List En) (hl : es.length ≤ 1000) (t : Str) (x0 x2 x3 x5 x6 x7 x8 x9 : Option W) :
    mLc true (fo_l_counted_2 K A) [9] (mIter (mVar 1)) (gNm (fo_l_counted_2 K A) 9) (mBl (mOp cEqS (mOp (mkK ixW) (mVar 9) (mC (.int 1))) (mVar 4))) (m_l_counted_e3 K A) [x0, some (.frz (.lst (es.map eD))), x2, x3, some (.frz (.str t)), x5, x6, x7, x8, x9] =
      .ok (.val (.olst ((es.filter fun e => decide (e.t = t)).map fun e => W.frz (.int e.w)))) [x0, some (.frz (.lst (es.map eD))), x2, x3, some (.frz (.str t)), x5, x6, x7, x8, none] := by
  have key := lc_map (kp := true) (vs := [9]) (g := gNm (fo_l_counted_2 K A) 9) (mt := mBl (mOp cEqS (mOp (mkK ixW) (mVar 9) (mC (.int 1))) (mVar 4))) (me := m_l_counted_e3 K A) (fun e => .frz (eD e)) (fun e => W.frz (.int e.w)) (fun e => decide (e.t = t)) (L := [x0, some (.frz (.lst (es.map eD))), x2, x3, some (.frz (.str t)), x5, x6, x7, x8, none]) es [] (fun e he => by
    refine ⟨[x0, some (.frz (.lst (es.map eD))), x2, x3, some (.frz (.str t)), x5, x6, x7, x8, some (.frz (eD e))], [x0, some (.frz (.lst (es.map eD))), x2, x3, some (.frz (.str t)), x5, x6, x7, x8, some (.frz (eD e))], [x0, some (.frz (.lst (es.map eD))), x2, x3, some (.frz (.str t)), x5, x6, x7, x8, some (.frz (eD e))], [x0, some (.frz (.lst (es.map eD))), x2, x3, some (.frz (.str t)), x5, x6, x7, x8, some (.frz (eD e))], rfl, ?_, fun _ => rfl, fun _ => ⟨.val (.frz (.int e.w)), ?_, rfl, rfl⟩⟩
    · generalize es.map eD = ed at *
      simp (decide := true) only [e_bind, e_then, e_badb, e_var, e_lk_f, e_lk_b, e_lk_l, e_lk_t, e_lk_o, e_C, e_op, e_seq, e_seq_n, e_seq_r, e_seq_b, e_seq_c, e_nil, e_brk, e_exp, e_set, e_asgn, e_ret, e_handed, e_if, e_ifE, e_mBl, e_blR, e_not, e_and, e_or, e_andV, e_orV, e_notV, e_tru, e_truR, e_add, e_sub, e_mul, e_div, e_mod, e_pow, e_lt, e_gt, e_le, e_ge, e_eq, e_ne, e_neg, e_nilA, e_cons, e_callB, e_f1, e_len_str, e_len_lst, e_len_lok, e_len_tup, e_int, e_abs, e_par, e_no, e_while, e_for, e_gNm, e_range1, e_range2, e_rg1, e_rg2, e_slotW, e_get_v, e_get_a, e_fr_f, e_toFv, e_toF_v, e_toF_a, e_toFb, e_toFa, e_fr_l, e_fr_o, e_frs_nil, e_frs_frz, e_frs_cons, e_frF_nil, e_frF_cons, e_prep_nil, e_prep_f, e_prep_t, e_prepT, e_prep_v, e_called, e_calledR, e_bkR, e_back_nil, e_back_cons, e_call, e_callR, e_madeF, e_make, e_fld, e_fldSet, e_fldSetR, e_meth, e_f1l, e_f1a, e_rd_f, e_mkK, e_yes, e_toW, e_toFs_nil, e_toFs_cons, e_tup, e_lst, e_tupR, e_lstR, e_scR, e_f2, e_kR0, e_kR1, e_bits, e_bitsR, e_bm, e_bm_l, e_bm_s, e_app, e_appR, e_asg, e_seqG, e_gsc, e_gsn, e_gTp, e_exc_try, e_turnR_n, e_turnR_c, e_turnR_b, e_turnR_r, e_setIx, e_setA, e_setB, e_setC, e_iter, e_sl, e_pSome, e_pR, e_pNone, e_listR1, e_lr1, e_prepB_nil, e_prepB_cons, e_arg_ff, e_arg_la, e_lentA, e_arg_lf, e_arg_lb, e_arg_ta, e_ownA, e_arg_tv, e_callL, e_callRB, e_calledB, e_calledBR, e_calledBX, e_backB, e_lkBack_nil, e_lkBack_cons, e_nbs_nil, e_nbs_cons, e_nb_f, e_nb_l, e_nb_o, e_nbF_nil, e_nbF_cons, e_nbs_map, e_makeL, e_madeBR, e_methL, e_methLR_f, e_toWs_nil, e_toWs_cons, e_lstW, e_lstWR, e_mPk, e_pkR_i, e_pkR_s, e_pkR_b, e_setP, e_nin_al, e_in_al, e_in_ft, e_in_fl, e_nin_ft, e_nin_fl, e_eqS, e_neS, e_eqB, e_neB, e_sl_s, e_handed_a, e_handedA, e_f1R_len, e_kR2, e_seqK_l, e_seqK_t, e_items_al, e_items_fl, e_items_ft, e_items_ol, e_tuple_v, e_tuple_a, e_tupA, e_tuple_l, e_tuple_t, e_list_l, e_list_t, e_list_o, e_aug, e_augA, e_addI, e_subI, e_chain, e_chR, e_chK, e_fldR_f, List.getElem?_cons_zero, List.getElem?_cons_succ, List.set_cons_zero, List.set_cons_succ, List.length_cons, List.length_nil, Option.map_some, Option.map_none, Option.bind_some, Option.bind_none, if_true, if_false, ite_true, ite_false, reduceIte, decide_true, decide_false, Bool.not_true, Bool.not_false, Bool.and_true, Bool.true_and, Bool.and_false, Bool.false_and, Bool.or_true, Bool.true_or, Bool.or_false, Bool.false_or, ne_eq, not_false_eq_true, not_true_eq_false, Option.some.injEq, reduceCtorEq, and_self, and_true, true_and, Bool.false_eq_true, List.nil_append, List.cons_append, List.append_nil, decide_eq_true_eq, e_kR1]
    · generalize es.map eD = ed at *
      simp (decide := true) only [e_bind, e_then, e_badb, e_var, e_lk_f, e_lk_b, e_lk_l, e_lk_t, e_lk_o, e_C, e_op, e_seq, e_seq_n, e_seq_r, e_seq_b, e_seq_c, e_nil, e_brk, e_exp, e_set, e_asgn, e_ret, e_handed, e_if, e_ifE, e_mBl, e_blR, e_not, e_and, e_or, e_andV, e_orV, e_notV, e_tru, e_truR, e_add, e_sub, e_mul, e_div, e_mod, e_pow, e_lt, e_gt, e_le, e_ge, e_eq, e_ne, e_neg, e_nilA, e_cons, e_callB, e_f1, e_len_str, e_len_lst, e_len_lok, e_len_tup, e_int, e_abs, e_par, e_no, e_while, e_for, e_gNm, e_range1, e_range2, e_rg1, e_rg2, e_slotW, e_get_v, e_get_a, e_fr_f, e_toFv, e_toF_v, e_toF_a, e_toFb, e_toFa, e_fr_l, e_fr_o, e_frs_nil, e_frs_frz, e_frs_cons, e_frF_nil, e_frF_cons, e_prep_nil, e_prep_f, e_prep_t, e_prepT, e_prep_v, e_called, e_calledR, e_bkR, e_back_nil, e_back_cons, e_call, e_callR, e_madeF, e_make, e_fld, e_fldSet, e_fldSetR, e_meth, e_f1l, e_f1a, e_rd_f, e_mkK, e_yes, e_toW, e_toFs_nil, e_toFs_cons, e_tup, e_lst, e_tupR, e_lstR, e_scR, e_f2, e_kR0, e_kR1, e_bits, e_bitsR, e_bm, e_bm_l, e_bm_s, e_app, e_appR, e_asg, e_seqG, e_gsc, e_gsn, e_gTp, e_exc_try, e_turnR_n, e_turnR_c, e_turnR_b, e_turnR_r, e_setIx, e_setA, e_setB, e_setC, e_iter, e_sl, e_pSome, e_pR, e_pNone, e_listR1, e_lr1, e_prepB_nil, e_prepB_cons, e_arg_ff, e_arg_la, e_lentA, e_arg_lf, e_arg_lb, e_arg_ta, e_ownA, e_arg_tv, e_callL, e_callRB, e_calledB, e_calledBR, e_calledBX, e_backB, e_lkBack_nil, e_lkBack_cons, e_nbs_nil, e_nbs_cons, e_nb_f, e_nb_l, e_nb_o, e_nbF_nil, e_nbF_cons, e_nbs_map, e_makeL, e_madeBR, e_methL, e_methLR_f, e_toWs_nil, e_toWs_cons, e_lstW, e_lstWR, e_mPk, e_pkR_i, e_pkR_s, e_pkR_b, e_setP, e_nin_al, e_in_al, e_in_ft, e_in_fl, e_nin_ft, e_nin_fl, e_eqS, e_neS, e_eqB, e_neB, e_sl_s, e_handed_a, e_handedA, e_f1R_len, e_kR2, e_seqK_l, e_seqK_t, e_items_al, e_items_fl, e_items_ft, e_items_ol, e_tuple_v, e_tuple_a, e_tupA, e_tuple_l, e_tuple_t, e_list_l, e_list_t, e_list_o, e_aug, e_augA, e_addI, e_subI, e_chain, e_chR, e_chK, e_fldR_f, List.getElem?_cons_zero, List.getElem?_cons_succ, List.set_cons_zero, List.set_cons_succ, List.length_cons, List.length_nil, Option.map_some, Option.map_none, Option.bind_some, Option.bind_none, if_true, if_false, ite_true, ite_false, reduceIte, decide_true, decide_false, Bool.not_true, Bool.not_false, Bool.and_true, Bool.true_and, Bool.and_false, Bool.false_and, Bool.or_true, Bool.true_or, Bool.or_false, Bool.false_or, ne_eq, not_false_eq_true, not_true_eq_false, Option.some.injEq, reduceCtorEq, and_self, and_true, true_and, Bool.false_eq_true, List.nil_append, List.cons_append, List.append_nil, decide_eq_true_eq, m_l_counted_e3]) (by simp; omega)
  rw [List.nil_append] at key
  refine mLc_ok (ws := es.map fun e => .frz (eD e)) (L1 := [x0, some (.frz (.lst (es.map eD))), x2, x3, some (.frz (.str t)), x5, x6, x7, x8, x9]) ?_ key rfl
  have : (es.map fun e => W.frz (eD e)) = (es.map eD).map .frz := by rw [List.map_map]; rfl
  rw [this]
  generalize es.map eD = ed at *
  simp (decide := true) only [e_bind, e_then, e_badb, e_var, e_lk_f, e_lk_b, e_lk_l, e_lk_t, e_lk_o, e_C, e_op, e_seq, e_seq_n, e_seq_r, e_seq_b, e_seq_c, e_nil, e_brk, e_exp, e_set, e_asgn, e_ret, e_handed, e_if, e_ifE, e_mBl, e_blR, e_not, e_and, e_or, e_andV, e_orV, e_notV, e_tru, e_truR, e_add, e_sub, e_mul, e_div, e_mod, e_pow, e_lt, e_gt, e_le, e_ge, e_eq, e_ne, e_neg, e_nilA, e_cons, e_callB, e_f1, e_len_str, e_len_lst, e_len_lok, e_len_tup, e_int, e_abs, e_par, e_no, e_while, e_for, e_gNm, e_range1, e_range2, e_rg1, e_rg2, e_slotW, e_get_v, e_get_a, e_fr_f, e_toFv, e_toF_v, e_toF_a, e_toFb, e_toFa, e_fr_l, e_fr_o, e_frs_nil, e_frs_frz, e_frs_cons, e_frF_nil, e_frF_cons, e_prep_nil, e_prep_f, e_prep_t, e_prepT, e_prep_v, e_called, e_calledR, e_bkR, e_back_nil, e_back_cons, e_call, e_callR, e_madeF, e_make, e_fld, e_fldSet, e_fldSetR, e_meth, e_f1l, e_f1a, e_rd_f, e_mkK, e_yes, e_toW, e_toFs_nil, e_toFs_cons, e_tup, e_lst, e_tupR, e_lstR, e_scR, e_f2, e_kR0, e_kR1, e_bits, e_bitsR, e_bm, e_bm_l, e_bm_s, e_app, e_appR, e_asg, e_seqG, e_gsc, e_gsn, e_gTp, e_exc_try, e_turnR_n, e_turnR_c, e_turnR_b, e_turnR_r, e_setIx, e_setA, e_setB, e_setC, e_iter, e_sl, e_pSome, e_pR, e_pNone, e_listR1, e_lr1, e_prepB_nil, e_prepB_cons, e_arg_ff, e_arg_la, e_lentA, e_arg_lf, e_arg_lb, e_arg_ta, e_ownA, e_arg_tv, e_callL, e_callRB, e_calledB, e_calledBR, e_calledBX, e_backB, e_lkBack_nil, e_lkBack_cons, e_nbs_nil, e_nbs_cons, e_nb_f, e_nb_l, e_nb_o, e_nbF_nil, e_nbF_cons, e_nbs_map, e_makeL, e_madeBR, e_methL, e_methLR_f, e_toWs_nil, e_toWs_cons, e_lstW, e_lstWR, e_mPk, e_pkR_i, e_pkR_s, e_pkR_b, e_setP, e_nin_al, e_in_al, e_in_ft, e_in_fl, e_nin_ft, e_nin_fl, e_eqS, e_neS, e_eqB, e_neB, e_sl_s, e_handed_a, e_handedA, e_f1R_len, e_kR2, e_seqK_l, e_seqK_t, e_items_al, e_items_fl, e_items_ft, e_items_ol, e_tuple_v, e_tuple_a, e_tupA, e_tuple_l, e_tuple_t, e_list_l, e_list_t, e_list_o, e_aug, e_augA, e_addI, e_subI, e_chain, e_chR, e_chK, e_fldR_f, List.getElem?_cons_zero, List.getElem?_cons_succ, List.set_cons_zero, List.set_cons_succ, List.length_cons, List.length_nil, Option.map_some, Option.map_none, Option.bind_some, Option.bind_none, if_true, if_false, ite_true, ite_false, reduceIte, decide_true, decide_false, Bool.not_true, Bool.not_false, Bool.and_true, Bool.true_and, Bool.and_false, Bool.false_and, Bool.or_true, Bool.true_or, Bool.or_false, Bool.false_or, ne_eq, not_false_eq_true, not_true_eq_false, Option.some.injEq, reduceCtorEq, and_self, and_true, true_and, Bool.false_eq_true, List.nil_append, List.cons_append, List.append_nil, decide_eq_true_eq, e_items_fl]
theorem comp2 (es : List En) (hl : es.length ≤ 1000) (t : Str) (x0 x2 x3 x5 x6 x7 x8 x9 : Option W) :
    mLc true (fo_l_counted_4 K A) [9] (mIter (mVar 1)) (gNm (fo_l_counted_4 K A) 9) (mBl (mOp cInU (mVar 4) (mOp (mkK ixW) (mVar 9) (mC (.int 2))))) (m_l_counted_e5 K A) [x0, some (.frz (.lst (es.map eD))), x2, x3, some (.frz (.str t)), x5, x6, x7, x8, x9] =
      .ok (.val (.olst ((es.filter fun e => decide (t ∈ e.a)).map fun e => W.frz (.int e.w)))) [x0, some (.frz (.lst (es.map eD))), x2, x3, some (.frz (.str t)), x5, x6, x7, x8, none] := by
  have key := lc_map (kp := true) (vs := [9]) (g := gNm (fo_l_counted_4 K A) 9) (mt := mBl (mOp cInU (mVar 4) (mOp (mkK ixW) (mVar 9) (mC (.int 2))))) (me := m_l_counted_e5 K A) (fun e => .frz (eD e)) (fun e => W.frz (.int e.w)) (fun e => decide (t ∈ e.a)) (L := [x0, some (.frz (.lst (es.map eD))), x2, x3, some (.frz (.str t)), x5, x6, x7, x8, none]) es [] (fun e he => by
    refine ⟨[x0, some (.frz (.lst (es.map eD))), x2, x3, some (.frz (.str t)), x5, x6, x7, x8, some (.frz (eD e))], [x0, some (.frz (.lst (es.map eD))), x2, x3, some (.frz (.str t)), x5, x6, x7, x8, some (.frz (eD e))], [x0, some (.frz (.lst (es.map eD))), x2, x3, some (.frz (.str t)), x5, x6, x7, x8, some (.frz (eD e))], [x0, some (.frz (.lst (es.map eD))), x2, x3, some (.frz (.str t)), x5, x6, x7, x8, some (.frz (eD e))], rfl, ?_, fun _ => rfl, fun _ => ⟨.val (.frz (.int e.w)), ?_, rfl, rfl⟩⟩
    · have hin := fun L : Lc => e_in_fl (L := L) t e.a
      generalize es.map eD = ed at *
      simp (decide := true) only [e_bind, e_then, e_badb, e_var, e_lk_f, e_lk_b, e_lk_l, e_lk_t, e_lk_o, e_C, e_op, e_seq, e_seq_n, e_seq_r, e_seq_b, e_seq_c, e_nil, e_brk, e_exp, e_set, e_asgn, e_ret, e_handed, e_if, e_ifE, e_mBl, e_blR, e_not, e_and, e_or, e_andV, e_orV, e_notV, e_tru, e_truR, e_add, e_sub, e_mul, e_div, e_mod, e_pow, e_lt, e_gt, e_le, e_ge, e_eq, e_ne, e_neg, e_nilA, e_cons, e_callB, e_f1, e_len_str, e_len_lst, e_len_lok, e_len_tup, e_int, e_abs, e_par, e_no, e_while, e_for, e_gNm, e_range1, e_range2, e_rg1, e_rg2, e_slotW, e_get_v, e_get_a, e_fr_f, e_toFv, e_toF_v, e_toF_a, e_toFb, e_toFa, e_fr_l, e_fr_o, e_frs_nil, e_frs_frz, e_frs_cons, e_frF_nil, e_frF_cons, e_prep_nil, e_prep_f, e_prep_t, e_prepT, e_prep_v, e_called, e_calledR, e_bkR, e_back_nil, e_back_cons, e_call, e_callR, e_madeF, e_make, e_fld, e_fldSet, e_fldSetR, e_meth, e_f1l, e_f1a, e_rd_f, e_mkK, e_yes, e_toW, e_toFs_nil, e_toFs_cons, e_tup, e_lst, e_tupR, e_lstR, e_scR, e_f2, e_kR0, e_kR1, e_bits, e_bitsR, e_bm, e_bm_l, e_bm_s, e_app, e_appR, e_asg, e_seqG, e_gsc, e_gsn, e_gTp, e_exc_try, e_turnR_n, e_turnR_c, e_turnR_b, e_turnR_r, e_setIx, e_setA, e_setB, e_setC, e_iter, e_sl, e_pSome, e_pR, e_pNone, e_listR1, e_lr1, e_prepB_nil, e_prepB_cons, e_arg_ff, e_arg_la, e_lentA, e_arg_lf, e_arg_lb, e_arg_ta, e_ownA, e_arg_tv, e_callL, e_callRB, e_calledB, e_calledBR, e_calledBX, e_backB, e_lkBack_nil, e_lkBack_cons, e_nbs_nil, e_nbs_cons, e_nb_f, e_nb_l, e_nb_o, e_nbF_nil, e_nbF_cons, e_nbs_map, e_makeL, e_madeBR, e_methL, e_methLR_f, e_toWs_nil, e_toWs_cons, e_lstW, e_lstWR, e_mPk, e_pkR_i, e_pkR_s, e_pkR_b, e_setP, e_nin_al, e_in_al, e_in_ft, e_in_fl, e_nin_ft, e_nin_fl, e_eqS, e_neS, e_eqB, e_neB, e_sl_s, e_handed_a, e_handedA, e_f1R_len, e_kR2, e_seqK_l, e_seqK_t, e_items_al, e_items_fl, e_items_ft, e_items_ol, e_tuple_v, e_tuple_a, e_tupA, e_tuple_l, e_tuple_t, e_list_l, e_list_t, e_list_o, e_aug, e_augA, e_addI, e_subI, e_chain, e_chR, e_chK, e_fldR_f, List.getElem?_cons_zero, List.getElem?_cons_succ, List.set_cons_zero, List.set_cons_succ, List.length_cons, List.length_nil, Option.map_some, Option.map_none, Option.bind_some, Option.bind_none, if_true, if_false, ite_true, ite_false, reduceIte, decide_true, decide_false, Bool.not_true, Bool.not_false, Bool.and_true, Bool.true_and, Bool.and_false, Bool.false_and, Bool.or_true, Bool.true_or, Bool.or_false, Bool.false_or, ne_eq, not_false_eq_true, not_true_eq_false, Option.some.injEq, reduceCtorEq, and_self, and_true, true_and, Bool.false_eq_true, List.nil_append, List.cons_append, List.append_nil, decide_eq_true_eq, e_kR2, hin]
    · generalize es.map eD = ed at *
      simp (decide := true) only [e_bind, e_then, e_badb, e_var, e_lk_f, e_lk_b, e_lk_l, e_lk_t, e_lk_o, e_C, e_op, e_seq, e_seq_n, e_seq_r, e_seq_b, e_seq_c, e_nil, e_brk, e_exp, e_set, e_asgn, e_ret, e_handed, e_if, e_ifE, e_mBl, e_blR, e_not, e_and, e_or, e_andV, e_orV, e_notV, e_tru, e_truR, e_add, e_sub, e_mul, e_div, e_mod, e_pow, e_lt, e_gt, e_le, e_ge, e_eq, e_ne, e_neg, e_nilA, e_cons, e_callB, e_f1, e_len_str, e_len_lst, e_len_lok, e_len_tup, e_int, e_abs, e_par, e_no, e_while, e_for, e_gNm, e_range1, e_range2, e_rg1, e_rg2, e_slotW, e_get_v, e_get_a, e_fr_f, e_toFv, e_toF_v, e_toF_a, e_toFb, e_toFa, e_fr_l, e_fr_o, e_frs_nil, e_frs_frz, e_frs_cons, e_frF_nil, e_frF_cons, e_prep_nil, e_prep_f, e_prep_t, e_prepT, e_prep_v, e_called, e_calledR, e_bkR, e_back_nil, e_back_cons, e_call, e_callR, e_madeF, e_make, e_fld, e_fldSet, e_fldSetR, e_meth, e_f1l, e_f1a, e_rd_f, e_mkK, e_yes, e_toW, e_toFs_nil, e_toFs_cons, e_tup, e_lst, e_tupR, e_lstR, e_scR, e_f2, e_kR0, e_kR1, e_bits, e_bitsR, e_bm, e_bm_l, e_bm_s, e_app, e_appR, e_asg, e_seqG, e_gsc, e_gsn, e_gTp, e_exc_try, e_turnR_n, e_turnR_c, e_turnR_b, e_turnR_r, e_setIx, e_setA, e_setB, e_setC, e_iter, e_sl, e_pSome, e_pR, e_pNone, e_listR1, e_lr1, e_prepB_nil, e_prepB_cons, e_arg_ff, e_arg_la, e_lentA, e_arg_lf, e_arg_lb, e_arg_ta, e_ownA, e_arg_tv, e_callL, e_callRB, e_calledB, e_calledBR, e_calledBX, e_backB, e_lkBack_nil, e_lkBack_cons, e_nbs_nil, e_nbs_cons, e_nb_f, e_nb_l, e_nb_o, e_nbF_nil, e_nbF_cons, e_nbs_map, e_makeL, e_madeBR, e_methL, e_methLR_f, e_toWs_nil, e_toWs_cons, e_lstW, e_lstWR, e_mPk, e_pkR_i, e_pkR_s, e_pkR_b, e_setP, e_nin_al, e_in_al, e_in_ft, e_in_fl, e_nin_ft, e_nin_fl, e_eqS, e_neS, e_eqB, e_neB, e_sl_s, e_handed_a, e_handedA, e_f1R_len, e_kR2, e_seqK_l, e_seqK_t, e_items_al, e_items_fl, e_items_ft, e_items_ol, e_tuple_v, e_tuple_a, e_tupA, e_tuple_l, e_tuple_t, e_list_l, e_list_t, e_list_o, e_aug, e_augA, e_addI, e_subI, e_chain, e_chR, e_chK, e_fldR_f, List.getElem?_cons_zero, List.getElem?_cons_succ, List.set_cons_zero, List.set_cons_succ, List.length_cons, List.length_nil, Option.map_some, Option.map_none, Option.bind_some, Option.bind_none, if_true, if_false, ite_true, ite_false, reduceIte, decide_true, decide_false, Bool.not_true, Bool.not_false, Bool.and_true, Bool.true_and, Bool.and_false, Bool.false_and, Bool.or_true, Bool.true_or, Bool.or_false, Bool.false_or, ne_eq, not_false_eq_true, not_true_eq_false, Option.some.injEq, reduceCtorEq, and_self, and_true, true_and, Bool.false_eq_true, List.nil_append, List.cons_append, List.append_nil, decide_eq_true_eq, m_l_counted_e5]) (by simp; omega)
  rw [List.nil_append] at key
  refine mLc_ok (ws := es.map fun e => .frz (eD e)) (L1 := [x0, some (.frz (.lst (es.map eD))), x2, x3, some (.frz (.str t)), x5, x6, x7, x8, x9]) ?_ key rfl
  have : (es.map fun e => W.frz (eD e)) = (es.map eD).map .frz := by rw [List.map_map]; rfl
  rw [this]
  generalize es.map eD = ed at *
  simp (decide := true) only [e_bind, e_then, e_badb, e_var, e_lk_f, e_lk_b, e_lk_l, e_lk_t, e_lk_o, e_C, e_op, e_seq, e_seq_n, e_seq_r, e_seq_b, e_seq_c, e_nil, e_brk, e_exp, e_set, e_asgn, e_ret, e_handed, e_if, e_ifE, e_mBl, e_blR, e_not, e_and, e_or, e_andV, e_orV, e_notV, e_tru, e_truR, e_add, e_sub, e_mul, e_div, e_mod, e_pow, e_lt, e_gt, e_le, e_ge, e_eq, e_ne, e_neg, e_nilA, e_cons, e_callB, e_f1, e_len_str, e_len_lst, e_len_lok, e_len_tup, e_int, e_abs, e_par, e_no, e_while, e_for, e_gNm, e_range1, e_range2, e_rg1, e_rg2, e_slotW, e_get_v, e_get_a, e_fr_f, e_toFv, e_toF_v, e_toF_a, e_toFb, e_toFa, e_fr_l, e_fr_o, e_frs_nil, e_frs_frz, e_frs_cons, e_frF_nil, e_frF_cons, e_prep_nil, e_prep_f, e_prep_t, e_prepT, e_prep_v, e_called, e_calledR, e_bkR, e_back_nil, e_back_cons, e_call, e_callR, e_madeF, e_make, e_fld, e_fldSet, e_fldSetR, e_meth, e_f1l, e_f1a, e_rd_f, e_mkK, e_yes, e_toW, e_toFs_nil, e_toFs_cons, e_tup, e_lst, e_tupR, e_lstR, e_scR, e_f2, e_kR0, e_kR1, e_bits, e_bitsR, e_bm, e_bm_l, e_bm_s, e_app, e_appR, e_asg, e_seqG, e_gsc, e_gsn, e_gTp, e_exc_try, e_turnR_n, e_turnR_c, e_turnR_b, e_turnR_r, e_setIx, e_setA, e_setB, e_setC, e_iter, e_sl, e_pSome, e_pR, e_pNone, e_listR1, e_lr1, e_prepB_nil, e_prepB_cons, e_arg_ff, e_arg_la, e_lentA, e_arg_lf, e_arg_lb, e_arg_ta, e_ownA, e_arg_tv, e_callL, e_callRB, e_calledB, e_calledBR, e_calledBX, e_backB, e_lkBack_nil, e_lkBack_cons, e_nbs_nil, e_nbs_cons, e_nb_f, e_nb_l, e_nb_o, e_nbF_nil, e_nbF_cons, e_nbs_map, e_makeL, e_madeBR, e_methL, e_methLR_f, e_toWs_nil, e_toWs_cons, e_lstW, e_lstWR, e_mPk, e_pkR_i, e_pkR_s, e_pkR_b, e_setP, e_nin_al, e_in_al, e_in_ft, e_in_fl, e_nin_ft, e_nin_fl, e_eqS, e_neS, e_eqB, e_neB, e_sl_s, e_handed_a, e_handedA, e_f1R_len, e_kR2, e_seqK_l, e_seqK_t, e_items_al, e_items_fl, e_items_ft, e_items_ol, e_tuple_v, e_tuple_a, e_tupA, e_tuple_l, e_tuple_t, e_list_l, e_list_t, e_list_o, e_aug, e_augA, e_addI, e_subI, e_chain, e_chR, e_chK, e_fldR_f, List.getElem?_cons_zero, List.getElem?_cons_succ, List.set_cons_zero, List.set_cons_succ, List.length_cons, List.length_nil, Option.map_some, Option.map_none, Option.bind_some, Option.bind_none, if_true, if_false, ite_true, ite_false, reduceIte, decide_true, decide_false, Bool.not_true, Bool.not_false, Bool.and_true, Bool.true_and, Bool.and_false, Bool.false_and, Bool.or_true, Bool.true_or, Bool.or_false, Bool.false_or, ne_eq, not_false_eq_true, not_true_eq_false, Option.some.injEq, reduceCtorEq, and_self, and_true, true_and, Bool.false_eq_true, List.nil_append, List.cons_append, List.append_nil, decide_eq_true_eq, e_items_fl]
end
end L

set_option exponentiation.threshold 20000
namespace L
open PySem PySem.Spec PyProof.Rows L2 BV
section
variable {K : PySem.W.Frag} {A : Ad}
theorem pk_at {P : En → Bool} {es : List En} {m : Int} (h : atN es m < es.length) : pk P es m = P es[atN es m] := by
  unfold pk
  rw [List.getElem?_eq_getElem h]
theorem ite_succ (n : Nat) (b : Bool) : (if b = true then ((n : Nat) : Int) + 1 else (n : Nat)) = ((n + if b = true then 1 else 0 : Nat) : Int) := by cases b <;> simp
theorem inner_turn (es : List En) (t : Str) (x1 x2 x3 x8 x9 : Option W) (m : Nat) (hm : ((m : Nat) : Int) < total es) (x7 : Option W) :
    ∃ x8', turnF (gNm fl_l_counted 7) (m_l_counted_b1 K A) (.frz (.int (m : Nat))) [some (.frz (mkD A.Marking es)), x1, x2, x3, some (.frz (.str t)), some (iW (cntP (fun e => decide (e.t = t)) es m : Nat)), some (iW (cntP (fun e => decide (t ∈ e.a)) es m : Nat)), x7, x8, x9] =
      .next [some (.frz (mkD A.Marking es)), x1, x2, x3, some (.frz (.str t)), some (iW (cntP (fun e => decide (e.t = t)) es (m + 1) : Nat)), some (iW (cntP (fun e => decide (t ∈ e.a)) es (m + 1) : Nat)), some (iW (m : Nat)), x8', x9] := by
  have hk := atN_lt es (m : Nat) hm (by omega)
  have e1 := key_of_is (K := K) (A := A) es (m : Nat) (by omega) hm
  have e2 := write_is (K := K) (A := A) es _ hk
  have e3 := accuses_is (K := K) (A := A) es _ hk t
  have m1 := fun (r : R) (mr : M (List R)) (L : Lc) => methR_of (L := L) (fl := fl_Marking_key_of) (fn := fn_Marking_key_of K A) (m := "key_of") (r := r) (w := .frz (mkD A.Marking es)) (C := A.Marking) (mr := mr) rfl rfl
  have m2 := fun (r : R) (mr : M (List R)) (L : Lc) => methR_of (L := L) (fl := fl_Marking_write) (fn := fn_Marking_write K A) (m := "write") (r := r) (w := .frz (mkD A.Marking es)) (C := A.Marking) (mr := mr) rfl rfl
  have m3 := fun (r : R) (mr : M (List R)) (L : Lc) => methR_of (L := L) (fl := fl_Marking_accuses) (fn := fn_Marking_accuses K A) (m := "accuses") (r := r) (w := .frz (mkD A.Marking es)) (C := A.Marking) (mr := mr) rfl rfl
  rw [cntP_succ, cntP_succ, pk_at hk, pk_at hk, ← ite_succ, ← ite_succ]
  refine ⟨some (iW (atN es (m : Nat) : Nat)), ?_⟩
  rw [turn_is]
  generalize ((cntP (fun e => decide (e.t = t)) es m : Nat) : Int) = c1 at *
  generalize ((cntP (fun e => decide (t ∈ e.a)) es m : Nat) : Int) = c2 at *
  generalize ((atN es (m : Nat) : Nat) : Int) = k1 at *
  generalize mkD A.Marking es = mk at *
  generalize es[atN es (m : Nat)].t = tt at *
  generalize es[atN es (m : Nat)].a = aa at *
  generalize ((m : Nat) : Int) = mm at *
  by_cases h1 : tt = t
  · by_cases h2 : t ∈ aa
    · simp (decide := true) only [e_bind, e_then, e_badb, e_var, e_lk_f, e_lk_b, e_lk_l, e_lk_t, e_lk_o, e_C, e_op, e_seq, e_seq_n, e_seq_r, e_seq_b, e_seq_c, e_nil, e_brk, e_exp, e_set, e_asgn, e_ret, e_handed, e_if, e_ifE, e_mBl, e_blR, e_not, e_and, e_or, e_andV, e_orV, e_notV, e_tru, e_truR, e_add, e_sub, e_mul, e_div, e_mod, e_pow, e_lt, e_gt, e_le, e_ge, e_eq, e_ne, e_neg, e_nilA, e_cons, e_callB, e_f1, e_len_str, e_len_lst, e_len_lok, e_len_tup, e_int, e_abs, e_par, e_no, e_while, e_for, e_gNm, e_range1, e_range2, e_rg1, e_rg2, e_slotW, e_get_v, e_get_a, e_fr_f, e_toFv, e_toF_v, e_toF_a, e_toFb, e_toFa, e_fr_l, e_fr_o, e_frs_nil, e_frs_frz, e_frs_cons, e_frF_nil, e_frF_cons, e_prep_nil, e_prep_f, e_prep_t, e_prepT, e_prep_v, e_called, e_calledR, e_bkR, e_back_nil, e_back_cons, e_call, e_callR, e_madeF, e_make, e_fld, e_fldSet, e_fldSetR, e_meth, e_f1l, e_f1a, e_rd_f, e_mkK, e_yes, e_toW, e_toFs_nil, e_toFs_cons, e_tup, e_lst, e_tupR, e_lstR, e_scR, e_f2, e_kR0, e_kR1, e_bits, e_bitsR, e_bm, e_bm_l, e_bm_s, e_app, e_appR, e_asg, e_seqG, e_gsc, e_gsn, e_gTp, e_exc_try, e_turnR_n, e_turnR_c, e_turnR_b, e_turnR_r, e_setIx, e_setA, e_setB, e_setC, e_iter, e_sl, e_pSome, e_pR, e_pNone, e_listR1, e_lr1, e_prepB_nil, e_prepB_cons, e_arg_ff, e_arg_la, e_lentA, e_arg_lf, e_arg_lb, e_arg_ta, e_ownA, e_arg_tv, e_callL, e_callRB, e_calledB, e_calledBR, e_calledBX, e_backB, e_lkBack_nil, e_lkBack_cons, e_nbs_nil, e_nbs_cons, e_nb_f, e_nb_l, e_nb_o, e_nbF_nil, e_nbF_cons, e_nbs_map, e_makeL, e_madeBR, e_methL, e_methLR_f, e_toWs_nil, e_toWs_cons, e_lstW, e_lstWR, e_mPk, e_pkR_i, e_pkR_s, e_pkR_b, e_setP, e_nin_al, e_in_al, e_in_ft, e_in_fl, e_nin_ft, e_nin_fl, e_eqS, e_neS, e_eqB, e_neB, e_sl_s, e_handed_a, e_handedA, e_f1R_len, e_kR2, e_seqK_l, e_seqK_t, e_items_al, e_items_fl, e_items_ft, e_items_ol, e_tuple_v, e_tuple_a, e_tupA, e_tuple_l, e_tuple_t, e_list_l, e_list_t, e_list_o, e_aug, e_augA, e_addI, e_subI, e_chain, e_chR, e_chK, e_fldR_f, List.getElem?_cons_zero, List.getElem?_cons_succ, List.set_cons_zero, List.set_cons_succ, List.length_cons, List.length_nil, Option.map_some, Option.map_none, Option.bind_some, Option.bind_none, if_true, if_false, ite_true, ite_false, reduceIte, decide_true, decide_false, Bool.not_true, Bool.not_false, Bool.and_true, Bool.true_and, Bool.and_false, Bool.false_and, Bool.or_true, Bool.true_or, Bool.or_false, Bool.false_or, ne_eq, not_false_eq_true, not_true_eq_false, Option.some.injEq, reduceCtorEq, and_self, and_true, true_and, Bool.false_eq_true, List.nil_append, List.cons_append, List.append_nil, decide_eq_true_eq, m_l_counted_b1, m1, m2, m3, e1, e2, e3, h1, h2]
    · simp (decide := true) only [e_bind, e_then, e_badb, e_var, e_lk_f, e_lk_b, e_lk_l, e_lk_t, e_lk_o, e_C, e_op, e_seq, e_seq_n, e_seq_r, e_seq_b, e_seq_c, e_nil, e_brk, e_exp, e_set, e_asgn, e_ret, e_handed, e_if, e_ifE, e_mBl, e_blR, e_not, e_and, e_or, e_andV, e_orV, e_notV, e_tru, e_truR, e_add, e_sub, e_mul, e_div, e_mod, e_pow, e_lt, e_gt, e_le, e_ge, e_eq, e_ne, e_neg, e_nilA, e_cons, e_callB, e_f1, e_len_str, e_len_lst, e_len_lok, e_len_tup, e_int, e_abs, e_par, e_no, e_while, e_for, e_gNm, e_range1, e_range2, e_rg1, e_rg2, e_slotW, e_get_v, e_get_a, e_fr_f, e_toFv, e_toF_v, e_toF_a, e_toFb, e_toFa, e_fr_l, e_fr_o, e_frs_nil, e_frs_frz, e_frs_cons, e_frF_nil, e_frF_cons, e_prep_nil, e_prep_f, e_prep_t, e_prepT, e_prep_v, e_called, e_calledR, e_bkR, e_back_nil, e_back_cons, e_call, e_callR, e_madeF, e_make, e_fld, e_fldSet, e_fldSetR, e_meth, e_f1l, e_f1a, e_rd_f, e_mkK, e_yes, e_toW, e_toFs_nil, e_toFs_cons, e_tup, e_lst, e_tupR, e_lstR, e_scR, e_f2, e_kR0, e_kR1, e_bits, e_bitsR, e_bm, e_bm_l, e_bm_s, e_app, e_appR, e_asg, e_seqG, e_gsc, e_gsn, e_gTp, e_exc_try, e_turnR_n, e_turnR_c, e_turnR_b, e_turnR_r, e_setIx, e_setA, e_setB, e_setC, e_iter, e_sl, e_pSome, e_pR, e_pNone, e_listR1, e_lr1, e_prepB_nil, e_prepB_cons, e_arg_ff, e_arg_la, e_lentA, e_arg_lf, e_arg_lb, e_arg_ta, e_ownA, e_arg_tv, e_callL, e_callRB, e_calledB, e_calledBR, e_calledBX, e_backB, e_lkBack_nil, e_lkBack_cons, e_nbs_nil, e_nbs_cons, e_nb_f, e_nb_l, e_nb_o, e_nbF_nil, e_nbF_cons, e_nbs_map, e_makeL, e_madeBR, e_methL, e_methLR_f, e_toWs_nil, e_toWs_cons, e_lstW, e_lstWR, e_mPk, e_pkR_i, e_pkR_s, e_pkR_b, e_setP, e_nin_al, e_in_al, e_in_ft, e_in_fl, e_nin_ft, e_nin_fl, e_eqS, e_neS, e_eqB, e_neB, e_sl_s, e_handed_a, e_handedA, e_f1R_len, e_kR2, e_seqK_l, e_seqK_t, e_items_al, e_items_fl, e_items_ft, e_items_ol, e_tuple_v, e_tuple_a, e_tupA, e_tuple_l, e_tuple_t, e_list_l, e_list_t, e_list_o, e_aug, e_augA, e_addI, e_subI, e_chain, e_chR, e_chK, e_fldR_f, List.getElem?_cons_zero, List.getElem?_cons_succ, List.set_cons_zero, List.set_cons_succ, List.length_cons, List.length_nil, Option.map_some, Option.map_none, Option.bind_some, Option.bind_none, if_true, if_false, ite_true, ite_false, reduceIte, decide_true, decide_false, Bool.not_true, Bool.not_false, Bool.and_true, Bool.true_and, Bool.and_false, Bool.false_and, Bool.or_true, Bool.true_or, Bool.or_false, Bool.false_or, ne_eq, not_false_eq_true, not_true_eq_false, Option.some.injEq, reduceCtorEq, and_self, and_true, true_and, Bool.false_eq_true, List.nil_append, List.cons_append, List.append_nil, decide_eq_true_eq, m_l_counted_b1, m1, m2, m3, e1, e2, e3, h1, h2]
  · by_cases h2 : t ∈ aa
    · simp (decide := true) only [e_bind, e_then, e_badb, e_var, e_lk_f, e_lk_b, e_lk_l, e_lk_t, e_lk_o, e_C, e_op, e_seq, e_seq_n, e_seq_r, e_seq_b, e_seq_c, e_nil, e_brk, e_exp, e_set, e_asgn, e_ret, e_handed, e_if, e_ifE, e_mBl, e_blR, e_not, e_and, e_or, e_andV, e_orV, e_notV, e_tru, e_truR, e_add, e_sub, e_mul, e_div, e_mod, e_pow, e_lt, e_gt, e_le, e_ge, e_eq, e_ne, e_neg, e_nilA, e_cons, e_callB, e_f1, e_len_str, e_len_lst, e_len_lok, e_len_tup, e_int, e_abs, e_par, e_no, e_while, e_for, e_gNm, e_range1, e_range2, e_rg1, e_rg2, e_slotW, e_get_v, e_get_a, e_fr_f, e_toFv, e_toF_v, e_toF_a, e_toFb, e_toFa, e_fr_l, e_fr_o, e_frs_nil, e_frs_frz, e_frs_cons, e_frF_nil, e_frF_cons, e_prep_nil, e_prep_f, e_prep_t, e_prepT, e_prep_v, e_called, e_calledR, e_bkR, e_back_nil, e_back_cons, e_call, e_callR, e_madeF, e_make, e_fld, e_fldSet, e_fldSetR, e_meth, e_f1l, e_f1a, e_rd_f, e_mkK, e_yes, e_toW, e_toFs_nil, e_toFs_cons, e_tup, e_lst, e_tupR, e_lstR, e_scR, e_f2, e_kR0, e_kR1, e_bits, e_bitsR, e_bm, e_bm_l, e_bm_s, e_app, e_appR, e_asg, e_seqG, e_gsc, e_gsn, e_gTp, e_exc_try, e_turnR_n, e_turnR_c, e_turnR_b, e_turnR_r, e_setIx, e_setA, e_setB, e_setC, e_iter, e_sl, e_pSome, e_pR, e_pNone, e_listR1, e_lr1, e_prepB_nil, e_prepB_cons, e_arg_ff, e_arg_la, e_lentA, e_arg_lf, e_arg_lb, e_arg_ta, e_ownA, e_arg_tv, e_callL, e_callRB, e_calledB, e_calledBR, e_calledBX, e_backB, e_lkBack_nil, e_lkBack_cons, e_nbs_nil, e_nbs_cons, e_nb_f, e_nb_l, e_nb_o, e_nbF_nil, e_nbF_cons, e_nbs_map, e_makeL, e_madeBR, e_methL, e_methLR_f, e_toWs_nil, e_toWs_cons, e_lstW, e_lstWR, e_mPk, e_pkR_i, e_pkR_s, e_pkR_b, e_setP, e_nin_al, e_in_al, e_in_ft, e_in_fl, e_nin_ft, e_nin_fl, e_eqS, e_neS, e_eqB, e_neB, e_sl_s, e_handed_a, e_handedA, e_f1R_len, e_kR2, e_seqK_l, e_seqK_t, e_items_al, e_items_fl, e_items_ft, e_items_ol, e_tuple_v, e_tuple_a, e_tupA, e_tuple_l, e_tuple_t, e_list_l, e_list_t, e_list_o, e_aug, e_augA, e_addI, e_subI, e_chain, e_chR, e_chK, e_fldR_f, List.getElem?_cons_zero, List.getElem?_cons_succ, List.set_cons_zero, List.set_cons_succ, List.length_cons, List.length_nil, Option.map_some, Option.map_none, Option.bind_some, Option.bind_none, if_true, if_false, ite_true, ite_false, reduceIte, decide_true, decide_false, Bool.not_true, Bool.not_false, Bool.and_true, Bool.true_and, Bool.and_false, Bool.false_and, Bool.or_true, Bool.true_or, Bool.or_false, Bool.false_or, ne_eq, not_false_eq_true, not_true_eq_false, Option.some.injEq, reduceCtorEq, and_self, and_true, true_and, Bool.false_eq_true, List.nil_append, List.cons_append, List.append_nil, decide_eq_true_eq, m_l_counted_b1, m1, m2, m3, e1, e2, e3, h1, h2]
    · simp (decide := true) only [e_bind, e_then, e_badb, e_var, e_lk_f, e_lk_b, e_lk_l, e_lk_t, e_lk_o, e_C, e_op, e_seq, e_seq_n, e_seq_r, e_seq_b, e_seq_c, e_nil, e_brk, e_exp, e_set, e_asgn, e_ret, e_handed, e_if, e_ifE, e_mBl, e_blR, e_not, e_and, e_or, e_andV, e_orV, e_notV, e_tru, e_truR, e_add, e_sub, e_mul, e_div, e_mod, e_pow, e_lt, e_gt, e_le, e_ge, e_eq, e_ne, e_neg, e_nilA, e_cons, e_callB, e_f1, e_len_str, e_len_lst, e_len_lok, e_len_tup, e_int, e_abs, e_par, e_no, e_while, e_for, e_gNm, e_range1, e_range2, e_rg1, e_rg2, e_slotW, e_get_v, e_get_a, e_fr_f, e_toFv, e_toF_v, e_toF_a, e_toFb, e_toFa, e_fr_l, e_fr_o, e_frs_nil, e_frs_frz, e_frs_cons, e_frF_nil, e_frF_cons, e_prep_nil, e_prep_f, e_prep_t, e_prepT, e_prep_v, e_called, e_calledR, e_bkR, e_back_nil, e_back_cons, e_call, e_callR, e_madeF, e_make, e_fld, e_fldSet, e_fldSetR, e_meth, e_f1l, e_f1a, e_rd_f, e_mkK, e_yes, e_toW, e_toFs_nil, e_toFs_cons, e_tup, e_lst, e_tupR, e_lstR, e_scR, e_f2, e_kR0, e_kR1, e_bits, e_bitsR, e_bm, e_bm_l, e_bm_s, e_app, e_appR, e_asg, e_seqG, e_gsc, e_gsn, e_gTp, e_exc_try, e_turnR_n, e_turnR_c, e_turnR_b, e_turnR_r, e_setIx, e_setA, e_setB, e_setC, e_iter, e_sl, e_pSome, e_pR, e_pNone, e_listR1, e_lr1, e_prepB_nil, e_prepB_cons, e_arg_ff, e_arg_la, e_lentA, e_arg_lf, e_arg_lb, e_arg_ta, e_ownA, e_arg_tv, e_callL, e_callRB, e_calledB, e_calledBR, e_calledBX, e_backB, e_lkBack_nil, e_lkBack_cons, e_nbs_nil, e_nbs_cons, e_nb_f, e_nb_l, e_nb_o, e_nbF_nil, e_nbF_cons, e_nbs_map, e_makeL, e_madeBR, e_methL, e_methLR_f, e_toWs_nil, e_toWs_cons, e_lstW, e_lstWR, e_mPk, e_pkR_i, e_pkR_s, e_pkR_b, e_setP, e_nin_al, e_in_al, e_in_ft, e_in_fl, e_nin_ft, e_nin_fl, e_eqS, e_neS, e_eqB, e_neB, e_sl_s, e_handed_a, e_handedA, e_f1R_len, e_kR2, e_seqK_l, e_seqK_t, e_items_al, e_items_fl, e_items_ft, e_items_ol, e_tuple_v, e_tuple_a, e_tupA, e_tuple_l, e_tuple_t, e_list_l, e_list_t, e_list_o, e_aug, e_augA, e_addI, e_subI, e_chain, e_chR, e_chK, e_fldR_f, List.getElem?_cons_zero, List.getElem?_cons_succ, List.set_cons_zero, List.set_cons_succ, List.length_cons, List.length_nil, Option.map_some, Option.map_none, Option.bind_some, Option.bind_none, if_true, if_false, ite_true, ite_false, reduceIte, decide_true, decide_false, Bool.not_true, Bool.not_false, Bool.and_true, Bool.true_and, Bool.and_false, Bool.false_and, Bool.or_true, Bool.true_or, Bool.or_false, Bool.false_or, ne_eq, not_false_eq_true, not_true_eq_false, Option.some.injEq, reduceCtorEq, and_self, and_true, true_and, Bool.false_eq_true, List.nil_append, List.cons_append, List.append_nil, decide_eq_true_eq, m_l_counted_b1, m1, m2, m3, e1, e2, e3, h1, h2]
theorem outer_turn (es : List En) (hw : ∀ e ∈ es, 1 ≤ e.w) (hl : es.length ≤ 60) (ht : total es ≤ 40) (t : Str) (x2 x4 x5 x6 x7 x8 : Option W) :
    ∃ y5 y6 y7 y8, turnF (gNm fl_l_counted 4) (m_l_counted_b6 K A) (.frz (.str t)) [some (.frz (mkD A.Marking es)), some (.frz (.lst (es.map eD))), x2, some (iW (total es)), x4, x5, x6, x7, x8, none] =
      .next [some (.frz (mkD A.Marking es)), some (.frz (.lst (es.map eD))), x2, some (iW (total es)), some (.frz (.str t)), y5, y6, y7, y8, none] := by
  have hn := total_nn es hw
  obtain ⟨L1, e1, y7, y8, rfl⟩ := for_all (g := gNm fl_l_counted 7) (body := m_l_counted_b1 K A) (ws := intsW 0 (total es).toNat) (L := [some (.frz (mkD A.Marking es)), some (.frz (.lst (es.map eD))), x2, some (iW (total es)), some (.frz (.str t)), some (iW 0), some (iW 0), x7, x8, none])
    (fun i L => ∃ x7 x8, L = [some (.frz (mkD A.Marking es)), some (.frz (.lst (es.map eD))), x2, some (iW (total es)), some (.frz (.str t)), some (iW (cntP (fun e => decide (e.t = t)) es i : Nat)), some (iW (cntP (fun e => decide (t ∈ e.a)) es i : Nat)), x7, x8, none])
    (fun i w L hw2 ⟨x7, x8, e⟩ => by
      obtain ⟨hi, rfl⟩ := intsW_get hw2
      subst e
      rw [Int.zero_add]
      obtain ⟨x8', e2⟩ := inner_turn (K := K) (A := A) es t (some (.frz (.lst (es.map eD)))) x2 (some (iW (total es))) x8 none i (by omega) x7
      exact ⟨_, e2, _, x8', rfl⟩)
    ⟨x7, x8, rfl⟩
  rw [intsW_len, cntP_is _ es hw, cntP_is _ es hw] at e1
  have c1 := fun x0 x2 x3 x5 x6 x7 x8 x9 => comp1 (K := K) (A := A) es (by omega) t x0 x2 x3 x5 x6 x7 x8 x9
  have c2 := fun x0 x2 x3 x5 x6 x7 x8 x9 => comp2 (K := K) (A := A) es (by omega) t x0 x2 x3 x5 x6 x7 x8 x9
  have s1 := fun L : Lc => sum_f (es.filter fun e => decide (e.t = t)) L
  have s2 := fun L : Lc => sum_f (es.filter fun e => decide (t ∈ e.a)) L
  refine ⟨some (iW ((es.filter fun e => decide (e.t = t)).map (·.w)).sum), some (iW ((es.filter fun e => decide (t ∈ e.a)).map (·.w)).sum), y7, y8, ?_⟩
  rw [turn_is]
  have hmin : minD (.int (total es)) (.int 40) = some (.int (total es)) := by
    show some (D.int (if (40 : Int) < total es then 40 else total es)) = _
    rw [if_neg (by omega)]
  have rk : SzR (total es) := szR (by omega) (by omega)
  generalize hq1 : (es.filter fun e => decide (e.t = t)).map (fun e => W.frz (.int e.w)) = q1 at *
  generalize hq2 : (es.filter fun e => decide (t ∈ e.a)).map (fun e => W.frz (.int e.w)) = q2 at *
  generalize ((es.filter fun e => decide (e.t = t)).map (·.w)).sum = v1 at *
  generalize ((es.filter fun e => decide (t ∈ e.a)).map (·.w)).sum = v2 at *
  generalize total es = te at *
  generalize es.map eD = ed at *
  generalize mkD A.Marking es = mk at *
  simp (decide := true) only [e_bind, e_then, e_badb, e_var, e_lk_f, e_lk_b, e_lk_l, e_lk_t, e_lk_o, e_C, e_op, e_seq, e_seq_n, e_seq_r, e_seq_b, e_seq_c, e_nil, e_brk, e_exp, e_set, e_asgn, e_ret, e_handed, e_if, e_ifE, e_mBl, e_blR, e_not, e_and, e_or, e_andV, e_orV, e_notV, e_tru, e_truR, e_add, e_sub, e_mul, e_div, e_mod, e_pow, e_lt, e_gt, e_le, e_ge, e_eq, e_ne, e_neg, e_nilA, e_cons, e_callB, e_f1, e_len_str, e_len_lst, e_len_lok, e_len_tup, e_int, e_abs, e_par, e_no, e_while, e_for, e_gNm, e_range1, e_range2, e_rg1, e_rg2, e_slotW, e_get_v, e_get_a, e_fr_f, e_toFv, e_toF_v, e_toF_a, e_toFb, e_toFa, e_fr_l, e_fr_o, e_frs_nil, e_frs_frz, e_frs_cons, e_frF_nil, e_frF_cons, e_prep_nil, e_prep_f, e_prep_t, e_prepT, e_prep_v, e_called, e_calledR, e_bkR, e_back_nil, e_back_cons, e_call, e_callR, e_madeF, e_make, e_fld, e_fldSet, e_fldSetR, e_meth, e_f1l, e_f1a, e_rd_f, e_mkK, e_yes, e_toW, e_toFs_nil, e_toFs_cons, e_tup, e_lst, e_tupR, e_lstR, e_scR, e_f2, e_kR0, e_kR1, e_bits, e_bitsR, e_bm, e_bm_l, e_bm_s, e_app, e_appR, e_asg, e_seqG, e_gsc, e_gsn, e_gTp, e_exc_try, e_turnR_n, e_turnR_c, e_turnR_b, e_turnR_r, e_setIx, e_setA, e_setB, e_setC, e_iter, e_sl, e_pSome, e_pR, e_pNone, e_listR1, e_lr1, e_prepB_nil, e_prepB_cons, e_arg_ff, e_arg_la, e_lentA, e_arg_lf, e_arg_lb, e_arg_ta, e_ownA, e_arg_tv, e_callL, e_callRB, e_calledB, e_calledBR, e_calledBX, e_backB, e_lkBack_nil, e_lkBack_cons, e_nbs_nil, e_nbs_cons, e_nb_f, e_nb_l, e_nb_o, e_nbF_nil, e_nbF_cons, e_nbs_map, e_makeL, e_madeBR, e_methL, e_methLR_f, e_toWs_nil, e_toWs_cons, e_lstW, e_lstWR, e_mPk, e_pkR_i, e_pkR_s, e_pkR_b, e_setP, e_nin_al, e_in_al, e_in_ft, e_in_fl, e_nin_ft, e_nin_fl, e_eqS, e_neS, e_eqB, e_neB, e_sl_s, e_handed_a, e_handedA, e_f1R_len, e_kR2, e_seqK_l, e_seqK_t, e_items_al, e_items_fl, e_items_ft, e_items_ol, e_tuple_v, e_tuple_a, e_tupA, e_tuple_l, e_tuple_t, e_list_l, e_list_t, e_list_o, e_aug, e_augA, e_addI, e_subI, e_chain, e_chR, e_chK, e_fldR_f, List.getElem?_cons_zero, List.getElem?_cons_succ, List.set_cons_zero, List.set_cons_succ, List.length_cons, List.length_nil, Option.map_some, Option.map_none, Option.bind_some, Option.bind_none, if_true, if_false, ite_true, ite_false, reduceIte, decide_true, decide_false, Bool.not_true, Bool.not_false, Bool.and_true, Bool.true_and, Bool.and_false, Bool.false_and, Bool.or_true, Bool.true_or, Bool.or_false, Bool.false_or, ne_eq, not_false_eq_true, not_true_eq_false, Option.some.injEq, reduceCtorEq, and_self, and_true, true_and, Bool.false_eq_true, List.nil_append, List.cons_append, List.append_nil, decide_eq_true_eq, m_l_counted_b6, hmin, rk, e1, c1, s1, c2, s2]
theorem cutL_map {α β : Type} (f : α → β) (xs : List α) (lo hi : Option Int) : cutL (xs.map f) lo hi = (cutL xs lo hi).map f := by
  unfold cutL
  rw [List.length_map, ← List.map_drop, ← List.map_take]
theorem sl_f (ds : List D) (lo hi : Option Int) (L : Lc) : slR lo hi (some (.frz (.lst ds))) L = .ok (.val (oL (cutL ds lo hi))) L := slR_of (by
  show (if (W.frz (.lst ds)).isLst = true then ((W.frz (.lst ds)).seq.map fun ws => W.olst (cutL ws lo hi)) else none) = _
  rw [if_pos (show (W.frz (.lst ds)).isLst = true from rfl)]
  show some (W.olst (cutL (ds.map .frz) lo hi)) = _
  rw [cutL_map])
theorem counted_is (es : List En) (hw : ∀ e ∈ es, 1 ≤ e.w) (hl : es.length ≤ 60) (ht : total es ≤ 40) (ps : List Str) :
    fn_l_counted K A [.frz (mkD A.Marking es), .frz (.lst (es.map eD)), .frz (.lst (sD ps)), iW (total es)] = .ok (.frz (.bl true)) [] := by
  obtain ⟨L1, e1, y4, y5, y6, y7, y8, rfl⟩ := for_all (g := gNm fl_l_counted 4) (body := m_l_counted_b6 K A) (ws := (sD (cutL ps none (some 4))).map .frz) (L := [some (.frz (mkD A.Marking es)), some (.frz (.lst (es.map eD))), some (.frz (.lst (sD ps))), some (iW (total es)), none, none, none, none, none, none])
    (fun i L => ∃ y4 y5 y6 y7 y8, L = [some (.frz (mkD A.Marking es)), some (.frz (.lst (es.map eD))), some (.frz (.lst (sD ps))), some (iW (total es)), y4, y5, y6, y7, y8, none])
    (fun i w L hw2 ⟨y4, y5, y6, y7, y8, e⟩ => by
      rw [List.getElem?_map, List.getElem?_map] at hw2
      obtain ⟨d, hd, rfl⟩ := map_some hw2
      obtain ⟨t, _, rfl⟩ := map_some hd
      subst e
      obtain ⟨z5, z6, z7, z8, e2⟩ := outer_turn (K := K) (A := A) es hw hl ht t (some (.frz (.lst (sD ps)))) y4 y5 y6 y7 y8
      exact ⟨_, e2, _, z5, z6, z7, z8, rfl⟩)
    ⟨none, none, none, none, none, rfl⟩
  have cm : cutL (sD ps) none (some 4) = sD (cutL ps none (some 4)) := cutL_map ..
  have sl := fun L : Lc => sl_f (sD ps) none (some 4) L
  rw [cm] at sl
  have it := fun L : Lc => e_items_ol (L := L) (sD (cutL ps none (some 4)))
  refine run_ret (m := m_l_counted K A) (L0 := [some (.frz (mkD A.Marking es)), some (.frz (.lst (es.map eD))), some (.frz (.lst (sD ps))), some (iW (total es)), none, none, none, none, none, none]) (L := [some (.frz (mkD A.Marking es)), some (.frz (.lst (es.map eD))), some (.frz (.lst (sD ps))), some (iW (total es)), y4, y5, y6, y7, y8, none]) ?_
  unfold oL at sl
  generalize (sD (cutL ps none (some 4))).map W.frz = pw at *
  generalize sD ps = pd at *
  generalize total es = te at *
  generalize es.map eD = ed at *
  generalize mkD A.Marking es = mk at *
  simp (decide := true) only [e_bind, e_then, e_badb, e_var, e_lk_f, e_lk_b, e_lk_l, e_lk_t, e_lk_o, e_C, e_op, e_seq, e_seq_n, e_seq_r, e_seq_b, e_seq_c, e_nil, e_brk, e_exp, e_set, e_asgn, e_ret, e_handed, e_if, e_ifE, e_mBl, e_blR, e_not, e_and, e_or, e_andV, e_orV, e_notV, e_tru, e_truR, e_add, e_sub, e_mul, e_div, e_mod, e_pow, e_lt, e_gt, e_le, e_ge, e_eq, e_ne, e_neg, e_nilA, e_cons, e_callB, e_f1, e_len_str, e_len_lst, e_len_lok, e_len_tup, e_int, e_abs, e_par, e_no, e_while, e_for, e_gNm, e_range1, e_range2, e_rg1, e_rg2, e_slotW, e_get_v, e_get_a, e_fr_f, e_toFv, e_toF_v, e_toF_a, e_toFb, e_toFa, e_fr_l, e_fr_o, e_frs_nil, e_frs_frz, e_frs_cons, e_frF_nil, e_frF_cons, e_prep_nil, e_prep_f, e_prep_t, e_prepT, e_prep_v, e_called, e_calledR, e_bkR, e_back_nil, e_back_cons, e_call, e_callR, e_madeF, e_make, e_fld, e_fldSet, e_fldSetR, e_meth, e_f1l, e_f1a, e_rd_f, e_mkK, e_yes, e_toW, e_toFs_nil, e_toFs_cons, e_tup, e_lst, e_tupR, e_lstR, e_scR, e_f2, e_kR0, e_kR1, e_bits, e_bitsR, e_bm, e_bm_l, e_bm_s, e_app, e_appR, e_asg, e_seqG, e_gsc, e_gsn, e_gTp, e_exc_try, e_turnR_n, e_turnR_c, e_turnR_b, e_turnR_r, e_setIx, e_setA, e_setB, e_setC, e_iter, e_sl, e_pSome, e_pR, e_pNone, e_listR1, e_lr1, e_prepB_nil, e_prepB_cons, e_arg_ff, e_arg_la, e_lentA, e_arg_lf, e_arg_lb, e_arg_ta, e_ownA, e_arg_tv, e_callL, e_callRB, e_calledB, e_calledBR, e_calledBX, e_backB, e_lkBack_nil, e_lkBack_cons, e_nbs_nil, e_nbs_cons, e_nb_f, e_nb_l, e_nb_o, e_nbF_nil, e_nbF_cons, e_nbs_map, e_makeL, e_madeBR, e_methL, e_methLR_f, e_toWs_nil, e_toWs_cons, e_lstW, e_lstWR, e_mPk, e_pkR_i, e_pkR_s, e_pkR_b, e_setP, e_nin_al, e_in_al, e_in_ft, e_in_fl, e_nin_ft, e_nin_fl, e_eqS, e_neS, e_eqB, e_neB, e_sl_s, e_handed_a, e_handedA, e_f1R_len, e_kR2, e_seqK_l, e_seqK_t, e_items_al, e_items_fl, e_items_ft, e_items_ol, e_tuple_v, e_tuple_a, e_tupA, e_tuple_l, e_tuple_t, e_list_l, e_list_t, e_list_o, e_aug, e_augA, e_addI, e_subI, e_chain, e_chR, e_chK, e_fldR_f, List.getElem?_cons_zero, List.getElem?_cons_succ, List.set_cons_zero, List.set_cons_succ, List.length_cons, List.length_nil, Option.map_some, Option.map_none, Option.bind_some, Option.bind_none, if_true, if_false, ite_true, ite_false, reduceIte, decide_true, decide_false, Bool.not_true, Bool.not_false, Bool.and_true, Bool.true_and, Bool.and_false, Bool.false_and, Bool.or_true, Bool.true_or, Bool.or_false, Bool.false_or, ne_eq, not_false_eq_true, not_true_eq_false, Option.some.injEq, reduceCtorEq, and_self, and_true, true_and, Bool.false_eq_true, List.nil_append, List.cons_append, List.append_nil, decide_eq_true_eq, m_l_counted, sl, it, e1]
end
end L

set_option exponentiation.threshold 20000
namespace L
open PySem PySem.Spec PyProof.Rows L2 BV
/-- a key as the law hands it in -/
abbrev hW (e : En) : W := .olst [.frz (.int e.w), .frz (.str e.t), .olst ((sD e.a).map .frz)]
abbrev hD (e : En) : D := .lst [.int e.w, .str e.t, .lst (sD e.a)]
theorem rd_h (es : List En) : (W.olst (es.map hW)).rd = .lst (es.map hD) := by
  rw [W.rd]
  congr 1
  induction es with
  | nil => rw [List.map_nil, rds]; rfl
  | cons e es ih =>
    rw [List.map_cons, rds, ih, List.map_cons]
    congr 1
    rw [W.rd, rds, rds, rds, rds, W.rd, W.rd, rd_lst]
theorem mkB_h (es : List En) : (es.map hD).map mkB = es.map fun e => .brw (hD e) := by
  rw [List.map_map]
  rfl
theorem tris_h : ∀ (es : List En), (∀ e ∈ es, e.a.length < 64) → Tris es (es.map fun e => .brw (hD e))
  | [], _ => trivial
  | e :: es, h => ⟨tri_b e (h e List.mem_cons_self), tris_h es fun x hx => h x (List.mem_cons_of_mem _ hx)⟩
section
variable {K : PySem.W.Frag} {A : Ad}
theorem handed_is (es : List En) (hl : es.length ≤ 1000) (x0 x1 x2 x4 x5 x6 x7 x8 x9 : Option W) :
    mLc true (fo_l_body_1 K A) [8] (mIter (mVar 3)) (gNm (fo_l_body_1 K A) 8) mYes (m_l_body_e2 K A) [x0, x1, x2, some (oL (es.map eD)), x4, x5, x6, x7, x8, x9] =
      .ok (.val (.olst (es.map hW))) [x0, x1, x2, some (.frz (.lst (es.map eD))), x4, x5, x6, x7, none, x9] := by
  have key := lc_all (kp := true) (vs := [8]) (g := gNm (fo_l_body_1 K A) 8) (me := m_l_body_e2 K A) (fun e => .frz (eD e)) hW (L := [x0, x1, x2, some (.frz (.lst (es.map eD))), x4, x5, x6, x7, none, x9]) es (fun e he => by
    refine ⟨[x0, x1, x2, some (.frz (.lst (es.map eD))), x4, x5, x6, x7, some (.frz (eD e)), x9], [x0, x1, x2, some (.frz (.lst (es.map eD))), x4, x5, x6, x7, some (.frz (eD e)), x9], [x0, x1, x2, some (.frz (.lst (es.map eD))), x4, x5, x6, x7, some (.frz (eD e)), x9], .val (hW e), rfl, ?_, rfl, rfl⟩
    have ls := fun L : Lc => e_list_l (L := L) (sD e.a)
    unfold hW
    generalize es.map eD = ed at *
    simp (decide := true) only [e_bind, e_then, e_badb, e_var, e_lk_f, e_lk_b, e_lk_l, e_lk_t, e_lk_o, e_C, e_op, e_seq, e_seq_n, e_seq_r, e_seq_b, e_seq_c, e_nil, e_brk, e_exp, e_set, e_asgn, e_ret, e_handed, e_if, e_ifE, e_mBl, e_blR, e_not, e_and, e_or, e_andV, e_orV, e_notV, e_tru, e_truR, e_add, e_sub, e_mul, e_div, e_mod, e_pow, e_lt, e_gt, e_le, e_ge, e_eq, e_ne, e_neg, e_nilA, e_cons, e_callB, e_f1, e_len_str, e_len_lst, e_len_lok, e_len_tup, e_int, e_abs, e_par, e_no, e_while, e_for, e_gNm, e_range1, e_range2, e_rg1, e_rg2, e_slotW, e_get_v, e_get_a, e_fr_f, e_toFv, e_toF_v, e_toF_a, e_toFb, e_toFa, e_fr_l, e_fr_o, e_frs_nil, e_frs_frz, e_frs_cons, e_frF_nil, e_frF_cons, e_prep_nil, e_prep_f, e_prep_t, e_prepT, e_prep_v, e_called, e_calledR, e_bkR, e_back_nil, e_back_cons, e_call, e_callR, e_madeF, e_make, e_fld, e_fldSet, e_fldSetR, e_meth, e_f1l, e_f1a, e_rd_f, e_mkK, e_yes, e_toW, e_toFs_nil, e_toFs_cons, e_tup, e_lst, e_tupR, e_lstR, e_scR, e_f2, e_kR0, e_kR1, e_bits, e_bitsR, e_bm, e_bm_l, e_bm_s, e_app, e_appR, e_asg, e_seqG, e_gsc, e_gsn, e_gTp, e_exc_try, e_turnR_n, e_turnR_c, e_turnR_b, e_turnR_r, e_setIx, e_setA, e_setB, e_setC, e_iter, e_sl, e_pSome, e_pR, e_pNone, e_listR1, e_lr1, e_prepB_nil, e_prepB_cons, e_arg_ff, e_arg_la, e_lentA, e_arg_lf, e_arg_lb, e_arg_ta, e_ownA, e_arg_tv, e_callL, e_callRB, e_calledB, e_calledBR, e_calledBX, e_backB, e_lkBack_nil, e_lkBack_cons, e_nbs_nil, e_nbs_cons, e_nb_f, e_nb_l, e_nb_o, e_nbF_nil, e_nbF_cons, e_nbs_map, e_makeL, e_madeBR, e_methL, e_methLR_f, e_toWs_nil, e_toWs_cons, e_lstW, e_lstWR, e_mPk, e_pkR_i, e_pkR_s, e_pkR_b, e_setP, e_nin_al, e_in_al, e_in_ft, e_in_fl, e_nin_ft, e_nin_fl, e_eqS, e_neS, e_eqB, e_neB, e_sl_s, e_handed_a, e_handedA, e_f1R_len, e_kR2, e_seqK_l, e_seqK_t, e_items_al, e_items_fl, e_items_ft, e_items_ol, e_tuple_v, e_tuple_a, e_tupA, e_tuple_l, e_tuple_t, e_list_l, e_list_t, e_list_o, e_aug, e_augA, e_addI, e_subI, e_chain, e_chR, e_chK, e_fldR_f, List.getElem?_cons_zero, List.getElem?_cons_succ, List.set_cons_zero, List.set_cons_succ, List.length_cons, List.length_nil, Option.map_some, Option.map_none, Option.bind_some, Option.bind_none, if_true, if_false, ite_true, ite_false, reduceIte, decide_true, decide_false, Bool.not_true, Bool.not_false, Bool.and_true, Bool.true_and, Bool.and_false, Bool.false_and, Bool.or_true, Bool.true_or, Bool.or_false, Bool.false_or, ne_eq, not_false_eq_true, not_true_eq_false, Option.some.injEq, reduceCtorEq, and_self, and_true, true_and, Bool.false_eq_true, List.nil_append, List.cons_append, List.append_nil, decide_eq_true_eq, m_l_body_e2, ls]) (by omega)
  refine mLc_ok (ws := es.map fun e => .frz (eD e)) (L1 := [x0, x1, x2, some (.frz (.lst (es.map eD))), x4, x5, x6, x7, x8, x9]) ?_ key rfl
  have : (es.map fun e => W.frz (eD e)) = (es.map eD).map .frz := by rw [List.map_map]; rfl
  rw [this]
  unfold oL
  have lk := fun L : Lc => e_lk_l (L := L) 3 ((es.map eD).map .frz)
  simp (decide := true) only [e_bind, e_then, e_badb, e_var, e_lk_f, e_lk_b, e_lk_l, e_lk_t, e_lk_o, e_C, e_op, e_seq, e_seq_n, e_seq_r, e_seq_b, e_seq_c, e_nil, e_brk, e_exp, e_set, e_asgn, e_ret, e_handed, e_if, e_ifE, e_mBl, e_blR, e_not, e_and, e_or, e_andV, e_orV, e_notV, e_tru, e_truR, e_add, e_sub, e_mul, e_div, e_mod, e_pow, e_lt, e_gt, e_le, e_ge, e_eq, e_ne, e_neg, e_nilA, e_cons, e_callB, e_f1, e_len_str, e_len_lst, e_len_lok, e_len_tup, e_int, e_abs, e_par, e_no, e_while, e_for, e_gNm, e_range1, e_range2, e_rg1, e_rg2, e_slotW, e_get_v, e_get_a, e_fr_f, e_toFv, e_toF_v, e_toF_a, e_toFb, e_toFa, e_fr_l, e_fr_o, e_frs_nil, e_frs_frz, e_frs_cons, e_frF_nil, e_frF_cons, e_prep_nil, e_prep_f, e_prep_t, e_prepT, e_prep_v, e_called, e_calledR, e_bkR, e_back_nil, e_back_cons, e_call, e_callR, e_madeF, e_make, e_fld, e_fldSet, e_fldSetR, e_meth, e_f1l, e_f1a, e_rd_f, e_mkK, e_yes, e_toW, e_toFs_nil, e_toFs_cons, e_tup, e_lst, e_tupR, e_lstR, e_scR, e_f2, e_kR0, e_kR1, e_bits, e_bitsR, e_bm, e_bm_l, e_bm_s, e_app, e_appR, e_asg, e_seqG, e_gsc, e_gsn, e_gTp, e_exc_try, e_turnR_n, e_turnR_c, e_turnR_b, e_turnR_r, e_setIx, e_setA, e_setB, e_setC, e_iter, e_sl, e_pSome, e_pR, e_pNone, e_listR1, e_lr1, e_prepB_nil, e_prepB_cons, e_arg_ff, e_arg_la, e_lentA, e_arg_lf, e_arg_lb, e_arg_ta, e_ownA, e_arg_tv, e_callL, e_callRB, e_calledB, e_calledBR, e_calledBX, e_backB, e_lkBack_nil, e_lkBack_cons, e_nbs_nil, e_nbs_cons, e_nb_f, e_nb_l, e_nb_o, e_nbF_nil, e_nbF_cons, e_nbs_map, e_makeL, e_madeBR, e_methL, e_methLR_f, e_toWs_nil, e_toWs_cons, e_lstW, e_lstWR, e_mPk, e_pkR_i, e_pkR_s, e_pkR_b, e_setP, e_nin_al, e_in_al, e_in_ft, e_in_fl, e_nin_ft, e_nin_fl, e_eqS, e_neS, e_eqB, e_neB, e_sl_s, e_handed_a, e_handedA, e_f1R_len, e_kR2, e_seqK_l, e_seqK_t, e_items_al, e_items_fl, e_items_ft, e_items_ol, e_tuple_v, e_tuple_a, e_tupA, e_tuple_l, e_tuple_t, e_list_l, e_list_t, e_list_o, e_aug, e_augA, e_addI, e_subI, e_chain, e_chR, e_chK, e_fldR_f, List.getElem?_cons_zero, List.getElem?_cons_succ, List.set_cons_zero, List.set_cons_succ, List.length_cons, List.length_nil, Option.map_some, Option.map_none, Option.bind_some, Option.bind_none, if_true, if_false, ite_true, ite_false, reduceIte, decide_true, decide_false, Bool.not_true, Bool.not_false, Bool.and_true, Bool.true_and, Bool.and_false, Bool.false_and, Bool.or_true, Bool.true_or, Bool.or_false, Bool.false_or, ne_eq, not_false_eq_true, not_true_eq_false, Option.some.injEq, reduceCtorEq, and_self, and_true, true_and, Bool.false_eq_true, List.nil_append, List.cons_append, List.append_nil, decide_eq_true_eq, lk, e_seqK_l]
theorem wsum_is (es : List En) (hl : es.length ≤ 1000) (x0 x1 x2 x4 x5 x6 x7 x8 x9 : Option W) :
    mLc true (fo_l_body_3 K A) [8] (mIter (mVar 3)) (gNm (fo_l_body_3 K A) 8) mYes (m_l_body_e4 K A) [x0, x1, x2, some (.frz (.lst (es.map eD))), x4, x5, x6, x7, x8, x9] =
      .ok (.val (.olst (es.map fun e => W.frz (.int e.w)))) [x0, x1, x2, some (.frz (.lst (es.map eD))), x4, x5, x6, x7, none, x9] := by
  have key := lc_all (kp := true) (vs := [8]) (g := gNm (fo_l_body_3 K A) 8) (me := m_l_body_e4 K A) (fun e => .frz (eD e)) (fun e => W.frz (.int e.w)) (L := [x0, x1, x2, some (.frz (.lst (es.map eD))), x4, x5, x6, x7, none, x9]) es (fun e he => by
    refine ⟨[x0, x1, x2, some (.frz (.lst (es.map eD))), x4, x5, x6, x7, some (.frz (eD e)), x9], [x0, x1, x2, some (.frz (.lst (es.map eD))), x4, x5, x6, x7, some (.frz (eD e)), x9], [x0, x1, x2, some (.frz (.lst (es.map eD))), x4, x5, x6, x7, some (.frz (eD e)), x9], .val (.frz (.int e.w)), rfl, ?_, rfl, rfl⟩
    generalize es.map eD = ed at *
    simp (decide := true) only [e_bind, e_then, e_badb, e_var, e_lk_f, e_lk_b, e_lk_l, e_lk_t, e_lk_o, e_C, e_op, e_seq, e_seq_n, e_seq_r, e_seq_b, e_seq_c, e_nil, e_brk, e_exp, e_set, e_asgn, e_ret, e_handed, e_if, e_ifE, e_mBl, e_blR, e_not, e_and, e_or, e_andV, e_orV, e_notV, e_tru, e_truR, e_add, e_sub, e_mul, e_div, e_mod, e_pow, e_lt, e_gt, e_le, e_ge, e_eq, e_ne, e_neg, e_nilA, e_cons, e_callB, e_f1, e_len_str, e_len_lst, e_len_lok, e_len_tup, e_int, e_abs, e_par, e_no, e_while, e_for, e_gNm, e_range1, e_range2, e_rg1, e_rg2, e_slotW, e_get_v, e_get_a, e_fr_f, e_toFv, e_toF_v, e_toF_a, e_toFb, e_toFa, e_fr_l, e_fr_o, e_frs_nil, e_frs_frz, e_frs_cons, e_frF_nil, e_frF_cons, e_prep_nil, e_prep_f, e_prep_t, e_prepT, e_prep_v, e_called, e_calledR, e_bkR, e_back_nil, e_back_cons, e_call, e_callR, e_madeF, e_make, e_fld, e_fldSet, e_fldSetR, e_meth, e_f1l, e_f1a, e_rd_f, e_mkK, e_yes, e_toW, e_toFs_nil, e_toFs_cons, e_tup, e_lst, e_tupR, e_lstR, e_scR, e_f2, e_kR0, e_kR1, e_bits, e_bitsR, e_bm, e_bm_l, e_bm_s, e_app, e_appR, e_asg, e_seqG, e_gsc, e_gsn, e_gTp, e_exc_try, e_turnR_n, e_turnR_c, e_turnR_b, e_turnR_r, e_setIx, e_setA, e_setB, e_setC, e_iter, e_sl, e_pSome, e_pR, e_pNone, e_listR1, e_lr1, e_prepB_nil, e_prepB_cons, e_arg_ff, e_arg_la, e_lentA, e_arg_lf, e_arg_lb, e_arg_ta, e_ownA, e_arg_tv, e_callL, e_callRB, e_calledB, e_calledBR, e_calledBX, e_backB, e_lkBack_nil, e_lkBack_cons, e_nbs_nil, e_nbs_cons, e_nb_f, e_nb_l, e_nb_o, e_nbF_nil, e_nbF_cons, e_nbs_map, e_makeL, e_madeBR, e_methL, e_methLR_f, e_toWs_nil, e_toWs_cons, e_lstW, e_lstWR, e_mPk, e_pkR_i, e_pkR_s, e_pkR_b, e_setP, e_nin_al, e_in_al, e_in_ft, e_in_fl, e_nin_ft, e_nin_fl, e_eqS, e_neS, e_eqB, e_neB, e_sl_s, e_handed_a, e_handedA, e_f1R_len, e_kR2, e_seqK_l, e_seqK_t, e_items_al, e_items_fl, e_items_ft, e_items_ol, e_tuple_v, e_tuple_a, e_tupA, e_tuple_l, e_tuple_t, e_list_l, e_list_t, e_list_o, e_aug, e_augA, e_addI, e_subI, e_chain, e_chR, e_chK, e_fldR_f, List.getElem?_cons_zero, List.getElem?_cons_succ, List.set_cons_zero, List.set_cons_succ, List.length_cons, List.length_nil, Option.map_some, Option.map_none, Option.bind_some, Option.bind_none, if_true, if_false, ite_true, ite_false, reduceIte, decide_true, decide_false, Bool.not_true, Bool.not_false, Bool.and_true, Bool.true_and, Bool.and_false, Bool.false_and, Bool.or_true, Bool.true_or, Bool.or_false, Bool.false_or, ne_eq, not_false_eq_true, not_true_eq_false, Option.some.injEq, reduceCtorEq, and_self, and_true, true_and, Bool.false_eq_true, List.nil_append, List.cons_append, List.append_nil, decide_eq_true_eq, m_l_body_e4]) (by omega)
  refine mLc_ok (ws := es.map fun e => .frz (eD e)) (L1 := [x0, x1, x2, some (.frz (.lst (es.map eD))), x4, x5, x6, x7, x8, x9]) ?_ key rfl
  have : (es.map fun e => W.frz (eD e)) = (es.map eD).map .frz := by rw [List.map_map]; rfl
  rw [this]
  generalize es.map eD = ed at *
  simp (decide := true) only [e_bind, e_then, e_badb, e_var, e_lk_f, e_lk_b, e_lk_l, e_lk_t, e_lk_o, e_C, e_op, e_seq, e_seq_n, e_seq_r, e_seq_b, e_seq_c, e_nil, e_brk, e_exp, e_set, e_asgn, e_ret, e_handed, e_if, e_ifE, e_mBl, e_blR, e_not, e_and, e_or, e_andV, e_orV, e_notV, e_tru, e_truR, e_add, e_sub, e_mul, e_div, e_mod, e_pow, e_lt, e_gt, e_le, e_ge, e_eq, e_ne, e_neg, e_nilA, e_cons, e_callB, e_f1, e_len_str, e_len_lst, e_len_lok, e_len_tup, e_int, e_abs, e_par, e_no, e_while, e_for, e_gNm, e_range1, e_range2, e_rg1, e_rg2, e_slotW, e_get_v, e_get_a, e_fr_f, e_toFv, e_toF_v, e_toF_a, e_toFb, e_toFa, e_fr_l, e_fr_o, e_frs_nil, e_frs_frz, e_frs_cons, e_frF_nil, e_frF_cons, e_prep_nil, e_prep_f, e_prep_t, e_prepT, e_prep_v, e_called, e_calledR, e_bkR, e_back_nil, e_back_cons, e_call, e_callR, e_madeF, e_make, e_fld, e_fldSet, e_fldSetR, e_meth, e_f1l, e_f1a, e_rd_f, e_mkK, e_yes, e_toW, e_toFs_nil, e_toFs_cons, e_tup, e_lst, e_tupR, e_lstR, e_scR, e_f2, e_kR0, e_kR1, e_bits, e_bitsR, e_bm, e_bm_l, e_bm_s, e_app, e_appR, e_asg, e_seqG, e_gsc, e_gsn, e_gTp, e_exc_try, e_turnR_n, e_turnR_c, e_turnR_b, e_turnR_r, e_setIx, e_setA, e_setB, e_setC, e_iter, e_sl, e_pSome, e_pR, e_pNone, e_listR1, e_lr1, e_prepB_nil, e_prepB_cons, e_arg_ff, e_arg_la, e_lentA, e_arg_lf, e_arg_lb, e_arg_ta, e_ownA, e_arg_tv, e_callL, e_callRB, e_calledB, e_calledBR, e_calledBX, e_backB, e_lkBack_nil, e_lkBack_cons, e_nbs_nil, e_nbs_cons, e_nb_f, e_nb_l, e_nb_o, e_nbF_nil, e_nbF_cons, e_nbs_map, e_makeL, e_madeBR, e_methL, e_methLR_f, e_toWs_nil, e_toWs_cons, e_lstW, e_lstWR, e_mPk, e_pkR_i, e_pkR_s, e_pkR_b, e_setP, e_nin_al, e_in_al, e_in_ft, e_in_fl, e_nin_ft, e_nin_fl, e_eqS, e_neS, e_eqB, e_neB, e_sl_s, e_handed_a, e_handedA, e_f1R_len, e_kR2, e_seqK_l, e_seqK_t, e_items_al, e_items_fl, e_items_ft, e_items_ol, e_tuple_v, e_tuple_a, e_tupA, e_tuple_l, e_tuple_t, e_list_l, e_list_t, e_list_o, e_aug, e_augA, e_addI, e_subI, e_chain, e_chR, e_chK, e_fldR_f, List.getElem?_cons_zero, List.getElem?_cons_succ, List.set_cons_zero, List.set_cons_succ, List.length_cons, List.length_nil, Option.map_some, Option.map_none, Option.bind_some, Option.bind_none, if_true, if_false, ite_true, ite_false, reduceIte, decide_true, decide_false, Bool.not_true, Bool.not_false, Bool.and_true, Bool.true_and, Bool.and_false, Bool.false_and, Bool.or_true, Bool.true_or, Bool.or_false, Bool.false_or, ne_eq, not_false_eq_true, not_true_eq_false, Option.some.injEq, reduceCtorEq, and_self, and_true, true_and, Bool.false_eq_true, List.nil_append, List.cons_append, List.append_nil, decide_eq_true_eq, e_items_fl]
theorem back_is (ns : List Int) (h0 : ns.length < 1000) (x0 x1 x2 x3 x4 x5 x6 x8 x9 : Option W) :
    ∃ ms : List Int, (∀ m ∈ ms, m ∈ ns) ∧ mLc true (fo_l_body_5 K A) [9] (mRange1 (mCons (mCallB (f1 lenD) (mCons (mVar 7) mNil)) mNil)) (gNm (fo_l_body_5 K A) 9) mYes (m_l_body_e6 K A) [x0, x1, x2, x3, x4, x5, x6, some (.frz (.lst (ns.map D.int))), x8, x9] =
      .ok (.val (oL (ms.map D.int))) [x0, x1, x2, x3, x4, x5, x6, some (.frz (.lst (ns.map D.int))), x8, none] := by
  have hlen : lenD (.lst (ns.map D.int)) = some (.int (ns.length : Nat)) := by show some (D.int ((ns.map D.int).length : Nat)) = _; rw [List.length_map]
  have key := lc_all (kp := true) (vs := [9]) (g := gNm (fo_l_body_5 K A) 9) (me := m_l_body_e6 K A) (fun k : Nat => .frz (.int (0 + (k : Nat)))) (fun k : Nat => W.frz (.int (ns.getD (ns.length - 1 - k) 0))) (L := [x0, x1, x2, x3, x4, x5, x6, some (.frz (.lst (ns.map D.int))), x8, none]) (List.range ns.length) (fun k hk => by
    rw [List.mem_range] at hk
    refine ⟨[x0, x1, x2, x3, x4, x5, x6, some (.frz (.lst (ns.map D.int))), x8, some (iW (0 + (k : Nat)))], [x0, x1, x2, x3, x4, x5, x6, some (.frz (.lst (ns.map D.int))), x8, some (iW (0 + (k : Nat)))], [x0, x1, x2, x3, x4, x5, x6, some (.frz (.lst (ns.map D.int))), x8, some (iW (0 + (k : Nat)))], .val (.frz (.int (ns.getD (ns.length - 1 - k) 0))), rfl, ?_, rfl, rfl⟩
    have hi : ns.length - 1 - k < ns.length := by omega
    have ix := fun L : Lc => ix_fL (L := L) (ds := ns.map D.int) (i := ns.length - 1 - k) (d := .int (ns.getD (ns.length - 1 - k) 0)) (by rw [List.getElem?_map, List.getElem?_eq_getElem hi, List.getD_eq_getElem?_getD, List.getElem?_eq_getElem hi]; rfl)
    have ei : ((ns.length : Nat) : Int) - 1 - (0 + ((k : Nat) : Int)) = ((ns.length - 1 - k : Nat) : Int) := by omega
    generalize ns.getD (ns.length - 1 - k) 0 = v at *
    generalize ns.map D.int = nd at *
    generalize ((ns.length - 1 - k : Nat) : Int) = q at *
    generalize ((ns.length : Nat) : Int) = l1 at *
    simp (decide := true) only [e_bind, e_then, e_badb, e_var, e_lk_f, e_lk_b, e_lk_l, e_lk_t, e_lk_o, e_C, e_op, e_seq, e_seq_n, e_seq_r, e_seq_b, e_seq_c, e_nil, e_brk, e_exp, e_set, e_asgn, e_ret, e_handed, e_if, e_ifE, e_mBl, e_blR, e_not, e_and, e_or, e_andV, e_orV, e_notV, e_tru, e_truR, e_add, e_sub, e_mul, e_div, e_mod, e_pow, e_lt, e_gt, e_le, e_ge, e_eq, e_ne, e_neg, e_nilA, e_cons, e_callB, e_f1, e_len_str, e_len_lst, e_len_lok, e_len_tup, e_int, e_abs, e_par, e_no, e_while, e_for, e_gNm, e_range1, e_range2, e_rg1, e_rg2, e_slotW, e_get_v, e_get_a, e_fr_f, e_toFv, e_toF_v, e_toF_a, e_toFb, e_toFa, e_fr_l, e_fr_o, e_frs_nil, e_frs_frz, e_frs_cons, e_frF_nil, e_frF_cons, e_prep_nil, e_prep_f, e_prep_t, e_prepT, e_prep_v, e_called, e_calledR, e_bkR, e_back_nil, e_back_cons, e_call, e_callR, e_madeF, e_make, e_fld, e_fldSet, e_fldSetR, e_meth, e_f1l, e_f1a, e_rd_f, e_mkK, e_yes, e_toW, e_toFs_nil, e_toFs_cons, e_tup, e_lst, e_tupR, e_lstR, e_scR, e_f2, e_kR0, e_kR1, e_bits, e_bitsR, e_bm, e_bm_l, e_bm_s, e_app, e_appR, e_asg, e_seqG, e_gsc, e_gsn, e_gTp, e_exc_try, e_turnR_n, e_turnR_c, e_turnR_b, e_turnR_r, e_setIx, e_setA, e_setB, e_setC, e_iter, e_sl, e_pSome, e_pR, e_pNone, e_listR1, e_lr1, e_prepB_nil, e_prepB_cons, e_arg_ff, e_arg_la, e_lentA, e_arg_lf, e_arg_lb, e_arg_ta, e_ownA, e_arg_tv, e_callL, e_callRB, e_calledB, e_calledBR, e_calledBX, e_backB, e_lkBack_nil, e_lkBack_cons, e_nbs_nil, e_nbs_cons, e_nb_f, e_nb_l, e_nb_o, e_nbF_nil, e_nbF_cons, e_nbs_map, e_makeL, e_madeBR, e_methL, e_methLR_f, e_toWs_nil, e_toWs_cons, e_lstW, e_lstWR, e_mPk, e_pkR_i, e_pkR_s, e_pkR_b, e_setP, e_nin_al, e_in_al, e_in_ft, e_in_fl, e_nin_ft, e_nin_fl, e_eqS, e_neS, e_eqB, e_neB, e_sl_s, e_handed_a, e_handedA, e_f1R_len, e_kR2, e_seqK_l, e_seqK_t, e_items_al, e_items_fl, e_items_ft, e_items_ol, e_tuple_v, e_tuple_a, e_tupA, e_tuple_l, e_tuple_t, e_list_l, e_list_t, e_list_o, e_aug, e_augA, e_addI, e_subI, e_chain, e_chR, e_chK, e_fldR_f, List.getElem?_cons_zero, List.getElem?_cons_succ, List.set_cons_zero, List.set_cons_succ, List.length_cons, List.length_nil, Option.map_some, Option.map_none, Option.bind_some, Option.bind_none, if_true, if_false, ite_true, ite_false, reduceIte, decide_true, decide_false, Bool.not_true, Bool.not_false, Bool.and_true, Bool.true_and, Bool.and_false, Bool.false_and, Bool.or_true, Bool.true_or, Bool.or_false, Bool.false_or, ne_eq, not_false_eq_true, not_true_eq_false, Option.some.injEq, reduceCtorEq, and_self, and_true, true_and, Bool.false_eq_true, List.nil_append, List.cons_append, List.append_nil, decide_eq_true_eq, m_l_body_e6, hlen, ei, ix]) (by rw [List.length_range]; omega)
  refine ⟨(List.range ns.length).map fun k => ns.getD (ns.length - 1 - k) 0, fun m hm => ?_, ?_⟩
  · obtain ⟨k, hk, rfl⟩ := List.mem_map.mp hm
    rw [List.mem_range] at hk
    have hi : ns.length - 1 - k < ns.length := by omega
    rw [List.getD_eq_getElem?_getD, List.getElem?_eq_getElem hi]
    exact List.getElem_mem _
  · have e2 : oL (((List.range ns.length).map fun k => ns.getD (ns.length - 1 - k) 0).map D.int) = .olst ((List.range ns.length).map fun k => W.frz (.int (ns.getD (ns.length - 1 - k) 0))) := by
      unfold oL
      rw [List.map_map, List.map_map]
      rfl
    rw [e2]
    refine mLc_ok (ws := (List.range ns.length).map fun k : Nat => .frz (.int (0 + (k : Nat)))) (L1 := [x0, x1, x2, x3, x4, x5, x6, some (.frz (.lst (ns.map D.int))), x8, x9]) ?_ key rfl
    have rk : SzR ((ns.length : Nat) : Int) := szR (by omega) (by omega)
    have nk : (((ns.length : Nat) : Int)).toNat = ns.length := by omega
    show _ = Res.ok (intsW 0 ns.length) _
    generalize ns.map D.int = nd at *
    generalize ((ns.length : Nat) : Int) = l1 at *
    simp (decide := true) only [e_bind, e_then, e_badb, e_var, e_lk_f, e_lk_b, e_lk_l, e_lk_t, e_lk_o, e_C, e_op, e_seq, e_seq_n, e_seq_r, e_seq_b, e_seq_c, e_nil, e_brk, e_exp, e_set, e_asgn, e_ret, e_handed, e_if, e_ifE, e_mBl, e_blR, e_not, e_and, e_or, e_andV, e_orV, e_notV, e_tru, e_truR, e_add, e_sub, e_mul, e_div, e_mod, e_pow, e_lt, e_gt, e_le, e_ge, e_eq, e_ne, e_neg, e_nilA, e_cons, e_callB, e_f1, e_len_str, e_len_lst, e_len_lok, e_len_tup, e_int, e_abs, e_par, e_no, e_while, e_for, e_gNm, e_range1, e_range2, e_rg1, e_rg2, e_slotW, e_get_v, e_get_a, e_fr_f, e_toFv, e_toF_v, e_toF_a, e_toFb, e_toFa, e_fr_l, e_fr_o, e_frs_nil, e_frs_frz, e_frs_cons, e_frF_nil, e_frF_cons, e_prep_nil, e_prep_f, e_prep_t, e_prepT, e_prep_v, e_called, e_calledR, e_bkR, e_back_nil, e_back_cons, e_call, e_callR, e_madeF, e_make, e_fld, e_fldSet, e_fldSetR, e_meth, e_f1l, e_f1a, e_rd_f, e_mkK, e_yes, e_toW, e_toFs_nil, e_toFs_cons, e_tup, e_lst, e_tupR, e_lstR, e_scR, e_f2, e_kR0, e_kR1, e_bits, e_bitsR, e_bm, e_bm_l, e_bm_s, e_app, e_appR, e_asg, e_seqG, e_gsc, e_gsn, e_gTp, e_exc_try, e_turnR_n, e_turnR_c, e_turnR_b, e_turnR_r, e_setIx, e_setA, e_setB, e_setC, e_iter, e_sl, e_pSome, e_pR, e_pNone, e_listR1, e_lr1, e_prepB_nil, e_prepB_cons, e_arg_ff, e_arg_la, e_lentA, e_arg_lf, e_arg_lb, e_arg_ta, e_ownA, e_arg_tv, e_callL, e_callRB, e_calledB, e_calledBR, e_calledBX, e_backB, e_lkBack_nil, e_lkBack_cons, e_nbs_nil, e_nbs_cons, e_nb_f, e_nb_l, e_nb_o, e_nbF_nil, e_nbF_cons, e_nbs_map, e_makeL, e_madeBR, e_methL, e_methLR_f, e_toWs_nil, e_toWs_cons, e_lstW, e_lstWR, e_mPk, e_pkR_i, e_pkR_s, e_pkR_b, e_setP, e_nin_al, e_in_al, e_in_ft, e_in_fl, e_nin_ft, e_nin_fl, e_eqS, e_neS, e_eqB, e_neB, e_sl_s, e_handed_a, e_handedA, e_f1R_len, e_kR2, e_seqK_l, e_seqK_t, e_items_al, e_items_fl, e_items_ft, e_items_ol, e_tuple_v, e_tuple_a, e_tupA, e_tuple_l, e_tuple_t, e_list_l, e_list_t, e_list_o, e_aug, e_augA, e_addI, e_subI, e_chain, e_chR, e_chK, e_fldR_f, List.getElem?_cons_zero, List.getElem?_cons_succ, List.set_cons_zero, List.set_cons_succ, List.length_cons, List.length_nil, Option.map_some, Option.map_none, Option.bind_some, Option.bind_none, if_true, if_false, ite_true, ite_false, reduceIte, decide_true, decide_false, Bool.not_true, Bool.not_false, Bool.and_true, Bool.true_and, Bool.and_false, Bool.false_and, Bool.or_true, Bool.true_or, Bool.or_false, Bool.false_or, ne_eq, not_false_eq_true, not_true_eq_false, Option.some.injEq, reduceCtorEq, and_self, and_true, true_and, Bool.false_eq_true, List.nil_append, List.cons_append, List.append_nil, decide_eq_true_eq, hlen, rk, nk]
theorem rds_len (ws : List W) : (rds ws).length = ws.length := by
  induction ws with
  | nil => rw [rds]; rfl
  | cons w ws ih => rw [rds, List.length_cons, List.length_cons, ih]
theorem sp1 (e : En) (er : List En) (x0 x1 x2 x3 x5 x6 x7 x8 x9 : Option W) :
    sSetP 4 (pIx 4 p0 (kC (.int 0))) (kC (.int 0)) (mOp aAddU (mPk (kIx (kIx (kVar 4) (kC (.int 0))) (kC (.int 0)))) (mC (.int 3))) [x0, x1, x2, x3, some (.olst ((e :: er).map hW)), x5, x6, x7, x8, x9] =
      .next [x0, x1, x2, x3, some (.olst (.olst [.frz (.int (e.w + 3)), .frz (.str e.t), .olst ((sD e.a).map .frz)] :: er.map hW)), x5, x6, x7, x8, x9] := by
  have hrd := rd_h (e :: er)
  have hpk : kIx (kIx (kVar 4) (kC (.int 0))) (kC (.int 0)) [x0, x1, x2, x3, some (.olst ((e :: er).map hW)), x5, x6, x7, x8, x9] = some (.int e.w) := by
    have h1 : kVar 4 [x0, x1, x2, x3, some (.olst ((e :: er).map hW)), x5, x6, x7, x8, x9] = some (.lst ((e :: er).map hD)) := by
      show some ((W.olst ((e :: er).map hW)).rd) = _
      rw [hrd]
    have h2 : kIx (kVar 4) (kC (.int 0)) [x0, x1, x2, x3, some (.olst ((e :: er).map hW)), x5, x6, x7, x8, x9] = some (hD e) := by
      unfold kIx
      rw [h1]
      exact BV.atI_nat (xs := (e :: er).map hD) (i := 0) rfl
    unfold kIx at h2 ⊢
    rw [h2]
    rfl
  have hpm : pIx 4 p0 (kC (.int 0)) [x0, x1, x2, x3, some (.olst ((e :: er).map hW)), x5, x6, x7, x8, x9] = some [.ix 0] := by
    show ((ixN ((e :: er).map hW).length 0).map fun n => [] ++ [Step.ix n]) = _
    rw [show (0 : Int) = ((0 : Nat) : Int) from rfl, ixN_nat (by rw [List.map_cons, List.length_cons]; omega)]
    rfl
  have hst := setPR_of (L := [x0, x1, x2, x3, some (.olst ((e :: er).map hW)), x5, x6, x7, x8, x9]) (i := 4) (d := .int (e.w + 3)) (p := [.ix 0]) (j := 0) (ws := [.frz (.int e.w), .frz (.str e.t), .olst ((sD e.a).map .frz)]) (n := 0) rfl (ixN_nat (i := 0) (Nat.succ_pos _))
  have hwp : wput [x0, x1, x2, x3, some (.olst ((e :: er).map hW)), x5, x6, x7, x8, x9] 4 [.ix 0] (.olst ([W.frz (.int e.w), W.frz (.str e.t), W.olst ((sD e.a).map .frz)].set 0 (.frz (.int (e.w + 3))))) = [x0, x1, x2, x3, some (.olst (.olst [.frz (.int (e.w + 3)), .frz (.str e.t), .olst ((sD e.a).map .frz)] :: er.map hW)), x5, x6, x7, x8, x9] := rfl
  rw [hwp] at hst
  have hkc : ∀ L : Lc, kC (.int 0) L = some (.int 0) := fun _ => rfl
  generalize (W.olst (.olst [.frz (.int (e.w + 3)), .frz (.str e.t), .olst ((sD e.a).map .frz)] :: er.map hW)) = w2 at *
  generalize (W.olst ((e :: er).map hW)) = w1 at *
  simp (decide := true) only [e_bind, e_then, e_badb, e_var, e_lk_f, e_lk_b, e_lk_l, e_lk_t, e_lk_o, e_C, e_op, e_seq, e_seq_n, e_seq_r, e_seq_b, e_seq_c, e_nil, e_brk, e_exp, e_set, e_asgn, e_ret, e_handed, e_if, e_ifE, e_mBl, e_blR, e_not, e_and, e_or, e_andV, e_orV, e_notV, e_tru, e_truR, e_add, e_sub, e_mul, e_div, e_mod, e_pow, e_lt, e_gt, e_le, e_ge, e_eq, e_ne, e_neg, e_nilA, e_cons, e_callB, e_f1, e_len_str, e_len_lst, e_len_lok, e_len_tup, e_int, e_abs, e_par, e_no, e_while, e_for, e_gNm, e_range1, e_range2, e_rg1, e_rg2, e_slotW, e_get_v, e_get_a, e_fr_f, e_toFv, e_toF_v, e_toF_a, e_toFb, e_toFa, e_fr_l, e_fr_o, e_frs_nil, e_frs_frz, e_frs_cons, e_frF_nil, e_frF_cons, e_prep_nil, e_prep_f, e_prep_t, e_prepT, e_prep_v, e_called, e_calledR, e_bkR, e_back_nil, e_back_cons, e_call, e_callR, e_madeF, e_make, e_fld, e_fldSet, e_fldSetR, e_meth, e_f1l, e_f1a, e_rd_f, e_mkK, e_yes, e_toW, e_toFs_nil, e_toFs_cons, e_tup, e_lst, e_tupR, e_lstR, e_scR, e_f2, e_kR0, e_kR1, e_bits, e_bitsR, e_bm, e_bm_l, e_bm_s, e_app, e_appR, e_asg, e_seqG, e_gsc, e_gsn, e_gTp, e_exc_try, e_turnR_n, e_turnR_c, e_turnR_b, e_turnR_r, e_setIx, e_setA, e_setB, e_setC, e_iter, e_sl, e_pSome, e_pR, e_pNone, e_listR1, e_lr1, e_prepB_nil, e_prepB_cons, e_arg_ff, e_arg_la, e_lentA, e_arg_lf, e_arg_lb, e_arg_ta, e_ownA, e_arg_tv, e_callL, e_callRB, e_calledB, e_calledBR, e_calledBX, e_backB, e_lkBack_nil, e_lkBack_cons, e_nbs_nil, e_nbs_cons, e_nb_f, e_nb_l, e_nb_o, e_nbF_nil, e_nbF_cons, e_nbs_map, e_makeL, e_madeBR, e_methL, e_methLR_f, e_toWs_nil, e_toWs_cons, e_lstW, e_lstWR, e_mPk, e_pkR_i, e_pkR_s, e_pkR_b, e_setP, e_nin_al, e_in_al, e_in_ft, e_in_fl, e_nin_ft, e_nin_fl, e_eqS, e_neS, e_eqB, e_neB, e_sl_s, e_handed_a, e_handedA, e_f1R_len, e_kR2, e_seqK_l, e_seqK_t, e_items_al, e_items_fl, e_items_ft, e_items_ol, e_tuple_v, e_tuple_a, e_tupA, e_tuple_l, e_tuple_t, e_list_l, e_list_t, e_list_o, e_aug, e_augA, e_addI, e_subI, e_chain, e_chR, e_chK, e_fldR_f, List.getElem?_cons_zero, List.getElem?_cons_succ, List.set_cons_zero, List.set_cons_succ, List.length_cons, List.length_nil, Option.map_some, Option.map_none, Option.bind_some, Option.bind_none, if_true, if_false, ite_true, ite_false, reduceIte, decide_true, decide_false, Bool.not_true, Bool.not_false, Bool.and_true, Bool.true_and, Bool.and_false, Bool.false_and, Bool.or_true, Bool.true_or, Bool.or_false, Bool.false_or, ne_eq, not_false_eq_true, not_true_eq_false, Option.some.injEq, reduceCtorEq, and_self, and_true, true_and, Bool.false_eq_true, List.nil_append, List.cons_append, List.append_nil, decide_eq_true_eq, hpk, hpm, hkc, hst]
theorem sp2 (hs : List W) (n : Nat) (x y : W) (zs : List W) (hz : zs.length < 1000) (hl : hs.length = n + 1) (hx : hs[n]? = some (.olst [x, y, .olst zs])) (x0 x1 x2 x3 x5 x6 x7 x8 x9 : Option W) :
    ∃ hs', hs'.length = n + 1 ∧ sAppP 4 (pIx 4 (pIx 4 p0 (kOp (fun i j => .int (i - j)) (kLen (kVar 4)) (kC (.int 1)))) (kC (.int 2))) (mC (.str "later")) [x0, x1, x2, x3, some (.olst hs), x5, x6, x7, x8, x9] =
      .next [x0, x1, x2, x3, some (.olst hs'), x5, x6, x7, x8, x9] := by
  have h1 : kOp (fun i j => .int (i - j)) (kLen (kVar 4)) (kC (.int 1)) [x0, x1, x2, x3, some (.olst hs), x5, x6, x7, x8, x9] = some (.int (n : Nat)) := by
    have : kLen (kVar 4) [x0, x1, x2, x3, some (.olst hs), x5, x6, x7, x8, x9] = some (.int ((n + 1 : Nat) : Int)) := by
      show lenD (W.olst hs).rd = _
      rw [W.rd]
      show some (D.int ((rds hs).length : Nat)) = _
      rw [rds_len, hl]
    unfold kOp
    rw [this]
    show some (D.int (((n + 1 : Nat) : Int) - 1)) = _
    rw [show ((n + 1 : Nat) : Int) - 1 = (n : Nat) by omega]
  have h2 : pIx 4 p0 (kOp (fun i j => .int (i - j)) (kLen (kVar 4)) (kC (.int 1))) [x0, x1, x2, x3, some (.olst hs), x5, x6, x7, x8, x9] = some [.ix n] := by
    unfold pIx
    rw [h1]
    show ((ixN hs.length (n : Nat)).map fun n => [] ++ [Step.ix n]) = _
    rw [ixN_nat (by omega)]
    rfl
  have hat : (W.olst hs).at [.ix n] = some (.olst [x, y, .olst zs]) := by
    unfold W.at
    rw [show (W.olst hs).kid (.ix n) = some (.olst [x, y, .olst zs]) from hx]
    rfl
  have hat2 : (W.olst hs).at [.ix n, .ix 2] = some (.olst zs) := by
    unfold W.at
    rw [show (W.olst hs).kid (.ix n) = some (.olst [x, y, .olst zs]) from hx]
    rfl
  have h3 : pIx 4 (pIx 4 p0 (kOp (fun i j => .int (i - j)) (kLen (kVar 4)) (kC (.int 1)))) (kC (.int 2)) [x0, x1, x2, x3, some (.olst hs), x5, x6, x7, x8, x9] = some [.ix n, .ix 2] := by
    rw [pIx, h2]
    show (match (W.olst hs).at [.ix n] with
      | some (.olst ws) => (ixN ws.length 2).map fun m => [Step.ix n] ++ [Step.ix m]
      | some (.otup ws) => (ixN ws.length 2).map fun m => [Step.ix n] ++ [Step.ix m]
      | _ => none) = _
    rw [hat]
    rfl
  have hap := appP_of (L := [x0, x1, x2, x3, some (.olst hs), x5, x6, x7, x8, x9]) (me := mC (.str "later")) (i := 4) h3 rfl hat2
  refine ⟨hs.set n (.olst [x, y, .olst (zs ++ [.frz (.str "later")])]), by rw [List.length_set, hl], ?_⟩
  rw [hap]
  have hpr := appPR_of (L := [x0, x1, x2, x3, none, x5, x6, x7, x8, x9]) (i := 4) (w := .olst hs) (p := [.ix n, .ix 2]) (ws := zs) (d := .str "later") (small1000 (Nat.le_of_lt hz)) (by show 4 < 10; decide)
  have hwp : wput ([x0, x1, x2, x3, none, x5, x6, x7, x8, x9].set 4 (some (.olst hs))) 4 [.ix n, .ix 2] (.olst (zs ++ [.frz (.str "later")])) = [x0, x1, x2, x3, some (.olst (hs.set n (.olst [x, y, .olst (zs ++ [.frz (.str "later")])]))), x5, x6, x7, x8, x9] := by
    show [x0, x1, x2, x3, some ((W.olst hs).putAt [.ix n, .ix 2] (.olst (zs ++ [.frz (.str "later")]))), x5, x6, x7, x8, x9] = _
    rw [W.putAt, show (W.olst hs).kid (.ix n) = some (.olst [x, y, .olst zs]) from hx]
    rfl
  rw [hwp] at hpr
  show appPR 4 (W.olst hs) [Step.ix n, Step.ix 2] zs (.str "later") [x0, x1, x2, x3, none, x5, x6, x7, x8, x9] = _
  exact hpr
theorem sp3 (hs : List W) (hl : hs.length < 1000) (x0 x1 x2 x3 x5 x6 x7 x8 x9 : Option W) :
    ∃ hs', sExp (mBM "list" gAppend (mVar 4) (mCons (mLstW (mCons (mC (.int 2)) (mCons (mC (.str "other")) (mCons (mLstW mNil) mNil)))) mNil)) [x0, x1, x2, x3, some (.olst hs), x5, x6, x7, x8, x9] =
      .next [x0, x1, x2, x3, some (.olst hs'), x5, x6, x7, x8, x9] := by
  refine ⟨hs ++ [.frz (.lst [.int 2, .str "other", .lst []])], ?_⟩
  have hfr : (W.olst [.frz (.int 2), .frz (.str "other"), .olst []]).fr = some (.lst [.int 2, .str "other", .lst []]) := by
    rw [e_fr_l, e_frs_cons, e_frs_cons, frs_cons_of (d := .lst []) (ds := []) (by rw [e_fr_l, e_frs_nil]; rfl) (by rw [e_frs_nil])]
    rfl
  have hsz : hs.length < sizeLine := small1000 (Nat.le_of_lt hl)
  generalize (("other" : Str)) = z at *
  have lk := fun L : Lc => e_lk_l (L := L) 4 hs
  simp (decide := true) only [e_bind, e_then, e_badb, e_var, e_lk_f, e_lk_b, e_lk_l, e_lk_t, e_lk_o, e_C, e_op, e_seq, e_seq_n, e_seq_r, e_seq_b, e_seq_c, e_nil, e_brk, e_exp, e_set, e_asgn, e_ret, e_handed, e_if, e_ifE, e_mBl, e_blR, e_not, e_and, e_or, e_andV, e_orV, e_notV, e_tru, e_truR, e_add, e_sub, e_mul, e_div, e_mod, e_pow, e_lt, e_gt, e_le, e_ge, e_eq, e_ne, e_neg, e_nilA, e_cons, e_callB, e_f1, e_len_str, e_len_lst, e_len_lok, e_len_tup, e_int, e_abs, e_par, e_no, e_while, e_for, e_gNm, e_range1, e_range2, e_rg1, e_rg2, e_slotW, e_get_v, e_get_a, e_fr_f, e_toFv, e_toF_v, e_toF_a, e_toFb, e_toFa, e_fr_l, e_fr_o, e_frs_nil, e_frs_frz, e_frs_cons, e_frF_nil, e_frF_cons, e_prep_nil, e_prep_f, e_prep_t, e_prepT, e_prep_v, e_called, e_calledR, e_bkR, e_back_nil, e_back_cons, e_call, e_callR, e_madeF, e_make, e_fld, e_fldSet, e_fldSetR, e_meth, e_f1l, e_f1a, e_rd_f, e_mkK, e_yes, e_toW, e_toFs_nil, e_toFs_cons, e_tup, e_lst, e_tupR, e_lstR, e_scR, e_f2, e_kR0, e_kR1, e_bits, e_bitsR, e_bm, e_bm_l, e_bm_s, e_app, e_appR, e_asg, e_seqG, e_gsc, e_gsn, e_gTp, e_exc_try, e_turnR_n, e_turnR_c, e_turnR_b, e_turnR_r, e_setIx, e_setA, e_setB, e_setC, e_iter, e_sl, e_pSome, e_pR, e_pNone, e_listR1, e_lr1, e_prepB_nil, e_prepB_cons, e_arg_ff, e_arg_la, e_lentA, e_arg_lf, e_arg_lb, e_arg_ta, e_ownA, e_arg_tv, e_callL, e_callRB, e_calledB, e_calledBR, e_calledBX, e_backB, e_lkBack_nil, e_lkBack_cons, e_nbs_nil, e_nbs_cons, e_nb_f, e_nb_l, e_nb_o, e_nbF_nil, e_nbF_cons, e_nbs_map, e_makeL, e_madeBR, e_methL, e_methLR_f, e_toWs_nil, e_toWs_cons, e_lstW, e_lstWR, e_mPk, e_pkR_i, e_pkR_s, e_pkR_b, e_setP, e_nin_al, e_in_al, e_in_ft, e_in_fl, e_nin_ft, e_nin_fl, e_eqS, e_neS, e_eqB, e_neB, e_sl_s, e_handed_a, e_handedA, e_f1R_len, e_kR2, e_seqK_l, e_seqK_t, e_items_al, e_items_fl, e_items_ft, e_items_ol, e_tuple_v, e_tuple_a, e_tupA, e_tuple_l, e_tuple_t, e_list_l, e_list_t, e_list_o, e_aug, e_augA, e_addI, e_subI, e_chain, e_chR, e_chK, e_fldR_f, List.getElem?_cons_zero, List.getElem?_cons_succ, List.set_cons_zero, List.set_cons_succ, List.length_cons, List.length_nil, Option.map_some, Option.map_none, Option.bind_some, Option.bind_none, if_true, if_false, ite_true, ite_false, reduceIte, decide_true, decide_false, Bool.not_true, Bool.not_false, Bool.and_true, Bool.true_and, Bool.and_false, Bool.false_and, Bool.or_true, Bool.true_or, Bool.or_false, Bool.false_or, ne_eq, not_false_eq_true, not_true_eq_false, Option.some.injEq, reduceCtorEq, and_self, and_true, true_and, Bool.false_eq_true, List.nil_append, List.cons_append, List.append_nil, decide_eq_true_eq, lk, hfr, hsz]
theorem body_is (ns0 : List Int) (h0 : ns0.length ≤ 63) : fn_l_body K A [.frz (.lok (ns0.map D.int))] = .ok (.frz (.bl true)) [] := by
  obtain ⟨s1, e1, o1⟩ := start_is (K := K) (A := A) ns0 h0
  obtain ⟨s2, ps, e2, o2, hp, hpz, hpl⟩ := pool_is (K := K) (A := A) o1
  obtain ⟨s3, es, e3, o3, hes, hez, hel⟩ := entries_is (K := K) (A := A) o2 hpz hpl
  have hw : ∀ e ∈ es, 1 ≤ e.w := fun e he => (hes e he).w0
  have ha : ∀ e ∈ es, e.a.length < 64 := fun e he => Nat.lt_of_le_of_lt (hes e he).al (by decide)
  have ht := total_nn es hw
  obtain ⟨s4, ns, e4, o4, hns, hnz, hnl⟩ := numbers_is (K := K) (A := A) o3 es hw hez hel
  have e5 := keys_are_is (K := K) (A := A) es (by omega) ns hns
  have mk1 := init_is (K := K) (A := A) (es := es) (w := .brw (.lst (es.map hD))) (ws := es.map fun e => .brw (hD e)) (fun _ _ => rfl) (fun L => by
    show Res.ok ((es.map hD).map mkB) L = _
    rw [mkB_h]) (tris_h es ha) hw (by omega)
  obtain ⟨e, er, rfl⟩ : ∃ e er, es = e :: er := by
    cases es with
    | nil => exact absurd hez (Nat.lt_irrefl 0)
    | cons e er => exact ⟨e, er, rfl⟩
  generalize hes' : e :: er = es at *
  -- the steps
  have g1 : sSet fl_l_body 1 (mCall fl_l_start (fn_l_start K A) (mCons (mVar 0) mNil)) [some (.frz (.lok (ns0.map D.int))), none, none, none, none, none, none, none, none, none] = .next [some (.frz (.lok (ns0.map D.int))), some (stW s1), none, none, none, none, none, none, none, none] := by
    generalize D.lok (ns0.map D.int) = sc at *
    simp (decide := true) only [e_bind, e_then, e_badb, e_var, e_lk_f, e_lk_b, e_lk_l, e_lk_t, e_lk_o, e_C, e_op, e_seq, e_seq_n, e_seq_r, e_seq_b, e_seq_c, e_nil, e_brk, e_exp, e_set, e_asgn, e_ret, e_handed, e_if, e_ifE, e_mBl, e_blR, e_not, e_and, e_or, e_andV, e_orV, e_notV, e_tru, e_truR, e_add, e_sub, e_mul, e_div, e_mod, e_pow, e_lt, e_gt, e_le, e_ge, e_eq, e_ne, e_neg, e_nilA, e_cons, e_callB, e_f1, e_len_str, e_len_lst, e_len_lok, e_len_tup, e_int, e_abs, e_par, e_no, e_while, e_for, e_gNm, e_range1, e_range2, e_rg1, e_rg2, e_slotW, e_get_v, e_get_a, e_fr_f, e_toFv, e_toF_v, e_toF_a, e_toFb, e_toFa, e_fr_l, e_fr_o, e_frs_nil, e_frs_frz, e_frs_cons, e_frF_nil, e_frF_cons, e_prep_nil, e_prep_f, e_prep_t, e_prepT, e_prep_v, e_called, e_calledR, e_bkR, e_back_nil, e_back_cons, e_call, e_callR, e_madeF, e_make, e_fld, e_fldSet, e_fldSetR, e_meth, e_f1l, e_f1a, e_rd_f, e_mkK, e_yes, e_toW, e_toFs_nil, e_toFs_cons, e_tup, e_lst, e_tupR, e_lstR, e_scR, e_f2, e_kR0, e_kR1, e_bits, e_bitsR, e_bm, e_bm_l, e_bm_s, e_app, e_appR, e_asg, e_seqG, e_gsc, e_gsn, e_gTp, e_exc_try, e_turnR_n, e_turnR_c, e_turnR_b, e_turnR_r, e_setIx, e_setA, e_setB, e_setC, e_iter, e_sl, e_pSome, e_pR, e_pNone, e_listR1, e_lr1, e_prepB_nil, e_prepB_cons, e_arg_ff, e_arg_la, e_lentA, e_arg_lf, e_arg_lb, e_arg_ta, e_ownA, e_arg_tv, e_callL, e_callRB, e_calledB, e_calledBR, e_calledBX, e_backB, e_lkBack_nil, e_lkBack_cons, e_nbs_nil, e_nbs_cons, e_nb_f, e_nb_l, e_nb_o, e_nbF_nil, e_nbF_cons, e_nbs_map, e_makeL, e_madeBR, e_methL, e_methLR_f, e_toWs_nil, e_toWs_cons, e_lstW, e_lstWR, e_mPk, e_pkR_i, e_pkR_s, e_pkR_b, e_setP, e_nin_al, e_in_al, e_in_ft, e_in_fl, e_nin_ft, e_nin_fl, e_eqS, e_neS, e_eqB, e_neB, e_sl_s, e_handed_a, e_handedA, e_f1R_len, e_kR2, e_seqK_l, e_seqK_t, e_items_al, e_items_fl, e_items_ft, e_items_ol, e_tuple_v, e_tuple_a, e_tupA, e_tuple_l, e_tuple_t, e_list_l, e_list_t, e_list_o, e_aug, e_augA, e_addI, e_subI, e_chain, e_chR, e_chK, e_fldR_f, List.getElem?_cons_zero, List.getElem?_cons_succ, List.set_cons_zero, List.set_cons_succ, List.length_cons, List.length_nil, Option.map_some, Option.map_none, Option.bind_some, Option.bind_none, if_true, if_false, ite_true, ite_false, reduceIte, decide_true, decide_false, Bool.not_true, Bool.not_false, Bool.and_true, Bool.true_and, Bool.and_false, Bool.false_and, Bool.or_true, Bool.true_or, Bool.or_false, Bool.false_or, ne_eq, not_false_eq_true, not_true_eq_false, Option.some.injEq, reduceCtorEq, and_self, and_true, true_and, Bool.false_eq_true, List.nil_append, List.cons_append, List.append_nil, decide_eq_true_eq, e1]
  have g2 : ∀ x0, sSet fl_l_body 2 (mCall fl_l_pool (fn_l_pool K A) (mCons (mVar 1) mNil)) [x0, some (stW s1), none, none, none, none, none, none, none, none] = .next [x0, some (stW s2), some (oL (sD ps)), none, none, none, none, none, none, none] := fun x0 => by
    generalize oL (sD ps) = ow at *
    simp (decide := true) only [e_bind, e_then, e_badb, e_var, e_lk_f, e_lk_b, e_lk_l, e_lk_t, e_lk_o, e_C, e_op, e_seq, e_seq_n, e_seq_r, e_seq_b, e_seq_c, e_nil, e_brk, e_exp, e_set, e_asgn, e_ret, e_handed, e_if, e_ifE, e_mBl, e_blR, e_not, e_and, e_or, e_andV, e_orV, e_notV, e_tru, e_truR, e_add, e_sub, e_mul, e_div, e_mod, e_pow, e_lt, e_gt, e_le, e_ge, e_eq, e_ne, e_neg, e_nilA, e_cons, e_callB, e_f1, e_len_str, e_len_lst, e_len_lok, e_len_tup, e_int, e_abs, e_par, e_no, e_while, e_for, e_gNm, e_range1, e_range2, e_rg1, e_rg2, e_slotW, e_get_v, e_get_a, e_fr_f, e_toFv, e_toF_v, e_toF_a, e_toFb, e_toFa, e_fr_l, e_fr_o, e_frs_nil, e_frs_frz, e_frs_cons, e_frF_nil, e_frF_cons, e_prep_nil, e_prep_f, e_prep_t, e_prepT, e_prep_v, e_called, e_calledR, e_bkR, e_back_nil, e_back_cons, e_call, e_callR, e_madeF, e_make, e_fld, e_fldSet, e_fldSetR, e_meth, e_f1l, e_f1a, e_rd_f, e_mkK, e_yes, e_toW, e_toFs_nil, e_toFs_cons, e_tup, e_lst, e_tupR, e_lstR, e_scR, e_f2, e_kR0, e_kR1, e_bits, e_bitsR, e_bm, e_bm_l, e_bm_s, e_app, e_appR, e_asg, e_seqG, e_gsc, e_gsn, e_gTp, e_exc_try, e_turnR_n, e_turnR_c, e_turnR_b, e_turnR_r, e_setIx, e_setA, e_setB, e_setC, e_iter, e_sl, e_pSome, e_pR, e_pNone, e_listR1, e_lr1, e_prepB_nil, e_prepB_cons, e_arg_ff, e_arg_la, e_lentA, e_arg_lf, e_arg_lb, e_arg_ta, e_ownA, e_arg_tv, e_callL, e_callRB, e_calledB, e_calledBR, e_calledBX, e_backB, e_lkBack_nil, e_lkBack_cons, e_nbs_nil, e_nbs_cons, e_nb_f, e_nb_l, e_nb_o, e_nbF_nil, e_nbF_cons, e_nbs_map, e_makeL, e_madeBR, e_methL, e_methLR_f, e_toWs_nil, e_toWs_cons, e_lstW, e_lstWR, e_mPk, e_pkR_i, e_pkR_s, e_pkR_b, e_setP, e_nin_al, e_in_al, e_in_ft, e_in_fl, e_nin_ft, e_nin_fl, e_eqS, e_neS, e_eqB, e_neB, e_sl_s, e_handed_a, e_handedA, e_f1R_len, e_kR2, e_seqK_l, e_seqK_t, e_items_al, e_items_fl, e_items_ft, e_items_ol, e_tuple_v, e_tuple_a, e_tupA, e_tuple_l, e_tuple_t, e_list_l, e_list_t, e_list_o, e_aug, e_augA, e_addI, e_subI, e_chain, e_chR, e_chK, e_fldR_f, List.getElem?_cons_zero, List.getElem?_cons_succ, List.set_cons_zero, List.set_cons_succ, List.length_cons, List.length_nil, Option.map_some, Option.map_none, Option.bind_some, Option.bind_none, if_true, if_false, ite_true, ite_false, reduceIte, decide_true, decide_false, Bool.not_true, Bool.not_false, Bool.and_true, Bool.true_and, Bool.and_false, Bool.false_and, Bool.or_true, Bool.true_or, Bool.or_false, Bool.false_or, ne_eq, not_false_eq_true, not_true_eq_false, Option.some.injEq, reduceCtorEq, and_self, and_true, true_and, Bool.false_eq_true, List.nil_append, List.cons_append, List.append_nil, decide_eq_true_eq, st_lk, e2]
  have g3 : ∀ x0, sSet fl_l_body 3 (mCall fl_l_entries (fn_l_entries K A) (mCons (mVar 1) (mCons (mVar 2) mNil))) [x0, some (stW s2), some (oL (sD ps)), none, none, none, none, none, none, none] = .next [x0, some (stW s3), some (.frz (.lst (sD ps))), some (oL (es.map eD)), none, none, none, none, none, none] := fun x0 => by
    have lk := fun L : Lc => e_lk_l (L := L) 2 ((sD ps).map .frz)
    generalize oL (es.map eD) = ow at *
    simp (decide := true) only [e_bind, e_then, e_badb, e_var, e_lk_f, e_lk_b, e_lk_l, e_lk_t, e_lk_o, e_C, e_op, e_seq, e_seq_n, e_seq_r, e_seq_b, e_seq_c, e_nil, e_brk, e_exp, e_set, e_asgn, e_ret, e_handed, e_if, e_ifE, e_mBl, e_blR, e_not, e_and, e_or, e_andV, e_orV, e_notV, e_tru, e_truR, e_add, e_sub, e_mul, e_div, e_mod, e_pow, e_lt, e_gt, e_le, e_ge, e_eq, e_ne, e_neg, e_nilA, e_cons, e_callB, e_f1, e_len_str, e_len_lst, e_len_lok, e_len_tup, e_int, e_abs, e_par, e_no, e_while, e_for, e_gNm, e_range1, e_range2, e_rg1, e_rg2, e_slotW, e_get_v, e_get_a, e_fr_f, e_toFv, e_toF_v, e_toF_a, e_toFb, e_toFa, e_fr_l, e_fr_o, e_frs_nil, e_frs_frz, e_frs_cons, e_frF_nil, e_frF_cons, e_prep_nil, e_prep_f, e_prep_t, e_prepT, e_prep_v, e_called, e_calledR, e_bkR, e_back_nil, e_back_cons, e_call, e_callR, e_madeF, e_make, e_fld, e_fldSet, e_fldSetR, e_meth, e_f1l, e_f1a, e_rd_f, e_mkK, e_yes, e_toW, e_toFs_nil, e_toFs_cons, e_tup, e_lst, e_tupR, e_lstR, e_scR, e_f2, e_kR0, e_kR1, e_bits, e_bitsR, e_bm, e_bm_l, e_bm_s, e_app, e_appR, e_asg, e_seqG, e_gsc, e_gsn, e_gTp, e_exc_try, e_turnR_n, e_turnR_c, e_turnR_b, e_turnR_r, e_setIx, e_setA, e_setB, e_setC, e_iter, e_sl, e_pSome, e_pR, e_pNone, e_listR1, e_lr1, e_prepB_nil, e_prepB_cons, e_arg_ff, e_arg_la, e_lentA, e_arg_lf, e_arg_lb, e_arg_ta, e_ownA, e_arg_tv, e_callL, e_callRB, e_calledB, e_calledBR, e_calledBX, e_backB, e_lkBack_nil, e_lkBack_cons, e_nbs_nil, e_nbs_cons, e_nb_f, e_nb_l, e_nb_o, e_nbF_nil, e_nbF_cons, e_nbs_map, e_makeL, e_madeBR, e_methL, e_methLR_f, e_toWs_nil, e_toWs_cons, e_lstW, e_lstWR, e_mPk, e_pkR_i, e_pkR_s, e_pkR_b, e_setP, e_nin_al, e_in_al, e_in_ft, e_in_fl, e_nin_ft, e_nin_fl, e_eqS, e_neS, e_eqB, e_neB, e_sl_s, e_handed_a, e_handedA, e_f1R_len, e_kR2, e_seqK_l, e_seqK_t, e_items_al, e_items_fl, e_items_ft, e_items_ol, e_tuple_v, e_tuple_a, e_tupA, e_tuple_l, e_tuple_t, e_list_l, e_list_t, e_list_o, e_aug, e_augA, e_addI, e_subI, e_chain, e_chR, e_chK, e_fldR_f, List.getElem?_cons_zero, List.getElem?_cons_succ, List.set_cons_zero, List.set_cons_succ, List.length_cons, List.length_nil, Option.map_some, Option.map_none, Option.bind_some, Option.bind_none, if_true, if_false, ite_true, ite_false, reduceIte, decide_true, decide_false, Bool.not_true, Bool.not_false, Bool.and_true, Bool.true_and, Bool.and_false, Bool.false_and, Bool.or_true, Bool.true_or, Bool.or_false, Bool.false_or, ne_eq, not_false_eq_true, not_true_eq_false, Option.some.injEq, reduceCtorEq, and_self, and_true, true_and, Bool.false_eq_true, List.nil_append, List.cons_append, List.append_nil, decide_eq_true_eq, st_lk, lk, e3]
  have g4 : ∀ x0 x1 x2, sSet fl_l_body 4 (mLc true (fo_l_body_1 K A) [8] (mIter (mVar 3)) (gNm (fo_l_body_1 K A) 8) mYes (m_l_body_e2 K A)) [x0, x1, x2, some (oL (es.map eD)), none, none, none, none, none, none] = .next [x0, x1, x2, some (.frz (.lst (es.map eD))), some (.olst (es.map hW)), none, none, none, none, none] := fun x0 x1 x2 => by
    have h := handed_is (K := K) (A := A) es (by omega) x0 x1 x2 none none none none none none
    generalize es.map hW = ow at *
    generalize es.map eD = ed at *
    simp (decide := true) only [e_bind, e_then, e_badb, e_var, e_lk_f, e_lk_b, e_lk_l, e_lk_t, e_lk_o, e_C, e_op, e_seq, e_seq_n, e_seq_r, e_seq_b, e_seq_c, e_nil, e_brk, e_exp, e_set, e_asgn, e_ret, e_handed, e_if, e_ifE, e_mBl, e_blR, e_not, e_and, e_or, e_andV, e_orV, e_notV, e_tru, e_truR, e_add, e_sub, e_mul, e_div, e_mod, e_pow, e_lt, e_gt, e_le, e_ge, e_eq, e_ne, e_neg, e_nilA, e_cons, e_callB, e_f1, e_len_str, e_len_lst, e_len_lok, e_len_tup, e_int, e_abs, e_par, e_no, e_while, e_for, e_gNm, e_range1, e_range2, e_rg1, e_rg2, e_slotW, e_get_v, e_get_a, e_fr_f, e_toFv, e_toF_v, e_toF_a, e_toFb, e_toFa, e_fr_l, e_fr_o, e_frs_nil, e_frs_frz, e_frs_cons, e_frF_nil, e_frF_cons, e_prep_nil, e_prep_f, e_prep_t, e_prepT, e_prep_v, e_called, e_calledR, e_bkR, e_back_nil, e_back_cons, e_call, e_callR, e_madeF, e_make, e_fld, e_fldSet, e_fldSetR, e_meth, e_f1l, e_f1a, e_rd_f, e_mkK, e_yes, e_toW, e_toFs_nil, e_toFs_cons, e_tup, e_lst, e_tupR, e_lstR, e_scR, e_f2, e_kR0, e_kR1, e_bits, e_bitsR, e_bm, e_bm_l, e_bm_s, e_app, e_appR, e_asg, e_seqG, e_gsc, e_gsn, e_gTp, e_exc_try, e_turnR_n, e_turnR_c, e_turnR_b, e_turnR_r, e_setIx, e_setA, e_setB, e_setC, e_iter, e_sl, e_pSome, e_pR, e_pNone, e_listR1, e_lr1, e_prepB_nil, e_prepB_cons, e_arg_ff, e_arg_la, e_lentA, e_arg_lf, e_arg_lb, e_arg_ta, e_ownA, e_arg_tv, e_callL, e_callRB, e_calledB, e_calledBR, e_calledBX, e_backB, e_lkBack_nil, e_lkBack_cons, e_nbs_nil, e_nbs_cons, e_nb_f, e_nb_l, e_nb_o, e_nbF_nil, e_nbF_cons, e_nbs_map, e_makeL, e_madeBR, e_methL, e_methLR_f, e_toWs_nil, e_toWs_cons, e_lstW, e_lstWR, e_mPk, e_pkR_i, e_pkR_s, e_pkR_b, e_setP, e_nin_al, e_in_al, e_in_ft, e_in_fl, e_nin_ft, e_nin_fl, e_eqS, e_neS, e_eqB, e_neB, e_sl_s, e_handed_a, e_handedA, e_f1R_len, e_kR2, e_seqK_l, e_seqK_t, e_items_al, e_items_fl, e_items_ft, e_items_ol, e_tuple_v, e_tuple_a, e_tupA, e_tuple_l, e_tuple_t, e_list_l, e_list_t, e_list_o, e_aug, e_augA, e_addI, e_subI, e_chain, e_chR, e_chK, e_fldR_f, List.getElem?_cons_zero, List.getElem?_cons_succ, List.set_cons_zero, List.set_cons_succ, List.length_cons, List.length_nil, Option.map_some, Option.map_none, Option.bind_some, Option.bind_none, if_true, if_false, ite_true, ite_false, reduceIte, decide_true, decide_false, Bool.not_true, Bool.not_false, Bool.and_true, Bool.true_and, Bool.and_false, Bool.false_and, Bool.or_true, Bool.true_or, Bool.or_false, Bool.false_or, ne_eq, not_false_eq_true, not_true_eq_false, Option.some.injEq, reduceCtorEq, and_self, and_true, true_and, Bool.false_eq_true, List.nil_append, List.cons_append, List.append_nil, decide_eq_true_eq, h]
  have g5 : ∀ x0 x1 x2 x3, sSet fl_l_body 5 (mMakeL A.Marking [(false, true)] (fn_Marking_init K A) (mCons (mVar 4) mNil)) [x0, x1, x2, x3, some (.olst (es.map hW)), none, none, none, none, none] = .next [x0, x1, x2, x3, some (.olst (es.map hW)), some (mkW A.Marking es), none, none, none, none] := fun x0 x1 x2 x3 => by
    have lk := fun L : Lc => e_lk_l (L := L) 4 (es.map hW)
    have nb : (mkW A.Marking es).nb = true := rfl
    have rd := rd_h es
    generalize mkW A.Marking es = mw at *
    generalize es.map hD = dd at *
    generalize es.map hW = ow at *
    simp (decide := true) only [e_bind, e_then, e_badb, e_var, e_lk_f, e_lk_b, e_lk_l, e_lk_t, e_lk_o, e_C, e_op, e_seq, e_seq_n, e_seq_r, e_seq_b, e_seq_c, e_nil, e_brk, e_exp, e_set, e_asgn, e_ret, e_handed, e_if, e_ifE, e_mBl, e_blR, e_not, e_and, e_or, e_andV, e_orV, e_notV, e_tru, e_truR, e_add, e_sub, e_mul, e_div, e_mod, e_pow, e_lt, e_gt, e_le, e_ge, e_eq, e_ne, e_neg, e_nilA, e_cons, e_callB, e_f1, e_len_str, e_len_lst, e_len_lok, e_len_tup, e_int, e_abs, e_par, e_no, e_while, e_for, e_gNm, e_range1, e_range2, e_rg1, e_rg2, e_slotW, e_get_v, e_get_a, e_fr_f, e_toFv, e_toF_v, e_toF_a, e_toFb, e_toFa, e_fr_l, e_fr_o, e_frs_nil, e_frs_frz, e_frs_cons, e_frF_nil, e_frF_cons, e_prep_nil, e_prep_f, e_prep_t, e_prepT, e_prep_v, e_called, e_calledR, e_bkR, e_back_nil, e_back_cons, e_call, e_callR, e_madeF, e_make, e_fld, e_fldSet, e_fldSetR, e_meth, e_f1l, e_f1a, e_rd_f, e_mkK, e_yes, e_toW, e_toFs_nil, e_toFs_cons, e_tup, e_lst, e_tupR, e_lstR, e_scR, e_f2, e_kR0, e_kR1, e_bits, e_bitsR, e_bm, e_bm_l, e_bm_s, e_app, e_appR, e_asg, e_seqG, e_gsc, e_gsn, e_gTp, e_exc_try, e_turnR_n, e_turnR_c, e_turnR_b, e_turnR_r, e_setIx, e_setA, e_setB, e_setC, e_iter, e_sl, e_pSome, e_pR, e_pNone, e_listR1, e_lr1, e_prepB_nil, e_prepB_cons, e_arg_ff, e_arg_la, e_lentA, e_arg_lf, e_arg_lb, e_arg_ta, e_ownA, e_arg_tv, e_callL, e_callRB, e_calledB, e_calledBR, e_calledBX, e_backB, e_lkBack_nil, e_lkBack_cons, e_nbs_nil, e_nbs_cons, e_nb_f, e_nb_l, e_nb_o, e_nbF_nil, e_nbF_cons, e_nbs_map, e_makeL, e_madeBR, e_methL, e_methLR_f, e_toWs_nil, e_toWs_cons, e_lstW, e_lstWR, e_mPk, e_pkR_i, e_pkR_s, e_pkR_b, e_setP, e_nin_al, e_in_al, e_in_ft, e_in_fl, e_nin_ft, e_nin_fl, e_eqS, e_neS, e_eqB, e_neB, e_sl_s, e_handed_a, e_handedA, e_f1R_len, e_kR2, e_seqK_l, e_seqK_t, e_items_al, e_items_fl, e_items_ft, e_items_ol, e_tuple_v, e_tuple_a, e_tupA, e_tuple_l, e_tuple_t, e_list_l, e_list_t, e_list_o, e_aug, e_augA, e_addI, e_subI, e_chain, e_chR, e_chK, e_fldR_f, List.getElem?_cons_zero, List.getElem?_cons_succ, List.set_cons_zero, List.set_cons_succ, List.length_cons, List.length_nil, Option.map_some, Option.map_none, Option.bind_some, Option.bind_none, if_true, if_false, ite_true, ite_false, reduceIte, decide_true, decide_false, Bool.not_true, Bool.not_false, Bool.and_true, Bool.true_and, Bool.and_false, Bool.false_and, Bool.or_true, Bool.true_or, Bool.or_false, Bool.false_or, ne_eq, not_false_eq_true, not_true_eq_false, Option.some.injEq, reduceCtorEq, and_self, and_true, true_and, Bool.false_eq_true, List.nil_append, List.cons_append, List.append_nil, decide_eq_true_eq, lk, rd, mk1, nb]
  have g6 := fun x0 x1 x2 x3 x5 x6 x7 x8 x9 => sp1 e er x0 x1 x2 x3 x5 x6 x7 x8 x9
  rw [hes'] at g6
  -- the last key handed in
  obtain ⟨x, y, zs, hz, hlast⟩ : ∃ x y zs, zs.length < 1000 ∧ (W.olst [.frz (.int (e.w + 3)), .frz (.str e.t), .olst ((sD e.a).map .frz)] :: er.map hW)[er.length]? = some (.olst [x, y, .olst zs]) := by
    cases hn : er.length with
    | zero => exact ⟨_, _, _, by rw [List.length_map, List.length_map]; have := (hes e (by rw [← hes']; exact List.mem_cons_self)).al; omega, rfl⟩
    | succ n =>
      have hlt : n < er.length := by omega
      refine ⟨.frz (.int er[n].w), .frz (.str er[n].t), (sD er[n].a).map .frz, by rw [List.length_map, List.length_map]; have := (hes er[n] (by rw [← hes']; exact List.mem_cons_of_mem _ (List.getElem_mem _))).al; omega, ?_⟩
      rw [List.getElem?_cons_succ, List.getElem?_map, List.getElem?_eq_getElem hlt]
      rfl
  have hlen1 : (W.olst [.frz (.int (e.w + 3)), .frz (.str e.t), .olst ((sD e.a).map .frz)] :: er.map hW).length = er.length + 1 := by rw [List.length_cons, List.length_map]
  have hle : er.length + 1 ≤ 60 := by have : es.length = er.length + 1 := by rw [← hes']; rfl
                                      omega
  generalize (W.olst [.frz (.int (e.w + 3)), .frz (.str e.t), .olst ((sD e.a).map .frz)] :: er.map hW) = hs1 at *
  obtain ⟨hs2, hlen2, g7⟩ := sp2 hs1 er.length x y zs hz hlen1 hlast (some (.frz (.lok (ns0.map D.int)))) (some (stW s3)) (some (.frz (.lst (sD ps)))) (some (.frz (.lst (es.map eD)))) (some (mkW A.Marking es)) none none none none
  obtain ⟨hs3, g8⟩ := sp3 hs2 (by omega) (some (.frz (.lok (ns0.map D.int)))) (some (stW s3)) (some (.frz (.lst (sD ps)))) (some (.frz (.lst (es.map eD)))) (some (mkW A.Marking es)) none none none none
  have ws := wsum_is (K := K) (A := A) es (by omega) (some (.frz (.lok (ns0.map D.int)))) (some (stW s3)) (some (.frz (.lst (sD ps)))) (some (.olst hs3)) (some (mkW A.Marking es)) none none none none
  have sm := fun L : Lc => sum_f es L
  rw [show (es.map (·.w)).sum = total es from rfl] at sm
  have fw := fun L : Lc => fldR_o (L := L) (C := A.Marking) (f := "whole") (w := .frz (.int (total es))) (fs := [("entries", .frz (.tup (es.map tD))), ("whole", .frz (.int (total es)))]) rfl rfl
  have ei := integer_is (K := K) (A := A) (total es)
  obtain ⟨ms, hms, bk⟩ := back_is (K := K) (A := A) ns hnl (some (.frz (.lok (ns0.map D.int)))) (some (stW s4)) (some (.frz (.lst (sD ps)))) (some (.frz (.lst (es.map eD)))) (some (.olst hs3)) (some (.frz (mkD A.Marking es))) (some (iW (total es))) none none
  have e6 := keys_are_is (K := K) (A := A) es (by omega) ms fun m hm => hns m (hms m hm)
  have e7 : total es ≤ 40 → _ := fun h => counted_is (K := K) (A := A) es hw hel h ps
  refine run_ret (m := m_l_body K A) (L0 := [some (.frz (.lok (ns0.map D.int))), none, none, none, none, none, none, none, none, none]) (L := [some (.frz (.lok (ns0.map D.int))), some (stW s4), some (.frz (.lst (sD ps))), some (.frz (.lst (es.map eD))), some (.olst hs3), some (.frz (mkD A.Marking es)), some (iW (total es)), some (.frz (.lst (ns.map D.int))), none, none]) ?_
  rw [m_l_body, e_seq, g1, e_seq_n, e_seq, g2, e_seq_n, e_seq, g3, e_seq_n, e_seq, g4, e_seq_n, e_seq, g5, e_seq_n, e_seq, g6, e_seq_n, e_seq, g7, e_seq_n, e_seq, g8, e_seq_n]
  have mw : ∀ (i : Nat) (L : Lc), look i (some (some (mkW A.Marking es))) L = .ok (.al i) L := fun _ _ => rfl
  have mfr : (mkW A.Marking es).fr = some (mkD A.Marking es) := by
    unfold mkW
    rw [e_fr_o, e_frF_cons, e_frF_cons, e_frF_nil]
    rfl
  have fw2 : ∀ L : Lc, fldR [A.Marking] "whole" (some (mkW A.Marking es)) L = .ok (.val (.frz (.int (total es)))) L := fw
  have lkn := fun L : Lc => e_lk_l (L := L) 7 ((ns.map D.int).map .frz)
  have frn : (oL (ns.map D.int)).fr = some (.lst (ns.map D.int)) := by rw [e_fr_l, e_frs_frz]; rfl
  have frm : (oL (ms.map D.int)).fr = some (.lst (ms.map D.int)) := by rw [e_fr_l, e_frs_frz]; rfl
  have lkn2 : ∀ L : Lc, look 7 (some (some (oL (ns.map D.int)))) L = .ok (.al 7) L := fun _ => rfl
  generalize oL (ns.map D.int) = nw at *
  generalize oL (ms.map D.int) = mmw at *
  generalize (es.map fun e => W.frz (.int e.w)) = wsw at *
  generalize hted : total es = te at *
  generalize mkW A.Marking es = mw1 at *
  generalize mkD A.Marking es = md1 at *
  generalize es.map eD = ed at *
  generalize sD ps = pd at *
  generalize ns.map D.int = nd at *
  generalize ms.map D.int = md at *
  generalize W.olst hs3 = hw3 at *
  generalize D.lok (ns0.map D.int) = sc at *
  by_cases c : te ≤ 40
  · have e7' := e7 c
    simp (decide := true) only [e_bind, e_then, e_badb, e_var, e_lk_f, e_lk_b, e_lk_l, e_lk_t, e_lk_o, e_C, e_op, e_seq, e_seq_n, e_seq_r, e_seq_b, e_seq_c, e_nil, e_brk, e_exp, e_set, e_asgn, e_ret, e_handed, e_if, e_ifE, e_mBl, e_blR, e_not, e_and, e_or, e_andV, e_orV, e_notV, e_tru, e_truR, e_add, e_sub, e_mul, e_div, e_mod, e_pow, e_lt, e_gt, e_le, e_ge, e_eq, e_ne, e_neg, e_nilA, e_cons, e_callB, e_f1, e_len_str, e_len_lst, e_len_lok, e_len_tup, e_int, e_abs, e_par, e_no, e_while, e_for, e_gNm, e_range1, e_range2, e_rg1, e_rg2, e_slotW, e_get_v, e_get_a, e_fr_f, e_toFv, e_toF_v, e_toF_a, e_toFb, e_toFa, e_fr_l, e_fr_o, e_frs_nil, e_frs_frz, e_frs_cons, e_frF_nil, e_frF_cons, e_prep_nil, e_prep_f, e_prep_t, e_prepT, e_prep_v, e_called, e_calledR, e_bkR, e_back_nil, e_back_cons, e_call, e_callR, e_madeF, e_make, e_fld, e_fldSet, e_fldSetR, e_meth, e_f1l, e_f1a, e_rd_f, e_mkK, e_yes, e_toW, e_toFs_nil, e_toFs_cons, e_tup, e_lst, e_tupR, e_lstR, e_scR, e_f2, e_kR0, e_kR1, e_bits, e_bitsR, e_bm, e_bm_l, e_bm_s, e_app, e_appR, e_asg, e_seqG, e_gsc, e_gsn, e_gTp, e_exc_try, e_turnR_n, e_turnR_c, e_turnR_b, e_turnR_r, e_setIx, e_setA, e_setB, e_setC, e_iter, e_sl, e_pSome, e_pR, e_pNone, e_listR1, e_lr1, e_prepB_nil, e_prepB_cons, e_arg_ff, e_arg_la, e_lentA, e_arg_lf, e_arg_lb, e_arg_ta, e_ownA, e_arg_tv, e_callL, e_callRB, e_calledB, e_calledBR, e_calledBX, e_backB, e_lkBack_nil, e_lkBack_cons, e_nbs_nil, e_nbs_cons, e_nb_f, e_nb_l, e_nb_o, e_nbF_nil, e_nbF_cons, e_nbs_map, e_makeL, e_madeBR, e_methL, e_methLR_f, e_toWs_nil, e_toWs_cons, e_lstW, e_lstWR, e_mPk, e_pkR_i, e_pkR_s, e_pkR_b, e_setP, e_nin_al, e_in_al, e_in_ft, e_in_fl, e_nin_ft, e_nin_fl, e_eqS, e_neS, e_eqB, e_neB, e_sl_s, e_handed_a, e_handedA, e_f1R_len, e_kR2, e_seqK_l, e_seqK_t, e_items_al, e_items_fl, e_items_ft, e_items_ol, e_tuple_v, e_tuple_a, e_tupA, e_tuple_l, e_tuple_t, e_list_l, e_list_t, e_list_o, e_aug, e_augA, e_addI, e_subI, e_chain, e_chR, e_chK, e_fldR_f, List.getElem?_cons_zero, List.getElem?_cons_succ, List.set_cons_zero, List.set_cons_succ, List.length_cons, List.length_nil, Option.map_some, Option.map_none, Option.bind_some, Option.bind_none, if_true, if_false, ite_true, ite_false, reduceIte, decide_true, decide_false, Bool.not_true, Bool.not_false, Bool.and_true, Bool.true_and, Bool.and_false, Bool.false_and, Bool.or_true, Bool.true_or, Bool.or_false, Bool.false_or, ne_eq, not_false_eq_true, not_true_eq_false, Option.some.injEq, reduceCtorEq, and_self, and_true, true_and, Bool.false_eq_true, List.nil_append, List.cons_append, List.append_nil, decide_eq_true_eq, ws, sm, mw, fw2, ei, st_lk, e4, mfr, lkn2, frn, e5, c, e7', bk, frm, e6]
  · simp (decide := true) only [e_bind, e_then, e_badb, e_var, e_lk_f, e_lk_b, e_lk_l, e_lk_t, e_lk_o, e_C, e_op, e_seq, e_seq_n, e_seq_r, e_seq_b, e_seq_c, e_nil, e_brk, e_exp, e_set, e_asgn, e_ret, e_handed, e_if, e_ifE, e_mBl, e_blR, e_not, e_and, e_or, e_andV, e_orV, e_notV, e_tru, e_truR, e_add, e_sub, e_mul, e_div, e_mod, e_pow, e_lt, e_gt, e_le, e_ge, e_eq, e_ne, e_neg, e_nilA, e_cons, e_callB, e_f1, e_len_str, e_len_lst, e_len_lok, e_len_tup, e_int, e_abs, e_par, e_no, e_while, e_for, e_gNm, e_range1, e_range2, e_rg1, e_rg2, e_slotW, e_get_v, e_get_a, e_fr_f, e_toFv, e_toF_v, e_toF_a, e_toFb, e_toFa, e_fr_l, e_fr_o, e_frs_nil, e_frs_frz, e_frs_cons, e_frF_nil, e_frF_cons, e_prep_nil, e_prep_f, e_prep_t, e_prepT, e_prep_v, e_called, e_calledR, e_bkR, e_back_nil, e_back_cons, e_call, e_callR, e_madeF, e_make, e_fld, e_fldSet, e_fldSetR, e_meth, e_f1l, e_f1a, e_rd_f, e_mkK, e_yes, e_toW, e_toFs_nil, e_toFs_cons, e_tup, e_lst, e_tupR, e_lstR, e_scR, e_f2, e_kR0, e_kR1, e_bits, e_bitsR, e_bm, e_bm_l, e_bm_s, e_app, e_appR, e_asg, e_seqG, e_gsc, e_gsn, e_gTp, e_exc_try, e_turnR_n, e_turnR_c, e_turnR_b, e_turnR_r, e_setIx, e_setA, e_setB, e_setC, e_iter, e_sl, e_pSome, e_pR, e_pNone, e_listR1, e_lr1, e_prepB_nil, e_prepB_cons, e_arg_ff, e_arg_la, e_lentA, e_arg_lf, e_arg_lb, e_arg_ta, e_ownA, e_arg_tv, e_callL, e_callRB, e_calledB, e_calledBR, e_calledBX, e_backB, e_lkBack_nil, e_lkBack_cons, e_nbs_nil, e_nbs_cons, e_nb_f, e_nb_l, e_nb_o, e_nbF_nil, e_nbF_cons, e_nbs_map, e_makeL, e_madeBR, e_methL, e_methLR_f, e_toWs_nil, e_toWs_cons, e_lstW, e_lstWR, e_mPk, e_pkR_i, e_pkR_s, e_pkR_b, e_setP, e_nin_al, e_in_al, e_in_ft, e_in_fl, e_nin_ft, e_nin_fl, e_eqS, e_neS, e_eqB, e_neB, e_sl_s, e_handed_a, e_handedA, e_f1R_len, e_kR2, e_seqK_l, e_seqK_t, e_items_al, e_items_fl, e_items_ft, e_items_ol, e_tuple_v, e_tuple_a, e_tupA, e_tuple_l, e_tuple_t, e_list_l, e_list_t, e_list_o, e_aug, e_augA, e_addI, e_subI, e_chain, e_chR, e_chK, e_fldR_f, List.getElem?_cons_zero, List.getElem?_cons_succ, List.set_cons_zero, List.set_cons_succ, List.length_cons, List.length_nil, Option.map_some, Option.map_none, Option.bind_some, Option.bind_none, if_true, if_false, ite_true, ite_false, reduceIte, decide_true, decide_false, Bool.not_true, Bool.not_false, Bool.and_true, Bool.true_and, Bool.and_false, Bool.false_and, Bool.or_true, Bool.true_or, Bool.or_false, Bool.false_or, ne_eq, not_false_eq_true, not_true_eq_false, Option.some.injEq, reduceCtorEq, and_self, and_true, true_and, Bool.false_eq_true, List.nil_append, List.cons_append, List.append_nil, decide_eq_true_eq, ws, sm, mw, fw2, ei, st_lk, e4, mfr, lkn2, frn, e5, c, bk, frm, e6]
theorem plain25 (ns : List Int) (h : ns.length ≤ 63) : fn_law K A [.frz (.lok (ns.map D.int))] = .ok (.frz (.bl true)) [] := by
  have e := body_is (K := K) (A := A) ns h
  generalize D.lok (ns.map D.int) = sc0 at *
  refine run_ret (m := m_law K A) (L0 := [some (.frz sc0)]) (L := [some (.frz sc0)]) ?_
  unfold m_law
  exact noX_ret (by simp (decide := true) only [e_bind, e_then, e_badb, e_var, e_lk_f, e_lk_b, e_lk_l, e_lk_t, e_lk_o, e_C, e_op, e_seq, e_seq_n, e_seq_r, e_seq_b, e_seq_c, e_nil, e_brk, e_exp, e_set, e_asgn, e_ret, e_handed, e_if, e_ifE, e_mBl, e_blR, e_not, e_and, e_or, e_andV, e_orV, e_notV, e_tru, e_truR, e_add, e_sub, e_mul, e_div, e_mod, e_pow, e_lt, e_gt, e_le, e_ge, e_eq, e_ne, e_neg, e_nilA, e_cons, e_callB, e_f1, e_len_str, e_len_lst, e_len_lok, e_len_tup, e_int, e_abs, e_par, e_no, e_while, e_for, e_gNm, e_range1, e_range2, e_rg1, e_rg2, e_slotW, e_get_v, e_get_a, e_fr_f, e_toFv, e_toF_v, e_toF_a, e_toFb, e_toFa, e_fr_l, e_fr_o, e_frs_nil, e_frs_frz, e_frs_cons, e_frF_nil, e_frF_cons, e_prep_nil, e_prep_f, e_prep_t, e_prepT, e_prep_v, e_called, e_calledR, e_bkR, e_back_nil, e_back_cons, e_call, e_callR, e_madeF, e_make, e_fld, e_fldSet, e_fldSetR, e_meth, e_f1l, e_f1a, e_rd_f, e_mkK, e_yes, e_toW, e_toFs_nil, e_toFs_cons, e_tup, e_lst, e_tupR, e_lstR, e_scR, e_f2, e_kR0, e_kR1, e_bits, e_bitsR, e_bm, e_bm_l, e_bm_s, e_app, e_appR, e_asg, e_seqG, e_gsc, e_gsn, e_gTp, e_exc_try, e_turnR_n, e_turnR_c, e_turnR_b, e_turnR_r, e_setIx, e_setA, e_setB, e_setC, e_iter, e_sl, e_pSome, e_pR, e_pNone, e_listR1, e_lr1, e_prepB_nil, e_prepB_cons, e_arg_ff, e_arg_la, e_lentA, e_arg_lf, e_arg_lb, e_arg_ta, e_ownA, e_arg_tv, e_callL, e_callRB, e_calledB, e_calledBR, e_calledBX, e_backB, e_lkBack_nil, e_lkBack_cons, e_nbs_nil, e_nbs_cons, e_nb_f, e_nb_l, e_nb_o, e_nbF_nil, e_nbF_cons, e_nbs_map, e_makeL, e_madeBR, e_methL, e_methLR_f, e_toWs_nil, e_toWs_cons, e_lstW, e_lstWR, e_mPk, e_pkR_i, e_pkR_s, e_pkR_b, e_setP, e_nin_al, e_in_al, e_in_ft, e_in_fl, e_nin_ft, e_nin_fl, e_eqS, e_neS, e_eqB, e_neB, e_sl_s, e_handed_a, e_handedA, e_f1R_len, e_kR2, e_seqK_l, e_seqK_t, e_items_al, e_items_fl, e_items_ft, e_items_ol, e_tuple_v, e_tuple_a, e_tupA, e_tuple_l, e_tuple_t, e_list_l, e_list_t, e_list_o, e_aug, e_augA, e_addI, e_subI, e_chain, e_chR, e_chK, e_fldR_f, List.getElem?_cons_zero, List.getElem?_cons_succ, List.set_cons_zero, List.set_cons_succ, List.length_cons, List.length_nil, Option.map_some, Option.map_none, Option.bind_some, Option.bind_none, if_true, if_false, ite_true, ite_false, reduceIte, decide_true, decide_false, Bool.not_true, Bool.not_false, Bool.and_true, Bool.true_and, Bool.and_false, Bool.false_and, Bool.or_true, Bool.true_or, Bool.or_false, Bool.false_or, ne_eq, not_false_eq_true, not_true_eq_false, Option.some.injEq, reduceCtorEq, and_self, and_true, true_and, Bool.false_eq_true, List.nil_append, List.cons_append, List.append_nil, decide_eq_true_eq, e])
end
end L

namespace L
open PySem PySem.Spec PyProof.Rows L2 BV
theorem plain_law (K : PySem.W.Frag) (A : Ad) (ns : List Int) (h : ns.length ≤ 63) : fn_law K A [.frz (.lok (ns.map D.int))] = .ok (.frz (.bl true)) [] := plain25 ns h
theorem txt_mk {K : PySem.W.Frag} {mg : Str → Option Value} {cMarking : Addr}
  (z_abs : mg "abs" = none) 
  (z_bool : mg "bool" = none) 
  (z_enumerate : mg "enumerate" = none) 
  (z_int : mg "int" = none) 
  (z_isinstance : mg "isinstance" = none) 
  (z_len : mg "len" = none) 
  (z_list : mg "list" = none) 
  (z_max : mg "max" = none) 
  (z_min : mg "min" = none) 
  (z_range : mg "range" = none) 
  (z_sorted : mg "sorted" = none) 
  (z_sum : mg "sum" = none) 
  (z_tuple : mg "tuple" = none) 
  (c_Marking : mg "Marking" = some (.ref cMarking)) 
  (cls_Marking : Cls K cMarking) 
  (isc_Marking : IsC K cMarking) 
  (na_Marking_entries : NoAttr K cMarking "entries") 
  (na_Marking_whole : NoAttr K cMarking "whole") 
  (t_l_start : DefAt K mg "_law_start" "_law_start" s_l_start ["_law_script"]) 
  (t_l_draw : DefAt K mg "_law_draw" "_law_draw" s_l_draw ["_law_state", "_law_limit"]) 
  (t_l_signs : DefAt K mg "_law_signs" "_law_signs" s_l_signs []) 
  (t_l_text : DefAt K mg "_law_text" "_law_text" s_l_text ["_law_state", "_law_most"]) 
  (t_l_texts : DefAt K mg "_law_texts" "_law_texts" s_l_texts ["_law_state", "_law_many", "_law_most"]) 
  (t_l_pool : DefAt K mg "_law_pool" "_law_pool" s_l_pool ["_law_state"]) 
  (t_l_wide : DefAt K mg "_law_wide" "_law_wide" s_l_wide ["_law_state"]) 
  (t_l_weight : DefAt K mg "_law_weight" "_law_weight" s_l_weight ["_law_state", "_law_kind"]) 
  (t_l_some : DefAt K mg "_law_some" "_law_some" s_l_some ["_law_state", "_law_pool_here", "_law_most"]) 
  (t_l_entries : DefAt K mg "_law_entries" "_law_entries" s_l_entries ["_law_state", "_law_pool_here"]) 
  (t_Marking_init : MakeAt K cMarking "Marking.__init__" s_Marking_init ["self", "entries"]) 
  (t_l_numbers : DefAt K mg "_law_numbers" "_law_numbers" s_l_numbers ["_law_state", "_law_entries_here", "_law_whole"]) 
  (t__is_below : DefAt K mg "_is_below" "_is_below" s__is_below ["value", "many"]) 
  (t_Marking_key_of : MethAt K cMarking "key_of" "Marking.key_of" s_Marking_key_of ["self", "number"]) 
  (t_l_integer : DefAt K mg "_law_integer" "_law_integer" s_l_integer ["_law_value"]) 
  (t_l_at : DefAt K mg "_law_at" "_law_at" s_l_at ["_law_entries_here", "_law_number"]) 
  (t_l_keys_are : DefAt K mg "_law_keys_are" "_law_keys_are" s_l_keys_are ["_law_marking", "_law_entries_here", "_law_numbers_here"]) 
  (t_Marking_accuses : MethAt K cMarking "accuses" "Marking.accuses" s_Marking_accuses ["self", "key", "text"]) 
  (t_Marking_write : MethAt K cMarking "write" "Marking.write" s_Marking_write ["self", "key"]) 
  (t_l_counted : DefAt K mg "_law_counted" "_law_counted" s_l_counted ["_law_marking", "_law_entries_here", "_law_pool_here", "_law_whole"]) 
  (t_l_body : DefAt K mg "_law_body" "_law_body" s_l_body ["_law_script"]) 
  (t_law : LawAt K mg "law" "law" s_law "_law_script") : Txt K mg ⟨cMarking⟩ :=
  ⟨z_abs, z_bool, z_enumerate, z_int, z_isinstance, z_len, z_list, z_max, z_min, z_range, z_sorted, z_sum, z_tuple, c_Marking, cls_Marking, isc_Marking, na_Marking_entries, na_Marking_whole, t_l_start, t_l_draw, t_l_signs, t_l_text, t_l_texts, t_l_pool, t_l_wide, t_l_weight, t_l_some, t_l_entries, t_Marking_init, t_l_numbers, t__is_below, t_Marking_key_of, t_l_integer, t_l_at, t_l_keys_are, t_Marking_accuses, t_Marking_write, t_l_counted, t_l_body, t_law⟩
theorem the_end {w : World} {K : PySem.W.Frag} {mg : Str → Option Value} {A : Ad} (T : Txt K mg A) :
    ∃ fn : Fn, LawAt K mg "law" "law" s_law "_law_script" ∧ (∀ (base : Heap) (f : Addr) (fd : FuncData), Fun K "law" "law" s_law f fd → FnOk PySem.Challenge.pw_marktruly_k25_keys_by_numbers w K mg base (L2.CX PySem.Challenge.pw_marktruly_k25_keys_by_numbers w) 6 f fd ["_law_script"] (spBV K [false] fn)) ∧
        ∀ ns : List Int, ns.length ≤ 63 → fn [.frz (.lok (ns.map D.int))] = .ok (.frz (.bl true)) [] :=
  ⟨fn_law K A, T.t_law, fun base f fd F => d_law T F, fun ns h => plain_law K A ns h⟩
end L
open PySem PySem.W PyProof.Rows BV L2 in
set_option maxRecDepth 100000 in
set_option maxHeartbeats 0 in
theorem PySem.Challenge.cw_marktruly_k25_keys_by_numbers_holds : PySem.Challenge.rw_marktruly_k25_keys_by_numbers.Holds := by
  w_on; o_law; k_head; (case hw => w_witness2)
  k_fill
  refine BV.law_end (l := PySem.Challenge.rw_marktruly_k25_keys_by_numbers) (k := 6) (qual := "law") (p := "_law_script") (st := L.s_law) rfl rfl (by decide) ⟨rfl, by decide, by decide⟩ (fun w h Y => PySem.W.kIn_of Y) ?F
  case F =>
    intro w mg h KX G
    refine' L.the_end (L.txt_mk (PySem.W.mg_none_of KX G ?z_abs) (PySem.W.mg_none_of KX G ?z_bool) (PySem.W.mg_none_of KX G ?z_enumerate) (PySem.W.mg_none_of KX G ?z_int) (PySem.W.mg_none_of KX G ?z_isinstance) (PySem.W.mg_none_of KX G ?z_len) (PySem.W.mg_none_of KX G ?z_list) (PySem.W.mg_none_of KX G ?z_max) (PySem.W.mg_none_of KX G ?z_min) (PySem.W.mg_none_of KX G ?z_range) (PySem.W.mg_none_of KX G ?z_sorted) (PySem.W.mg_none_of KX G ?z_sum) (PySem.W.mg_none_of KX G ?z_tuple) (PySem.W.mg_of KX G ?c_Marking) ⟨?pg_Marking, ?hd_Marking, ?po_Marking, ?sa_Marking⟩ ⟨⟨?ipg_Marking, ?ihd_Marking, ?ipo_Marking, ?isa_Marking⟩, ?iha_Marking, ?ihn_Marking, ?ihtk_Marking, ?ihm_Marking⟩ (na_of ?na_Marking_entries) (na_of ?na_Marking_whole) (DefAt.mk' KX G (fun _ _ _ _ _ _ us hl => match us, hl with | [_], _ => rfl) ?a_l_start ?l_l_start ?q_l_start ?k_l_start) (DefAt.mk' KX G (fun _ _ _ _ _ _ us hl => match us, hl with | [_, _], _ => rfl) ?a_l_draw ?l_l_draw ?q_l_draw ?k_l_draw) (DefAt.mk' KX G (fun _ _ _ _ _ _ us hl => match us, hl with | [], _ => rfl) ?a_l_signs ?l_l_signs ?q_l_signs ?k_l_signs) (DefAt.mk' KX G (fun _ _ _ _ _ _ us hl => match us, hl with | [_, _], _ => rfl) ?a_l_text ?l_l_text ?q_l_text ?k_l_text) (DefAt.mk' KX G (fun _ _ _ _ _ _ us hl => match us, hl with | [_, _, _], _ => rfl) ?a_l_texts ?l_l_texts ?q_l_texts ?k_l_texts) (DefAt.mk' KX G (fun _ _ _ _ _ _ us hl => match us, hl with | [_], _ => rfl) ?a_l_pool ?l_l_pool ?q_l_pool ?k_l_pool) (DefAt.mk' KX G (fun _ _ _ _ _ _ us hl => match us, hl with | [_], _ => rfl) ?a_l_wide ?l_l_wide ?q_l_wide ?k_l_wide) (DefAt.mk' KX G (fun _ _ _ _ _ _ us hl => match us, hl with | [_, _], _ => rfl) ?a_l_weight ?l_l_weight ?q_l_weight ?k_l_weight) (DefAt.mk' KX G (fun _ _ _ _ _ _ us hl => match us, hl with | [_, _, _], _ => rfl) ?a_l_some ?l_l_some ?q_l_some ?k_l_some) (DefAt.mk' KX G (fun _ _ _ _ _ _ us hl => match us, hl with | [_, _], _ => rfl) ?a_l_entries ?l_l_entries ?q_l_entries ?k_l_entries) (MakeAt.mk' (fun _ _ _ _ _ _ us hl => match us, hl with | [_, _], _ => rfl) ?a_Marking_init ?i_Marking_init ?l_Marking_init ?q_Marking_init ?k_Marking_init ?mk_Marking_init ?kc_Marking_init) (DefAt.mk' KX G (fun _ _ _ _ _ _ us hl => match us, hl with | [_, _, _], _ => rfl) ?a_l_numbers ?l_l_numbers ?q_l_numbers ?k_l_numbers) (DefAt.mk' KX G (fun _ _ _ _ _ _ us hl => match us, hl with | [_, _], _ => rfl) ?a__is_below ?l__is_below ?q__is_below ?k__is_below) (MethAt.mk' (fun _ _ _ _ _ _ us hl => match us, hl with | [_, _], _ => rfl) ?a_Marking_key_of ?i_Marking_key_of ?l_Marking_key_of ?q_Marking_key_of ?k_Marking_key_of) (DefAt.mk' KX G (fun _ _ _ _ _ _ us hl => match us, hl with | [_], _ => rfl) ?a_l_integer ?l_l_integer ?q_l_integer ?k_l_integer) (DefAt.mk' KX G (fun _ _ _ _ _ _ us hl => match us, hl with | [_, _], _ => rfl) ?a_l_at ?l_l_at ?q_l_at ?k_l_at) (DefAt.mk' KX G (fun _ _ _ _ _ _ us hl => match us, hl with | [_, _, _], _ => rfl) ?a_l_keys_are ?l_l_keys_are ?q_l_keys_are ?k_l_keys_are) (MethAt.mk' (fun _ _ _ _ _ _ us hl => match us, hl with | [_, _, _], _ => rfl) ?a_Marking_accuses ?i_Marking_accuses ?l_Marking_accuses ?q_Marking_accuses ?k_Marking_accuses) (MethAt.mk' (fun _ _ _ _ _ _ us hl => match us, hl with | [_, _], _ => rfl) ?a_Marking_write ?i_Marking_write ?l_Marking_write ?q_Marking_write ?k_Marking_write) (DefAt.mk' KX G (fun _ _ _ _ _ _ us hl => match us, hl with | [_, _, _, _], _ => rfl) ?a_l_counted ?l_l_counted ?q_l_counted ?k_l_counted) (DefAt.mk' KX G (fun _ _ _ _ _ _ us hl => match us, hl with | [_], _ => rfl) ?a_l_body ?l_l_body ?q_l_body ?k_l_body) (LawAt.mk' KX G (fun _ _ _ _ _ _ _ => rfl) ?a_law ?l_law ?q_law ?k_law))
    (case c_Marking => k_is)
    (case z_abs => k_is)
    (case z_bool => k_is)
    (case z_enumerate => k_is)
    (case z_int => k_is)
    (case z_isinstance => k_is)
    (case z_len => k_is)
    (case z_list => k_is)
    (case z_max => k_is)
    (case z_min => k_is)
    (case z_range => k_is)
    (case z_sorted => k_is)
    (case z_sum => k_is)
    (case z_tuple => k_is)
    (case pg_Marking => k_is)
    (case hd_Marking => k_is)
    (case po_Marking => k_is)
    (case sa_Marking => k_is)
    (case ipg_Marking => k_is)
    (case ihd_Marking => k_is)
    (case ipo_Marking => k_is)
    (case isa_Marking => k_is)
    (case iha_Marking => k_is)
    (case ihn_Marking => k_is)
    (case ihtk_Marking => k_is)
    (case ihm_Marking => k_is)
    (case na_Marking_entries => k_is)
    (case na_Marking_whole => k_is)
    (case a_l_start => k_is)
    (case l_l_start => k_is)
    (case q_l_start => k_is)
    (case k_l_start => k_is)
    (case a_l_draw => k_is)
    (case l_l_draw => k_is)
    (case q_l_draw => k_is)
    (case k_l_draw => k_is)
    (case a_l_signs => k_is)
    (case l_l_signs => k_is)
    (case q_l_signs => k_is)
    (case k_l_signs => k_is)
    (case a_l_text => k_is)
    (case l_l_text => k_is)
    (case q_l_text => k_is)
    (case k_l_text => k_is)
    (case a_l_texts => k_is)
    (case l_l_texts => k_is)
    (case q_l_texts => k_is)
    (case k_l_texts => k_is)
    (case a_l_pool => k_is)
    (case l_l_pool => k_is)
    (case q_l_pool => k_is)
    (case k_l_pool => k_is)
    (case a_l_wide => k_is)
    (case l_l_wide => k_is)
    (case q_l_wide => k_is)
    (case k_l_wide => k_is)
    (case a_l_weight => k_is)
    (case l_l_weight => k_is)
    (case q_l_weight => k_is)
    (case k_l_weight => k_is)
    (case a_l_some => k_is)
    (case l_l_some => k_is)
    (case q_l_some => k_is)
    (case k_l_some => k_is)
    (case a_l_entries => k_is)
    (case l_l_entries => k_is)
    (case q_l_entries => k_is)
    (case k_l_entries => k_is)
    (case a_Marking_init => k_is)
    (case i_Marking_init => k_is)
    (case l_Marking_init => k_is)
    (case q_Marking_init => k_is)
    (case k_Marking_init => k_is)
    (case mk_Marking_init => k_is)
    (case kc_Marking_init => k_is)
    (case a_l_numbers => k_is)
    (case l_l_numbers => k_is)
    (case q_l_numbers => k_is)
    (case k_l_numbers => k_is)
    (case a__is_below => k_is)
    (case l__is_below => k_is)
    (case q__is_below => k_is)
    (case k__is_below => k_is)
    (case a_Marking_key_of => k_is)
    (case i_Marking_key_of => k_is)
    (case l_Marking_key_of => k_is)
    (case q_Marking_key_of => k_is)
    (case k_Marking_key_of => k_is)
    (case a_l_integer => k_is)
    (case l_l_integer => k_is)
    (case q_l_integer => k_is)
    (case k_l_integer => k_is)
    (case a_l_at => k_is)
    (case l_l_at => k_is)
    (case q_l_at => k_is)
    (case k_l_at => k_is)
    (case a_l_keys_are => k_is)
    (case l_l_keys_are => k_is)
    (case q_l_keys_are => k_is)
    (case k_l_keys_are => k_is)
    (case a_Marking_accuses => k_is)
    (case i_Marking_accuses => k_is)
    (case l_Marking_accuses => k_is)
    (case q_Marking_accuses => k_is)
    (case k_Marking_accuses => k_is)
    (case a_Marking_write => k_is)
    (case i_Marking_write => k_is)
    (case l_Marking_write => k_is)
    (case q_Marking_write => k_is)
    (case k_Marking_write => k_is)
    (case a_l_counted => k_is)
    (case l_l_counted => k_is)
    (case q_l_counted => k_is)
    (case k_l_counted => k_is)
    (case a_l_body => k_is)
    (case l_l_body => k_is)
    (case q_l_body => k_is)
    (case k_l_body => k_is)
    (case a_law => k_is)
    (case l_law => k_is)
    (case q_law => k_is)
    (case k_law => k_is)
