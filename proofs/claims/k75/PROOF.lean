import PyProof.Rows.All
import Wide.All
import OpenK.AllK
import Wide.FinOn
import HandS.ForMost
import HandS.Defaults
import HandS.Style
import HandS.TupMul
import HandS.IsInst
import HandS.Wide
import HandS.ForExc
import HandS.Zip
import KE.KStateDown
import Lean
import HandS.Base
import HandS.Call
import HandS.Ends
import HandS.More
import HandS.Words
import HandS.WordsExc
import HandS.Head0
import HandS.Head1
import HandS.Head2
import HandS.HeadEnd
import HandS.HeadHook1
import HandS.HeadHook2
import PySem.Challenge.RW_wordsworth_k75_two_cases_side_by_side
set_option Elab.async false
set_option linter.all false
set_option maxRecDepth 100000
/-! VA: data D by value, its representation over the abstract heap. -/
namespace VL
open PySem L2

inductive D where
  | non | bl (b : Bool) | int (i : Int) | str (x : Str)
  | tup (l : List D) | lst (l : List D) | own (l : List D)
  | opq (v : V)

mutual
/-- nothing in it is owned -/
def D.pure : D → Bool
  | .own _ => false
  | .tup l => pureL l
  | .lst l => pureL l
  | _ => true
def pureL : List D → Bool
  | [] => true
  | d :: r => d.pure && pureL r
end
mutual
/-- pure, and no list in it -/
def D.lf : D → Bool
  | .own _ => false
  | .lst _ => false
  | .opq _ => false
  | .tup l => lfL l
  | _ => true
def lfL : List D → Bool
  | [] => true
  | d :: r => d.lf && lfL r
end
mutual
/-- owned lists seen as lists that stay -/
def D.view : D → D
  | .own l => .lst (viewL l)
  | .lst l => .lst (viewL l)
  | .tup l => .tup (viewL l)
  | d => d
def viewL : List D → List D
  | [] => []
  | d :: r => d.view :: viewL r
end
mutual
theorem D.view_pure : ∀ d : D, d.pure = true → d.view = d
  | .non, _ => rfl
  | .bl _, _ => rfl
  | .int _, _ => rfl
  | .str _, _ => rfl
  | .opq _, _ => rfl
  | .own _, h => by simp [D.pure] at h
  | .tup l, h => by simp only [D.view]; rw [viewL_pure l (by simpa [D.pure] using h)]
  | .lst l, h => by simp only [D.view]; rw [viewL_pure l (by simpa [D.pure] using h)]
theorem viewL_pure : ∀ l : List D, pureL l = true → viewL l = l
  | [], _ => rfl
  | d :: r, h => by
    simp only [pureL, Bool.and_eq_true] at h
    simp only [viewL]; rw [D.view_pure d h.1, viewL_pure r h.2]
end
mutual
theorem D.pure_view : ∀ d : D, d.view.pure = true
  | .non => rfl
  | .bl _ => rfl
  | .int _ => rfl
  | .str _ => rfl
  | .opq _ => rfl
  | .own l => by simp only [D.view, D.pure]; exact pureL_view l
  | .tup l => by simp only [D.view, D.pure]; exact pureL_view l
  | .lst l => by simp only [D.view, D.pure]; exact pureL_view l
theorem pureL_view : ∀ l : List D, pureL (viewL l) = true
  | [] => rfl
  | d :: r => by simp only [viewL, pureL, Bool.and_eq_true]; exact ⟨D.pure_view d, pureL_view r⟩
end
mutual
theorem D.pure_lf : ∀ d : D, d.lf = true → d.pure = true
  | .non, _ => rfl
  | .bl _, _ => rfl
  | .int _, _ => rfl
  | .str _, _ => rfl
  | .opq _, _ => rfl
  | .own _, h => by simp [D.lf] at h
  | .lst _, h => by simp [D.lf] at h
  | .tup l, h => by simp only [D.pure]; exact pureL_lf l (by simpa [D.lf] using h)
theorem pureL_lf : ∀ l : List D, lfL l = true → pureL l = true
  | [], _ => rfl
  | d :: r, h => by
    simp only [lfL, Bool.and_eq_true] at h
    simp only [pureL, Bool.and_eq_true]; exact ⟨D.pure_lf d h.1, pureL_lf r h.2⟩
end
theorem pureL_iff : ∀ {l : List D}, pureL l = true ↔ ∀ d ∈ l, d.pure = true
  | [] => by simp [pureL]
  | d :: r => by
    simp only [pureL, Bool.and_eq_true, List.mem_cons, pureL_iff (l := r)]
    constructor
    · rintro ⟨a, b⟩ x (rfl | h)
      · exact a
      · exact b x h
    · intro h
      exact ⟨h d (.inl rfl), fun x hx => h x (.inr hx)⟩
theorem lfL_iff : ∀ {l : List D}, lfL l = true ↔ ∀ d ∈ l, d.lf = true
  | [] => by simp [lfL]
  | d :: r => by
    simp only [lfL, Bool.and_eq_true, List.mem_cons, lfL_iff (l := r)]
    constructor
    · rintro ⟨a, b⟩ x (rfl | h)
      · exact a
      · exact b x h
    · intro h
      exact ⟨h d (.inl rfl), fun x hx => h x (.inr hx)⟩
theorem viewL_map : ∀ l : List D, viewL l = l.map D.view
  | [] => rfl
  | d :: r => by simp only [viewL, List.map_cons, viewL_map r]

section
variable (K : PySem.W.Frag)
mutual
/-- v is the pure d over the heap S, for good -/
def RepS (S : Hp) : D → V → Prop
  | .non, v => v = .non
  | .bl b, v => v = .bl b
  | .int i, v => v = .int i
  | .str x, v => v = .str x
  | .opq u, v => v = u
  | .tup l, v => ∃ a vs, v = .ref a ∧ SqT K S a vs ∧ RepSs S l vs
  | .lst l, v => ∃ a vs, v = .ref a ∧ SqL K S a vs ∧ RepSs S l vs
  | .own _, _ => False
def RepSs (S : Hp) : List D → List V → Prop
  | [], vs => vs = []
  | d :: r, vs => ∃ v ws, vs = v :: ws ∧ RepS S d v ∧ RepSs S r ws
end
mutual
/-- v is d; F: the addresses of what is owned in it, in their order -/
def RepO (S H : Hp) : D → V → List Addr → Prop
  | .own l, v, F => ∃ a vs G, v = .ref a ∧ F = a :: G ∧ S a = none ∧ H a = some (.lst vs) ∧ RepOs S H l vs G
  | d, v, F => RepS K S d v ∧ F = []
def RepOs (S H : Hp) : List D → List V → List Addr → Prop
  | [], vs, F => vs = [] ∧ F = []
  | d :: r, vs, F => ∃ v ws F1 F2, vs = v :: ws ∧ F = F1 ++ F2 ∧ RepO S H d v F1 ∧ RepOs S H r ws F2
end
end
section
variable {K : PySem.W.Frag} {S S' H H' : Hp}
theorem SqT.mono {a : Addr} {vs : List V} (e : Same S S') (h : SqT K S a vs) : SqT K S' a vs := by
  rcases h with (h | ⟨o, h⟩) | h
  · exact .inl (.inl (e _ _ h))
  · exact .inl (.inr ⟨o, e _ _ h⟩)
  · exact .inr h
mutual
theorem RepS.mono (e : Same S S') : ∀ {d : D} {v : V}, RepS K S d v → RepS K S' d v
  | .non, _, h => by simpa only [RepS] using h
  | .bl _, _, h => by simpa only [RepS] using h
  | .int _, _, h => by simpa only [RepS] using h
  | .str _, _, h => by simpa only [RepS] using h
  | .opq _, _, h => by simpa only [RepS] using h
  | .own _, _, h => by simp only [RepS] at h
  | .tup l, v, h => by
    simp only [RepS] at h ⊢
    obtain ⟨a, vs, e1, e2, e3⟩ := h
    exact ⟨a, vs, e1, SqT.mono e e2, RepSs.mono e e3⟩
  | .lst l, v, h => by
    simp only [RepS] at h ⊢
    obtain ⟨a, vs, e1, e2, e3⟩ := h
    exact ⟨a, vs, e1, e.seq e2, RepSs.mono e e3⟩
theorem RepSs.mono (e : Same S S') : ∀ {l : List D} {vs : List V}, RepSs K S l vs → RepSs K S' l vs
  | [], _, h => by simpa only [RepSs] using h
  | d :: r, vs, h => by
    simp only [RepSs] at h ⊢
    obtain ⟨v, ws, e1, e2, e3⟩ := h
    exact ⟨v, ws, e1, RepS.mono e e2, RepSs.mono e e3⟩
end
mutual
theorem RepS.pure : ∀ {d : D} {v : V}, RepS K S d v → d.pure = true
  | .non, _, _ => rfl
  | .bl _, _, _ => rfl
  | .int _, _, _ => rfl
  | .str _, _, _ => rfl
  | .opq _, _, _ => rfl
  | .own _, _, h => by simp only [RepS] at h
  | .tup l, v, h => by
    simp only [RepS] at h
    obtain ⟨a, vs, e1, e2, e3⟩ := h
    simp only [D.pure]; exact RepSs.pure e3
  | .lst l, v, h => by
    simp only [RepS] at h
    obtain ⟨a, vs, e1, e2, e3⟩ := h
    simp only [D.pure]; exact RepSs.pure e3
theorem RepSs.pure : ∀ {l : List D} {vs : List V}, RepSs K S l vs → pureL l = true
  | [], _, _ => rfl
  | d :: r, vs, h => by
    simp only [RepSs] at h
    obtain ⟨v, ws, e1, e2, e3⟩ := h
    simp only [pureL, Bool.and_eq_true]; exact ⟨RepS.pure e2, RepSs.pure e3⟩
end
theorem RepO.of_pure {d : D} {v : V} (h : RepS K S d v) : RepO K S H d v [] := by
  cases d <;> simp only [RepO] <;> first | exact ⟨h, trivial⟩ | (simp only [RepS] at h)
theorem RepO.to_pure {d : D} {v : V} {F : List Addr} (hp : d.pure = true) (h : RepO K S H d v F) : RepS K S d v ∧ F = [] := by
  cases d <;> simp only [RepO] at h <;> first | exact h | (simp [D.pure] at hp)
theorem RepOs.of_pure : ∀ {l : List D} {vs : List V}, RepSs K S l vs → RepOs K S H l vs []
  | [], vs, h => by simp only [RepSs] at h; simp only [RepOs]; exact ⟨h, trivial⟩
  | d :: r, vs, h => by
    simp only [RepSs] at h
    obtain ⟨v, ws, e1, e2, e3⟩ := h
    simp only [RepOs]
    exact ⟨v, ws, [], [], e1, rfl, .of_pure e2, .of_pure e3⟩
theorem RepOs.to_pure : ∀ {l : List D} {vs : List V} {F : List Addr}, pureL l = true → RepOs K S H l vs F → RepSs K S l vs ∧ F = []
  | [], vs, F, _, h => by simp only [RepOs] at h; simp only [RepSs]; exact h
  | d :: r, vs, F, hp, h => by
    simp only [RepOs] at h
    obtain ⟨v, ws, F1, F2, e1, e2, e3, e4⟩ := h
    simp only [pureL, Bool.and_eq_true] at hp
    obtain ⟨a1, rfl⟩ := e3.to_pure hp.1
    obtain ⟨a2, rfl⟩ := RepOs.to_pure hp.2 e4
    simp only [RepSs]
    exact ⟨⟨v, ws, e1, a1, a2⟩, e2⟩
mutual
/-- what is owned stays as it is: the representation stays -/
theorem RepO.mono (e : Same S S') : ∀ {d : D} {v : V} {F : List Addr}, (∀ a ∈ F, ∀ o, H a = some o → H' a = some o) → (∀ a ∈ F, S a = none → S' a = none) → RepO K S H d v F → RepO K S' H' d v F
  | .own l, v, F, k1, k2, h => by
    simp only [RepO] at h ⊢
    obtain ⟨a, vs, G, e1, rfl, e3, e4, e5⟩ := h
    exact ⟨a, vs, G, e1, rfl, k2 a (by simp) e3, k1 a (by simp) _ e4, RepOs.mono e (fun b hb => k1 b (by simp [hb])) (fun b hb => k2 b (by simp [hb])) e5⟩
  | .non, v, F, _, _, h => by simp only [RepO] at h ⊢; exact ⟨h.1.mono e, h.2⟩
  | .bl _, v, F, _, _, h => by simp only [RepO] at h ⊢; exact ⟨h.1.mono e, h.2⟩
  | .int _, v, F, _, _, h => by simp only [RepO] at h ⊢; exact ⟨h.1.mono e, h.2⟩
  | .str _, v, F, _, _, h => by simp only [RepO] at h ⊢; exact ⟨h.1.mono e, h.2⟩
  | .opq _, v, F, _, _, h => by simp only [RepO] at h ⊢; exact ⟨h.1.mono e, h.2⟩
  | .tup _, v, F, _, _, h => by simp only [RepO] at h ⊢; exact ⟨h.1.mono e, h.2⟩
  | .lst _, v, F, _, _, h => by simp only [RepO] at h ⊢; exact ⟨h.1.mono e, h.2⟩
theorem RepOs.mono (e : Same S S') : ∀ {l : List D} {vs : List V} {F : List Addr}, (∀ a ∈ F, ∀ o, H a = some o → H' a = some o) → (∀ a ∈ F, S a = none → S' a = none) → RepOs K S H l vs F → RepOs K S' H' l vs F
  | [], vs, F, _, _, h => by simpa only [RepOs] using h
  | d :: r, vs, F, k1, k2, h => by
    simp only [RepOs] at h ⊢
    obtain ⟨v, ws, F1, F2, e1, rfl, e3, e4⟩ := h
    exact ⟨v, ws, F1, F2, e1, rfl, RepO.mono e (fun b hb => k1 b (by simp [hb])) (fun b hb => k2 b (by simp [hb])) e3, RepOs.mono e (fun b hb => k1 b (by simp [hb])) (fun b hb => k2 b (by simp [hb])) e4⟩
end
mutual
/-- it is seen in the heap as it stands -/
theorem RepO.seen (e : Same S H) : ∀ {d : D} {v : V} {F : List Addr}, RepO K S H d v F → RepS K H d.view v
  | .own l, v, F, h => by
    simp only [RepO] at h
    obtain ⟨a, vs, G, e1, rfl, e3, e4, e5⟩ := h
    simp only [D.view, RepS]
    exact ⟨a, vs, e1, .inl (.inl e4), RepOs.seen e e5⟩
  | .non, v, F, h => by simp only [RepO] at h; exact h.1.mono e
  | .bl _, v, F, h => by simp only [RepO] at h; exact h.1.mono e
  | .int _, v, F, h => by simp only [RepO] at h; exact h.1.mono e
  | .str _, v, F, h => by simp only [RepO] at h; exact h.1.mono e
  | .opq _, v, F, h => by simp only [RepO] at h; exact h.1.mono e
  | .tup l, v, F, h => by simp only [RepO] at h; rw [D.view_pure _ h.1.pure]; exact h.1.mono e
  | .lst l, v, F, h => by simp only [RepO] at h; rw [D.view_pure _ h.1.pure]; exact h.1.mono e
theorem RepOs.seen (e : Same S H) : ∀ {l : List D} {vs : List V} {F : List Addr}, RepOs K S H l vs F → RepSs K H (viewL l) vs
  | [], vs, F, h => by simp only [RepOs] at h; simp only [viewL, RepSs]; exact h.1
  | d :: r, vs, F, h => by
    simp only [RepOs] at h
    obtain ⟨v, ws, F1, F2, e1, rfl, e3, e4⟩ := h
    simp only [viewL, RepSs]
    exact ⟨v, ws, e1, RepO.seen e e3, RepOs.seen e e4⟩
end
mutual
/-- all that is owned in it is there -/
theorem RepO.there : ∀ {d : D} {v : V} {F : List Addr}, RepO K S H d v F → ∀ a ∈ F, S a = none ∧ ∃ vs, H a = some (.lst vs)
  | .own l, v, F, h => by
    simp only [RepO] at h
    obtain ⟨a, vs, G, e1, rfl, e3, e4, e5⟩ := h
    intro b hb
    rcases List.mem_cons.mp hb with rfl | hb
    · exact ⟨e3, vs, e4⟩
    · exact RepOs.there e5 b hb
  | .non, v, F, h => by simp only [RepO] at h; rw [h.2]; intro a ha; cases ha
  | .bl _, v, F, h => by simp only [RepO] at h; rw [h.2]; intro a ha; cases ha
  | .int _, v, F, h => by simp only [RepO] at h; rw [h.2]; intro a ha; cases ha
  | .str _, v, F, h => by simp only [RepO] at h; rw [h.2]; intro a ha; cases ha
  | .opq _, v, F, h => by simp only [RepO] at h; rw [h.2]; intro a ha; cases ha
  | .tup _, v, F, h => by simp only [RepO] at h; rw [h.2]; intro a ha; cases ha
  | .lst _, v, F, h => by simp only [RepO] at h; rw [h.2]; intro a ha; cases ha
theorem RepOs.there : ∀ {l : List D} {vs : List V} {F : List Addr}, RepOs K S H l vs F → ∀ a ∈ F, S a = none ∧ ∃ vs, H a = some (.lst vs)
  | [], vs, F, h => by simp only [RepOs] at h; rw [h.2]; intro a ha; cases ha
  | d :: r, vs, F, h => by
    simp only [RepOs] at h
    obtain ⟨v, ws, F1, F2, e1, rfl, e3, e4⟩ := h
    intro b hb
    rcases List.mem_append.mp hb with hb | hb
    · exact RepO.there e3 b hb
    · exact RepOs.there e4 b hb
end
mutual
/-- what has no list in it stands for good wherever tuples do -/
theorem RepS.small (k : ∀ a o, S a = some o → Mut (some o) ∨ S' a = some o) : ∀ {d : D} {v : V}, d.lf = true → RepS K S d v → RepS K S' d v
  | .non, _, _, h => by simpa only [RepS] using h
  | .bl _, _, _, h => by simpa only [RepS] using h
  | .int _, _, _, h => by simpa only [RepS] using h
  | .str _, _, _, h => by simpa only [RepS] using h
  | .opq _, _, _, h => by simpa only [RepS] using h
  | .own _, _, _, h => by simp only [RepS] at h
  | .lst _, _, q, h => by simp [D.lf] at q
  | .tup l, v, q, h => by
    simp only [RepS] at h ⊢
    obtain ⟨a, vs, e1, e2, e3⟩ := h
    refine ⟨a, vs, e1, ?_, RepSs.small k (by simpa [D.lf] using q) e3⟩
    rcases e2 with (h | ⟨o, h⟩) | h
    · rcases k _ _ h with z | z
      · exact z.elim
      · exact .inl (.inl z)
    · rcases k _ _ h with z | z
      · exact z.elim
      · exact .inl (.inr ⟨o, z⟩)
    · exact .inr h
theorem RepSs.small (k : ∀ a o, S a = some o → Mut (some o) ∨ S' a = some o) : ∀ {l : List D} {vs : List V}, lfL l = true → RepSs K S l vs → RepSs K S' l vs
  | [], _, _, h => by simpa only [RepSs] using h
  | d :: r, vs, q, h => by
    simp only [RepSs] at h ⊢
    simp only [lfL, Bool.and_eq_true] at q
    obtain ⟨v, ws, e1, e2, e3⟩ := h
    exact ⟨v, ws, e1, RepS.small k q.1 e2, RepSs.small k q.2 e3⟩
end
theorem RepSs.length : ∀ {l : List D} {vs : List V}, RepSs K S l vs → vs.length = l.length
  | [], vs, h => by simp only [RepSs] at h; rw [h]; rfl
  | d :: r, vs, h => by
    simp only [RepSs] at h
    obtain ⟨v, ws, rfl, e2, e3⟩ := h
    rw [List.length_cons, List.length_cons, RepSs.length e3]
theorem RepSs.get : ∀ {l : List D} {vs : List V} {i : Nat} {d : D}, RepSs K S l vs → l[i]? = some d → ∃ v, vs[i]? = some v ∧ RepS K S d v
  | [], vs, i, d, h, e => by simp at e
  | d' :: r, vs, 0, d, h, e => by
    simp only [RepSs] at h
    obtain ⟨v, ws, rfl, e2, e3⟩ := h
    simp at e; subst e
    exact ⟨v, rfl, e2⟩
  | d' :: r, vs, i + 1, d, h, e => by
    simp only [RepSs] at h
    obtain ⟨v, ws, rfl, e2, e3⟩ := h
    obtain ⟨u, a, b⟩ := RepSs.get (i := i) e3 (by simpa using e)
    exact ⟨u, by simpa using a, b⟩
theorem RepSs.getV : ∀ {l : List D} {vs : List V} {i : Nat} {v : V}, RepSs K S l vs → vs[i]? = some v → ∃ d, l[i]? = some d ∧ RepS K S d v
  | [], vs, i, d, h, e => by simp only [RepSs] at h; subst h; simp at e
  | d' :: r, vs, 0, d, h, e => by
    simp only [RepSs] at h
    obtain ⟨v, ws, rfl, e2, e3⟩ := h
    simp at e; subst e
    exact ⟨d', rfl, e2⟩
  | d' :: r, vs, i + 1, d, h, e => by
    simp only [RepSs] at h
    obtain ⟨v, ws, rfl, e2, e3⟩ := h
    obtain ⟨u, a, b⟩ := RepSs.getV (i := i) e3 (by simpa using e)
    exact ⟨u, by simpa using a, b⟩
theorem RepSs.append : ∀ {l l' : List D} {vs vs' : List V}, RepSs K S l vs → RepSs K S l' vs' → RepSs K S (l ++ l') (vs ++ vs')
  | [], l', vs, vs', h, h' => by simp only [RepSs] at h; subst h; simpa using h'
  | d :: r, l', vs, vs', h, h' => by
    simp only [RepSs] at h
    obtain ⟨v, ws, rfl, e2, e3⟩ := h
    simp only [List.cons_append, RepSs]
    exact ⟨v, ws ++ vs', rfl, e2, RepSs.append e3 h'⟩
theorem RepSs.ints : ∀ {l : List Int} {vs : List V}, RepSs K S (l.map D.int) vs → vs = l.map V.int
  | [], vs, h => by simpa only [List.map_nil, RepSs] using h
  | i :: r, vs, h => by
    simp only [List.map_cons, RepSs, RepS] at h
    obtain ⟨v, ws, rfl, rfl, e3⟩ := h
    rw [RepSs.ints e3]; rfl
theorem RepSs.of_ints : ∀ {l : List Int}, RepSs K S (l.map D.int) (l.map V.int)
  | [] => by simp only [List.map_nil, RepSs]
  | i :: r => by
    simp only [List.map_cons, RepSs, RepS]
    exact ⟨_, _, rfl, rfl, RepSs.of_ints⟩
theorem RepOs.length : ∀ {l : List D} {vs : List V} {F : List Addr}, RepOs K S H l vs F → vs.length = l.length
  | [], vs, F, h => by simp only [RepOs] at h; rw [h.1]; rfl
  | d :: r, vs, F, h => by
    simp only [RepOs] at h
    obtain ⟨v, ws, F1, F2, rfl, _, _, e3⟩ := h
    rw [List.length_cons, List.length_cons, RepOs.length e3]
end
end VL

set_option Elab.async false
set_option linter.all false
set_option maxRecDepth 100000
/-! VB: the world of a body by value; judgements. -/
namespace VL
open PySem L2

abbrev En := List (Option D)
structure SC where
  P : Program
  w : World
  K : PySem.W.Frag
  mg : Str → Option Value
  base : Heap
  N : List Str
  sc : Scope
  lv : Nat
  io : List Bool
  fn : Str → Bool

structure Fits (C : SC) (X : Cx) : Prop where
  prog : X.prog = C.P
  w : X.w = C.w
  K : X.K = C.K
  mg : X.mg = C.mg
  base : X.base = C.base
  N : X.N = C.N
  sc : X.env.scope = C.sc
  calm : X.calm = true
  room : Room C.lv X.A
  xe : X.xe = fun _ _ => False
  fn : X.fn = C.fn

def Imm (S H : Hp) : Prop := ∀ a o, H a = some o → Mut (some o) ∨ S a = some o

section
variable (K : PySem.W.Frag)
def Slots (S H : Hp) : St → En → List Addr → Prop
  | [], [], F => F = []
  | _ :: σ, none :: ρ, F => Slots S H σ ρ F
  | x :: σ, some d :: ρ, F => ∃ v F1 F2, x = some v ∧ F = F1 ++ F2 ∧ RepO K S H d v F1 ∧ Slots S H σ ρ F2
  | _, _, _ => False
structure Wd (S H : Hp) (σ : St) (ρ : En) (F : List Addr) : Prop where
  sub : Same S H
  imm : Imm S H
  sl : Slots K S H σ ρ F
  nd : F.Nodup
end
structure Step (F : List Addr) (S H S' H' : Hp) (F' : List Addr) : Prop where
  s : Same S S'
  h : ∀ a o, H a = some o → a ∉ F → H' a = some o
  new : ∀ a o, S' a = some o → S a = some o ∨ a ∈ F ∨ H a = none
  fp : ∀ a ∈ F', a ∈ F ∨ H a = none

section
variable {K : PySem.W.Frag} {S S' S2 H H' H2 : Hp} {σ σ' : St} {ρ ρ' : En} {F F' F2 G : List Addr}
theorem Step.refl : Step F S H S H F := ⟨fun _ _ h => h, fun _ _ h _ => h, fun _ _ h => .inl h, fun _ h => .inl h⟩
theorem Step.trans (a : Step F S H S' H' F') (b : Step F' S' H' S2 H2 F2) : Step F S H S2 H2 F2 where
  s := a.s.trans b.s
  h := fun x o e n => by
    refine b.h x o (a.h x o e n) fun m => ?_
    rcases a.fp x m with z | z
    · exact n z
    · rw [z] at e; cases e
  new := fun x o e => by
    rcases b.new x o e with z | z | z
    · exact a.new x o z
    · rcases a.fp x z with z | z
      · exact .inr (.inl z)
      · exact .inr (.inr z)
    · by_cases m : x ∈ F
      · exact .inr (.inl m)
      · refine .inr (.inr ?_)
        cases q : H x with
        | none => rfl
        | some u => rw [a.h x u q m] at z; cases z
  fp := fun x m => by
    rcases b.fp x m with z | z
    · exact a.fp x z
    · by_cases m : x ∈ F
      · exact .inl m
      · refine .inr ?_
        cases q : H x with
        | none => rfl
        | some u => rw [a.h x u q m] at z; cases z
/-- owning more -/
theorem Step.frame (a : Step F S H S' H' F') : Step (F ++ G) S H S' H' (F' ++ G) where
  s := a.s
  h := fun x o e n => a.h x o e fun m => n (by simp [m])
  new := fun x o e => by
    rcases a.new x o e with z | z | z
    · exact .inl z
    · exact .inr (.inl (by simp [z]))
    · exact .inr (.inr z)
  fp := fun x m => by
    rcases List.mem_append.mp m with m | m
    · rcases a.fp x m with z | z
      · exact .inl (by simp [z])
      · exact .inr z
    · exact .inl (by simp [m])
theorem Step.less (a : Step F S H S' H' F') (h : ∀ x ∈ F2, x ∈ F') : Step F S H S' H' F2 := ⟨a.s, a.h, a.new, fun x m => a.fp x (h x m)⟩
theorem Step.more (a : Step F S H S' H' F') (h : ∀ x ∈ F, x ∈ F2) : Step F2 S H S' H' F' := ⟨a.s, fun x o e n => a.h x o e fun m => n (h x m), fun x o e => by
    rcases a.new x o e with z | z | z
    · exact .inl z
    · exact .inr (.inl (h x z))
    · exact .inr (.inr z), fun x m => by
    rcases a.fp x m with z | z
    · exact .inl (h x z)
    · exact .inr z⟩

theorem Slots.mono (e : Same S S') : ∀ {σ : St} {ρ : En} {F : List Addr}, (∀ a ∈ F, ∀ o, H a = some o → H' a = some o) → (∀ a ∈ F, S a = none → S' a = none) → Slots K S H σ ρ F → Slots K S' H' σ ρ F
  | [], [], F, _, _, h => h
  | _ :: σ, none :: ρ, F, k1, k2, h => Slots.mono (σ := σ) (ρ := ρ) e k1 k2 h
  | x :: σ, some d :: ρ, F, k1, k2, h => by
    obtain ⟨v, F1, F2, e1, rfl, e3, e4⟩ := h
    exact ⟨v, F1, F2, e1, rfl, e3.mono e (fun b hb => k1 b (by simp [hb])) (fun b hb => k2 b (by simp [hb])), Slots.mono e (fun b hb => k1 b (by simp [hb])) (fun b hb => k2 b (by simp [hb])) e4⟩
  | [], _ :: _, _, _, _, h => False.elim h
  | _ :: _, [], _, _, _, h => by
    exact False.elim (by simpa [Slots] using h)
theorem Slots.there : ∀ {σ : St} {ρ : En} {F : List Addr}, Slots K S H σ ρ F → ∀ a ∈ F, S a = none ∧ ∃ vs, H a = some (.lst vs)
  | [], [], F, h => by
    have e : F = [] := h
    rw [e]; intro a ha; cases ha
  | _ :: σ, none :: ρ, F, h => Slots.there (σ := σ) (ρ := ρ) h
  | x :: σ, some d :: ρ, F, h => by
    obtain ⟨v, F1, F2, e1, rfl, e3, e4⟩ := h
    intro b hb
    rcases List.mem_append.mp hb with hb | hb
    · exact e3.there b hb
    · exact Slots.there e4 b hb
  | [], _ :: _, _, h => False.elim h
  | _ :: _, [], _, h => by
    exact False.elim (by simpa [Slots] using h)
theorem Slots.length : ∀ {σ : St} {ρ : En} {F : List Addr}, Slots K S H σ ρ F → σ.length = ρ.length
  | [], [], F, h => rfl
  | _ :: σ, none :: ρ, F, h => by rw [List.length_cons, List.length_cons, Slots.length (σ := σ) (ρ := ρ) h]
  | x :: σ, some d :: ρ, F, h => by
    obtain ⟨v, F1, F2, e1, rfl, e3, e4⟩ := h
    rw [List.length_cons, List.length_cons, Slots.length e4]
  | [], _ :: _, _, h => False.elim h
  | _ :: _, [], _, h => by
    exact False.elim (by simpa [Slots] using h)
/-- one slot: what stands there, and what may be put there -/
theorem Slots.at : ∀ {σ : St} {ρ : En} {F : List Addr} (i : Nat), Slots K S H σ ρ F → ∃ F1 Fi F2, F = F1 ++ (Fi ++ F2) ∧
    (∀ d, ρ[i]? = some (some d) → ∃ v, σ[i]? = some (some v) ∧ RepO K S H d v Fi) ∧
    (∀ S' H' x, Same S S' → (∀ a ∈ F1 ++ F2, ∀ o, H a = some o → H' a = some o) → (∀ a ∈ F1 ++ F2, S a = none → S' a = none) →
      Slots K S' H' (σ.set i x) (ρ.set i none) (F1 ++ F2) ∧ (Fi = [] → ρ[i]? = some none → Slots K S' H' (σ.set i x) ρ (F1 ++ F2)) ∧
      ∀ v d Fd, x = some v → RepO K S' H' d v Fd → i < ρ.length → Slots K S' H' (σ.set i x) (ρ.set i (some d)) (F1 ++ (Fd ++ F2)))
  | [], [], F, i, h => by
    have e : F = [] := h
    subst e
    refine ⟨[], [], [], rfl, fun d e => by simp at e, fun S' H' x _ _ _ => ⟨rfl, fun _ e => by simp at e, fun v d Fd _ _ hi => absurd hi (by simp)⟩⟩
  | y :: σ, none :: ρ, F, 0, h => by
    have h : Slots K S H σ ρ F := h
    refine ⟨[], [], F, by simp, fun d e => by simp at e, fun S' H' x e k1 k2 => ⟨?_, fun _ _ => ?_, fun v d Fd ex r _ => ?_⟩⟩
    · exact Slots.mono (σ := σ) (ρ := ρ) e (by simpa using k1) (by simpa using k2) h
    · exact Slots.mono (σ := σ) (ρ := ρ) e (by simpa using k1) (by simpa using k2) h
    · exact ⟨v, Fd, F, ex, by simp, r, Slots.mono (σ := σ) (ρ := ρ) e (by simpa using k1) (by simpa using k2) h⟩
  | y :: σ, some d0 :: ρ, F, 0, h => by
    obtain ⟨v0, G1, G2, e1, rfl, e3, e4⟩ := h
    refine ⟨[], G1, G2, by simp, fun d e => ?_, fun S' H' x e k1 k2 => ⟨?_, fun _ q => by simp at q, fun v d Fd ex r _ => ?_⟩⟩
    · simp at e; subst e
      exact ⟨v0, by simp [e1], e3⟩
    · exact Slots.mono (σ := σ) (ρ := ρ) e (by simpa using k1) (by simpa using k2) e4
    · exact ⟨v, Fd, G2, ex, by simp, r, Slots.mono e (by simpa using k1) (by simpa using k2) e4⟩
  | y :: σ, none :: ρ, F, i + 1, h => by
    have h : Slots K S H σ ρ F := h
    obtain ⟨F1, Fi, F2, rfl, a, b⟩ := Slots.at i h
    refine ⟨F1, Fi, F2, rfl, fun d e => by simpa using a d (by simpa using e), fun S' H' x e k1 k2 => ?_⟩
    obtain ⟨b1, b2, b3⟩ := b S' H' x e k1 k2
    exact ⟨b1, fun z q => b2 z (by simpa using q), fun v d Fd ex r hi => b3 v d Fd ex r (by simpa using hi)⟩
  | y :: σ, some d0 :: ρ, F, i + 1, h => by
    obtain ⟨v0, G1, G2, e1, rfl, e3, e4⟩ := h
    obtain ⟨F1, Fi, F2, rfl, a, b⟩ := Slots.at i e4
    refine ⟨G1 ++ F1, Fi, F2, by simp, fun d e => by simpa using a d (by simpa using e), fun S' H' x e k1 k2 => ?_⟩
    obtain ⟨b1, b2, b3⟩ := b S' H' x e (fun c hc => k1 c (by rcases List.mem_append.mp hc with h | h <;> simp [h])) (fun c hc => k2 c (by rcases List.mem_append.mp hc with h | h <;> simp [h]))
    have r0 : RepO K S' H' d0 v0 G1 := e3.mono e (fun c hc => k1 c (by simp [hc])) (fun c hc => k2 c (by simp [hc]))
    exact ⟨⟨v0, G1, F1 ++ F2, e1, by simp, r0, b1⟩, fun z q => ⟨v0, G1, F1 ++ F2, e1, by simp, r0, b2 z (by simpa using q)⟩,
      fun v d Fd ex r hi => ⟨v0, G1, F1 ++ (Fd ++ F2), e1, by simp, r0, b3 v d Fd ex r (by simpa using hi)⟩⟩
  | [], _ :: _, _, _, h => False.elim h
  | _ :: _, [], _, _, h => by
    exact False.elim (by simpa [Slots] using h)
end
end VL

set_option Elab.async false
set_option linter.all false
set_option maxRecDepth 100000
/-! VC: judgements of expressions, statements, defs. -/
namespace VL
open PySem L2

/-- behind an expression: b: what is told is its own; m: something may have changed -/
structure Po (K : PySem.W.Frag) (b m : Bool) (F : List Addr) (S H : Hp) (σ : St) (ρ : En) (S' H' : Hp) (ρ' : En) (F' : List Addr) (v : V) (d : D) (Fd : List Addr) : Prop where
  step : Step F S H S' H' F'
  wd : Wd K S' H' σ ρ' F'
  rep : RepO K S' H' d v Fd
  fr : b = true → (F' ++ Fd).Nodup ∧ ∀ a ∈ Fd, a ∈ F ∨ H a = none
  un : m = false → ρ' = ρ ∧ F' = F ∧ Same H H' ∧ ∀ a o, S' a = some o → S a = some o ∨ H a = none

abbrev TX := En → (D → En → Prop) → Prop
def EX (C : SC) (e : Expr) (b m : Bool) (t : TX) : Prop :=
  ∃ te : TE, (∀ X, Fits C X → PE X e te) ∧ ∀ (σ : St) (H S : Hp) (ρ : En) (F : List Addr) (Q : D → En → Prop) (P : VK), Wd C.K S H σ ρ F → t ρ Q →
    (∀ v d S' H' ρ' F' Fd, Po C.K b m F S H σ ρ S' H' ρ' F' v d Fd → Q d ρ' → P v H') → te σ H P
/-- a test -/
abbrev TB := En → (Bool → En → Prop) → Prop
def EB (C : SC) (e : Expr) (m : Bool) (t : TB) : Prop :=
  ∃ te : TT, (∀ X, Fits C X → PT X e te) ∧ ∀ (σ : St) (H S : Hp) (ρ : En) (F : List Addr) (Q : Bool → En → Prop) (P : Bool → Hp → Prop), Wd C.K S H σ ρ F → t ρ Q →
    (∀ k S' H' ρ' F', Po C.K true m F S H σ ρ S' H' ρ' F' .non .non [] → Q k ρ' → P k H') → te σ H P

/-- arguments -/
structure PoA (K : PySem.W.Frag) (b m : Bool) (F : List Addr) (S H : Hp) (σ : St) (ρ : En) (S' H' : Hp) (ρ' : En) (F' : List Addr) (vs : List V) (ds : List D) (Fd : List Addr) : Prop where
  step : Step F S H S' H' F'
  wd : Wd K S' H' σ ρ' F'
  rep : RepOs K S' H' ds vs Fd
  fr : b = true → (F' ++ Fd).Nodup ∧ ∀ a ∈ Fd, a ∈ F ∨ H a = none
  un : m = false → ρ' = ρ ∧ F' = F ∧ Same H H' ∧ ∀ a o, S' a = some o → S a = some o ∨ H a = none
abbrev TXs := En → (List D → En → Prop) → Prop
def EA (C : SC) (es : List Expr) (b m : Bool) (t : TXs) : Prop :=
  ∃ te : TA, (∀ X, Fits C X → PA X es te) ∧ ∀ (σ : St) (H S : Hp) (ρ : En) (F : List Addr) (Q : List D → En → Prop) (P : List V → Hp → Prop), Wd C.K S H σ ρ F → t ρ Q →
    (∀ vs ds S' H' ρ' F' Fd, PoA C.K b m F S H σ ρ S' H' ρ' F' vs ds Fd → Q ds ρ' → P vs H') → te σ H P

/-! statements -/
structure DE where
  nx : En → Prop
  rt : D → En → Prop
  bk : En → Prop := fun _ => False
  ct : En → Prop := fun _ => False
def Kept (io : List Bool) (σ σ' : St) : Prop := ∀ i : Nat, io[i]? = some true → σ'[i]? = σ[i]?
structure Aft (K : PySem.W.Frag) (io : List Bool) (F : List Addr) (S H : Hp) (σ : St) (S' H' : Hp) (σ' : St) (ρ' : En) (F' : List Addr) : Prop where
  step : Step F S H S' H' F'
  wd : Wd K S' H' σ' ρ' F'
  kept : Kept io σ σ'
structure Ret (K : PySem.W.Frag) (io : List Bool) (F : List Addr) (S H : Hp) (σ : St) (S' H' : Hp) (σ' : St) (ρ' : En) (F' : List Addr) (v : V) (d : D) (Fd : List Addr) : Prop where
  aft : Aft K io F S H σ S' H' σ' ρ' F'
  rep : RepO K S' H' d v Fd
  nd : (F' ++ Fd).Nodup
  fr : ∀ a ∈ Fd, a ∈ F ∨ H a = none
abbrev TSx := DE → En → Prop
def SRun (C : SC) (ts : TS) (t : TSx) : Prop :=
  ∀ (σ : St) (H S : Hp) (ρ : En) (F : List Addr) (D' : DE) (P : Ends), Wd C.K S H σ ρ F → t D' ρ →
    (∀ S' H' σ' ρ' F', Aft C.K C.io F S H σ S' H' σ' ρ' F' → D'.nx ρ' → P.nx σ' H') →
    (∀ S' H' σ' ρ' F' v d Fd, Ret C.K C.io F S H σ S' H' σ' ρ' F' v d Fd → D'.rt d ρ' → P.rt v H') →
    (∀ S' H' σ' ρ' F', Aft C.K C.io F S H σ S' H' σ' ρ' F' → D'.bk ρ' → P.bk σ' H') →
    (∀ S' H' σ' ρ' F', Aft C.K C.io F S H σ S' H' σ' ρ' F' → D'.ct ρ' → P.ct σ' H') → ts P σ H
def SX (C : SC) (st : Stmt) (t : TSx) : Prop := ∃ ts : TS, (∀ X, Fits C X → PS X st ts) ∧ SRun C ts t
def SXs (C : SC) (st : List Stmt) (t : TSx) : Prop := ∃ ts : TS, (∀ X, Fits C X → PSs X st ts) ∧ SRun C ts t

section
variable {K : PySem.W.Frag} {b m : Bool} {io : List Bool} {S S' S2 H H' H2 : Hp} {σ σ' σ2 : St} {ρ ρ' ρ2 : En} {F F' F2 Fd : List Addr} {v : V} {d : D}
theorem Kept.refl : Kept io σ σ := fun _ _ => rfl
theorem Kept.trans (a : Kept io σ σ') (b : Kept io σ' σ2) : Kept io σ σ2 := fun i h => (b i h).trans (a i h)
theorem Aft.refl (w : Wd K S H σ ρ F) : Aft K io F S H σ S H σ ρ F := ⟨.refl, w, .refl⟩
theorem Aft.trans (a : Aft K io F S H σ S' H' σ' ρ' F') (b : Aft K io F' S' H' σ' S2 H2 σ2 ρ2 F2) : Aft K io F S H σ S2 H2 σ2 ρ2 F2 := ⟨a.step.trans b.step, b.wd, a.kept.trans b.kept⟩
theorem Step.old (s : Step F S H S' H' F') {a : Addr} {o : HO} (e : H a = some o) (n : a ∉ F) : a ∉ F' := fun h => by
  rcases s.fp a h with z | z
  · exact n z
  · rw [e] at z; cases z
theorem Step.fresh (s : Step F S H S' H' F') {x : Addr} (h : x ∈ F ∨ H x = none → False) : x ∉ F' := fun z => h (s.fp x z)
theorem Ret.of (a : Aft K io F S H σ S' H' σ' ρ' F') (r : Ret K io F' S' H' σ' S2 H2 σ2 ρ2 F2 v d Fd) : Ret K io F S H σ S2 H2 σ2 ρ2 F2 v d Fd :=
  ⟨a.trans r.aft, r.rep, r.nd, fun x h => by
    rcases r.fr x h with z | z
    · exact a.step.fp x z
    · by_cases q : x ∈ F
      · exact .inl q
      · refine .inr ?_
        cases e : H x with
        | none => rfl
        | some o => rw [a.step.h x o e q] at z; cases z⟩
theorem Po.aft (p : Po K b m F S H σ ρ S' H' ρ' F' v d Fd) : Aft K io F S H σ S' H' σ ρ' F' := ⟨p.step, p.wd, .refl⟩
theorem Po.ret (p : Po K true m F S H σ ρ S' H' ρ' F' v d Fd) : Ret K io F S H σ S' H' σ ρ' F' v d Fd := ⟨p.aft, p.rep, (p.fr rfl).1, (p.fr rfl).2⟩
/-- what stays over a step: what is pure, what is not owned by the env -/
theorem RepO.step {Fx : List Addr} {x : V} {dx : D} (r : RepO K S H dx x Fx) (s : Step F S H S' H' F') (n : ∀ a ∈ Fx, a ∉ F) : RepO K S' H' dx x Fx :=
  r.mono s.s (fun a ha o e => s.h a o e (n a ha)) fun a ha e => by
    cases q : S' a with
    | none => rfl
    | some o =>
      rcases s.new a o q with z | z | z
      · rw [e] at z; cases z
      · exact absurd z (n a ha)
      · obtain ⟨_, vs, w⟩ := r.there a ha
        rw [z] at w; cases w
theorem RepOs.step {Fx : List Addr} {x : List V} {dx : List D} (r : RepOs K S H dx x Fx) (s : Step F S H S' H' F') (n : ∀ a ∈ Fx, a ∉ F) : RepOs K S' H' dx x Fx :=
  r.mono s.s (fun a ha o e => s.h a o e (n a ha)) fun a ha e => by
    cases q : S' a with
    | none => rfl
    | some o =>
      rcases s.new a o q with z | z | z
      · rw [e] at z; cases z
      · exact absurd z (n a ha)
      · obtain ⟨_, vs, w⟩ := r.there a ha
        rw [z] at w; cases w
/-- .. where nothing changes -/
theorem RepO.same {Fx : List Addr} {x : V} {dx : D} (r : RepO K S H dx x Fx) (s : Same S S') (h : Same H H') (n : ∀ a o, S' a = some o → S a = some o ∨ H a = none) : RepO K S' H' dx x Fx :=
  r.mono s (fun a ha o e => h a o e) fun a ha e => by
    cases q : S' a with
    | none => rfl
    | some o =>
      rcases n a o q with z | z
      · rw [e] at z; cases z
      · obtain ⟨_, vs, w⟩ := r.there a ha
        rw [z] at w; cases w
theorem RepOs.same {Fx : List Addr} {x : List V} {dx : List D} (r : RepOs K S H dx x Fx) (s : Same S S') (h : Same H H') (n : ∀ a o, S' a = some o → S a = some o ∨ H a = none) : RepOs K S' H' dx x Fx :=
  r.mono s (fun a ha o e => h a o e) fun a ha e => by
    cases q : S' a with
    | none => rfl
    | some o =>
      rcases n a o q with z | z
      · rw [e] at z; cases z
      · obtain ⟨_, vs, w⟩ := r.there a ha
        rw [z] at w; cases w
theorem Slots.same (r : Slots K S H σ ρ F) (s : Same S S') (h : Same H H') (n : ∀ a o, S' a = some o → S a = some o ∨ H a = none) : Slots K S' H' σ ρ F :=
  r.mono s (fun a ha o e => h a o e) fun a ha e => by
    cases q : S' a with
    | none => rfl
    | some o =>
      rcases n a o q with z | z
      · rw [e] at z; cases z
      · obtain ⟨_, vs, w⟩ := r.there a ha
        rw [z] at w; cases w
/-- nothing has changed, a new thing may stand -/
theorem Po.quiet (w : Wd K S H σ ρ F) (s : Same S S') (h : Same H H') (sub : Same S' H') (im : Imm S' H') (n : ∀ a o, S' a = some o → S a = some o ∨ H a = none)
    (r : RepO K S' H' d v Fd) (fr : b = true → Fd.Nodup ∧ ∀ a ∈ Fd, H a = none) : Po K b m F S H σ ρ S' H' ρ F v d Fd where
  step := ⟨s, fun a o e _ => h a o e, fun a o e => by
    rcases n a o e with z | z
    · exact .inl z
    · exact .inr (.inr z), fun _ z => .inl z⟩
  wd := ⟨sub, im, w.sl.same s h n, w.nd⟩
  rep := r
  fr := fun e => by
    obtain ⟨f1, f2⟩ := fr e
    refine ⟨List.nodup_append.mpr ⟨w.nd, f1, fun a ha c hc e => ?_⟩, fun a ha => .inr (f2 a ha)⟩
    subst e
    obtain ⟨_, vs, q⟩ := w.sl.there a ha
    rw [f2 a hc] at q; cases q
  un := fun _ => ⟨rfl, rfl, h, n⟩
/-- a value at hand -/
theorem Po.val (w : Wd K S H σ ρ F) (r : RepS K S d v) : Po K b m F S H σ ρ S H ρ F v d [] :=
  .quiet w (.refl _) (.refl _) w.sub w.imm (fun _ _ e => .inl e) (.of_pure r) fun _ => ⟨.nil, fun _ h => by cases h⟩
/-- a value at hand behind another -/
theorem Po.put (p : Po K b m F S H σ ρ S' H' ρ' F' v d Fd) {b' : Bool} {x : V} {dx : D} (r : RepS K S' dx x) : Po K b' m F S H σ ρ S' H' ρ' F' x dx [] :=
  ⟨p.step, p.wd, .of_pure r, fun _ => ⟨by simpa using p.wd.nd, fun _ h => by cases h⟩, p.un⟩
/-- the new object is a tuple, for good -/
theorem Imm.upd {p : Addr} {o : HO} (i : Imm S H) (hp : H p = none) (hs : Same S H) : Imm (L2.upd S p o) (L2.upd H p o) := fun a u e => by
  by_cases q : a = p
  · subst q; rw [upd_same] at e; cases e; exact .inr upd_same
  · rw [upd_ne q] at e ⊢; exact i a u e
theorem Imm.updM {p : Addr} {o : HO} (i : Imm S H) (mo : Mut (some o)) : Imm S (L2.upd H p o) := fun a u e => by
  by_cases q : a = p
  · subst q; rw [upd_same] at e; cases e; exact .inl mo
  · rw [upd_ne q] at e; exact i a u e
theorem same_upd {p : Addr} {o : HO} (hp : H p = none) : Same H (L2.upd H p o) := fun a u e => by rw [upd_ne (ne_of_none e hp)]; exact e
theorem none_sub (hs : Same S H) {p : Addr} (hp : H p = none) : S p = none := hs.free hp
theorem same_upd2 {p : Addr} {o : HO} (hs : Same S H) : Same (L2.upd S p o) (L2.upd H p o) := fun a u e => by
  by_cases q : a = p
  · subst q; rw [upd_same] at e ⊢; exact e
  · rw [upd_ne q] at e ⊢; exact hs a u e
theorem same_updR {p : Addr} {o : HO} (hs : Same S H) (hp : S p = none) : Same S (L2.upd H p o) := fun a u e => by rw [upd_ne (ne_of_none e hp)]; exact hs a u e
/-- steps of two expressions -/
theorem Po.seq {b1 m1 b2 m2 m' : Bool} {S1 H1 : Hp} {ρ1 : En} {F1 : List Addr} {v1 : V} {d1 : D} {Fd1 : List Addr} (p : Po K b1 m1 F S H σ ρ S1 H1 ρ1 F1 v1 d1 Fd1) (q : Po K b2 m2 F1 S1 H1 σ ρ1 S2 H2 ρ2 F2 v d Fd)
    (hm : m' = (m1 || m2)) : Po K b2 m' F S H σ ρ S2 H2 ρ2 F2 v d Fd where
  step := p.step.trans q.step
  wd := q.wd
  rep := q.rep
  fr := fun e => ⟨(q.fr e).1, fun a ha => by
    rcases (q.fr e).2 a ha with z | z
    · exact p.step.fp a z
    · by_cases c : a ∈ F
      · exact .inl c
      · refine .inr ?_
        cases r : H a with
        | none => rfl
        | some o => rw [p.step.h a o r c] at z; cases z⟩
  un := fun e => by
    rw [hm, Bool.or_eq_false_iff] at e
    obtain ⟨a1, a2, a3, a4⟩ := p.un e.1
    obtain ⟨c1, c2, c3, c4⟩ := q.un e.2
    refine ⟨c1.trans a1, c2.trans a2, a3.trans c3, fun x o z => ?_⟩
    rcases c4 x o z with w | w
    · exact a4 x o w
    · exact .inr (a3.free w)
/-- the first one's value behind the second -/
theorem Po.first {b1 m1 b2 m2 : Bool} {S1 H1 : Hp} {ρ1 : En} {F1 : List Addr} {v1 : V} {d1 : D} {Fd1 : List Addr} (p : Po K b1 m1 F S H σ ρ S1 H1 ρ1 F1 v1 d1 Fd1) (q : Po K b2 m2 F1 S1 H1 σ ρ1 S2 H2 ρ2 F2 v d Fd)
    (hs : (b1 || !m2) = true ∨ d1.pure = true) : RepO K S2 H2 d1 v1 Fd1 := by
  rcases hs with hs | hs
  · rcases Bool.or_eq_true _ _ |>.mp hs with e | e
    · refine p.rep.step q.step fun a ha c => ?_
      have := List.nodup_append.mp (p.fr e).1
      exact this.2.2 a c a ha rfl
    · obtain ⟨_, _, c3, c4⟩ := q.un (by simpa using e)
      exact p.rep.same q.step.s c3 c4
  · obtain ⟨a, rfl⟩ := p.rep.to_pure hs
    exact .of_pure (a.mono q.step.s)
end
end VL

set_option Elab.async false
set_option linter.all false
set_option maxRecDepth 100000
set_option maxHeartbeats 1000000
/-! VD: expressions. -/
namespace VL
open PySem L2

/-- a thing that only looks, and may lay new things -/
structure Qt (K : PySem.W.Frag) (b : Bool) (S H S' H' : Hp) (v : V) (d : D) (Fd : List Addr) : Prop where
  s : Same S S'
  h : Same H H'
  sub : Same S' H'
  im : Imm S' H'
  n : ∀ a o, S' a = some o → S a = some o ∨ H a = none
  rep : RepO K S' H' d v Fd
  fr : b = true → Fd.Nodup ∧ ∀ a ∈ Fd, H a = none
section
variable {K : PySem.W.Frag} {b m : Bool} {S S' S2 H H' H2 : Hp} {σ : St} {ρ ρ' ρ2 : En} {F F' F2 Fd : List Addr} {v : V} {d : D}
theorem Qt.val (sub : Same S H) (im : Imm S H) (r : RepS K S d v) : Qt K b S H S H v d [] := ⟨.refl _, .refl _, sub, im, fun _ _ e => .inl e, .of_pure r, fun _ => ⟨.nil, fun _ h => by cases h⟩⟩
theorem Qt.tup {p : Addr} {vs : List V} {ds : List D} (sub : Same S H) (im : Imm S H) (hp : H p = none) (r : RepSs K S ds vs) : Qt K b S H (upd S p (.tup vs)) (upd H p (.tup vs)) (.ref p) (.tup ds) [] where
  s := same_upd (none_sub sub hp)
  h := same_upd hp
  sub := same_upd2 sub
  im := im.upd hp sub
  n := fun a o e => by
    by_cases q : a = p
    · subst q; exact .inr hp
    · rw [upd_ne q] at e; exact .inl e
  rep := .of_pure (by
    simp only [RepS]
    exact ⟨p, vs, rfl, .inl (.inl upd_same), r.mono (same_upd (none_sub sub hp))⟩)
  fr := fun _ => ⟨.nil, fun _ h => by cases h⟩
theorem Qt.own {p : Addr} {vs : List V} {ds : List D} {G : List Addr} (sub : Same S H) (im : Imm S H) (hp : H p = none) (r : RepOs K S H ds vs G) (fr : b = true → G = []) : Qt K b S H S (upd H p (.lst vs)) (.ref p) (.own ds) (p :: G) where
  s := .refl _
  h := same_upd hp
  sub := same_updR sub (none_sub sub hp)
  im := im.updM trivial
  n := fun a o e => .inl e
  rep := by
    simp only [RepO]
    exact ⟨p, vs, G, rfl, rfl, none_sub sub hp, upd_same, r.mono (.refl _) (fun a ha o e => by rw [upd_ne (ne_of_none e hp)]; exact e) fun a ha e => e⟩
  fr := fun e => by
    rw [fr e]
    exact ⟨by simp, fun a ha => by simp at ha; subst ha; exact hp⟩
theorem Po.op {b2 : Bool} {v2 : V} {d2 : D} {Fd2 : List Addr} (q : Po K b2 m F S H σ ρ S2 H2 ρ2 F2 v2 d2 Fd2) (t : Qt K b S2 H2 S' H' v d Fd) : Po K b m F S H σ ρ S' H' ρ2 F2 v d Fd :=
  q.seq (b2 := b) (m2 := false) (Po.quiet q.wd t.s t.h t.sub t.im t.n t.rep t.fr) (by simp)
theorem PoA.op {b2 : Bool} {v2 : List V} {d2 : List D} {Fd2 : List Addr} (q : PoA K b2 m F S H σ ρ S2 H2 ρ2 F2 v2 d2 Fd2) (t : Qt K b S2 H2 S' H' v d Fd) : Po K b m F S H σ ρ S' H' ρ2 F2 v d Fd := by
  have q' : Po K true m F S H σ ρ S2 H2 ρ2 F2 .non .non [] := ⟨q.step, q.wd, by simp only [RepO]; exact ⟨rfl, trivial⟩, fun _ => ⟨by simpa using q.wd.nd, fun _ h => by cases h⟩, q.un⟩
  exact q'.op t
theorem Po.weak (p : Po K true m F S H σ ρ S' H' ρ' F' v d Fd) : Po K b m F S H σ ρ S' H' ρ' F' v d Fd := ⟨p.step, p.wd, p.rep, fun _ => p.fr rfl, p.un⟩
end

/-! ### names, constants -/
section
variable {C : SC}
theorem Fits.hd {X : Cx} (f : Fits C X) : True := trivial
def xV (i : Nat) : TX := fun ρ Q => ∃ d, ρ[i]? = some (some d) ∧ Q d ρ
theorem ex_var (i : Nat) {x : Str} {pos : Pos} (hN : C.N[i]? = some x := by rfl) (hv : Vis C.sc x := by first | exact Or.inl rfl | exact Or.inr (Or.inl rfl) | exact Or.inr (Or.inr rfl)) (hd : (x == ("__debug__" : Str)) = false := by decide)
    (hcd : (x == ("__classdict__" : Str)) = false := by decide) : EX C (.Name x pos) false false (xV i) := by
  refine ⟨tVar i, fun X f => pe_var (by rw [f.N]; exact hN) (by rw [f.sc]; exact hv) hd hcd, fun σ H S ρ F Q P w h k => ?_⟩
  obtain ⟨d, e, q⟩ := h
  obtain ⟨F1, Fi, F2, rfl, a, _⟩ := w.sl.at i
  obtain ⟨v, e1, r⟩ := a d e
  exact ⟨v, e1, k v d S H ρ _ Fi (.quiet w (.refl _) (.refl _) w.sub w.imm (fun _ _ e => .inl e) r fun z => by cases z) q⟩
/-- what it tells is its own, or holds nothing that is owned -/
def xP (t : TX) : TX := fun ρ Q => t ρ fun d ρ' => d.pure = true ∧ Q d ρ'
theorem ex_pure {e : Expr} {b m : Bool} {t : TX} (h : EX C e b m t) : EX C e true m (xP t) := by
  obtain ⟨te, h1, h2⟩ := h
  refine ⟨te, h1, fun σ H S ρ F Q P w hq k => h2 σ H S ρ F _ P w hq fun v d S' H' ρ' F' Fd p ⟨c, q⟩ => ?_⟩
  obtain ⟨r, rfl⟩ := p.rep.to_pure c
  exact k v d S' H' ρ' F' [] (p.put r) q
theorem EX.weak {e : Expr} {b m : Bool} {t : TX} (h : EX C e true m t) : EX C e b m t := by
  obtain ⟨te, h1, h2⟩ := h
  exact ⟨te, h1, fun σ H S ρ F Q P w hq k => h2 σ H S ρ F _ P w hq fun v d S' H' ρ' F' Fd p q => k v d S' H' ρ' F' Fd p.weak q⟩
theorem EX.may {e : Expr} {b m : Bool} {t : TX} (h : EX C e b m t) : EX C e b true t := by
  obtain ⟨te, h1, h2⟩ := h
  exact ⟨te, h1, fun σ H S ρ F Q P w hq k => h2 σ H S ρ F _ P w hq fun v d S' H' ρ' F' Fd p q => k v d S' H' ρ' F' Fd ⟨p.step, p.wd, p.rep, p.fr, fun z => by cases z⟩ q⟩
/-- a local name's value is handed on; the name holds nothing more -/
def xMv (i : Nat) : TX := fun ρ Q => ∃ d, ρ[i]? = some (some d) ∧ Q d (ρ.set i none)
theorem set_same {α : Type} {l : List α} {i : Nat} {x : α} (h : l[i]? = some x) : l.set i x = l := by
  apply List.ext_getElem?
  intro j
  by_cases e : i = j
  · subst e
    have hi : i < l.length := (List.getElem?_eq_some_iff.mp h).1
    rw [List.getElem?_set_self hi, h]
  · rw [List.getElem?_set_ne e]
theorem nodup_mid {α : Type} {A B C : List α} (h : (A ++ (B ++ C)).Nodup) : ((A ++ C) ++ B).Nodup := by
  rw [List.nodup_append] at h ⊢
  obtain ⟨h1, h2, h3⟩ := h
  rw [List.nodup_append] at h2
  obtain ⟨h4, h5, h6⟩ := h2
  refine ⟨List.nodup_append.mpr ⟨h1, h5, fun a ha b hb => h3 a ha b (by simp [hb])⟩, h4, fun a ha b hb => ?_⟩
  rcases List.mem_append.mp ha with ha | ha
  · exact h3 a ha b (by simp [hb])
  · exact fun e => h6 b hb a ha e.symm
theorem ex_move (i : Nat) {x : Str} {pos : Pos} (hN : C.N[i]? = some x := by rfl) (hv : Vis C.sc x := by first | exact Or.inl rfl | exact Or.inr (Or.inl rfl) | exact Or.inr (Or.inr rfl)) (hd : (x == ("__debug__" : Str)) = false := by decide)
    (hcd : (x == ("__classdict__" : Str)) = false := by decide) : EX C (.Name x pos) true true (xMv i) := by
  refine ⟨tVar i, fun X f => pe_var (by rw [f.N]; exact hN) (by rw [f.sc]; exact hv) hd hcd, fun σ H S ρ F Q P w h k => ?_⟩
  obtain ⟨d, e, q⟩ := h
  obtain ⟨F1, Fi, F2, rfl, a, c⟩ := w.sl.at i
  obtain ⟨v, e1, r⟩ := a d e
  refine ⟨v, e1, k v d S H _ (F1 ++ F2) Fi ⟨?_, ?_, r, fun _ => ⟨nodup_mid w.nd, fun a ha => .inl (by simp [ha])⟩, fun z => by cases z⟩ q⟩
  · exact Step.refl.less fun x hx => by rcases List.mem_append.mp hx with h | h <;> simp [h]
  · have c1 := (c S H (some v) (.refl _) (fun _ _ _ e => e) fun _ _ e => e).1
    rw [set_same e1] at c1
    exact ⟨w.sub, w.imm, c1, (List.nodup_append.mp (nodup_mid w.nd)).1⟩
def xC (d : D) : TX := fun ρ Q => Q d ρ
theorem ex_int {i j pos} : EX C (.Constant (.int i) j pos) true false (xC (.int i)) :=
  ⟨_, fun X f => pe_int, fun σ H S ρ F Q P w h k => k _ _ _ _ _ _ _ (.val w (by simp only [RepS])) h⟩
theorem ex_bl {i j pos} : EX C (.Constant (.bool i) j pos) true false (xC (.bl i)) :=
  ⟨_, fun X f => pe_bl, fun σ H S ρ F Q P w h k => k _ _ _ _ _ _ _ (.val w (by simp only [RepS])) h⟩
theorem ex_non {j pos} : EX C (.Constant .none j pos) true false (xC .non) :=
  ⟨_, fun X f => pe_non, fun σ H S ρ F Q P w h k => k _ _ _ _ _ _ _ (.val w (by simp only [RepS])) h⟩
theorem ex_str {i j pos} : EX C (.Constant (.str i) j pos) true false (xC (.str i)) :=
  ⟨_, fun X f => pe_str, fun σ H S ρ F Q P w h k => k _ _ _ _ _ _ _ (.val w (by simp only [RepS])) h⟩

/-! ### operators -/
def OpS (K : PySem.W.Frag) (r : R2) (b : Bool) (f : D → D → Option D) : Prop :=
  ∀ (x y : V) (dx dy : D) (Fx Fy : List Addr) (S H : Hp) (z : D) (P : VK), Same S H → Imm S H → RepO K S H dx x Fx → RepO K S H dy y Fy → f dx dy = some z →
    (∀ S' H' v Fd, Qt K b S H S' H' v z Fd → P v H') → r x y H P
def BOp (C : SC) (op : Operator) (b : Bool) (f : D → D → Option D) : Prop := ∃ r : R2, (∀ X, Fits C X → OpR X (binaryOp op) r) ∧ OpS C.K r b f
def COp (C : SC) (op : CmpOp) (b : Bool) (f : D → D → Option D) : Prop := ∃ r : R2, (∀ X, Fits C X → OpR X (compareOp op) r) ∧ OpS C.K r b f
def xBin (f : D → D → Option D) (ta tb : TX) : TX := fun ρ Q => ta ρ fun x ρ1 => tb ρ1 fun y ρ2 => ∃ z, f x y = some z ∧ Q z ρ2
theorem op2_sound {r : R2} {b : Bool} {f : D → D → Option D} (ho : OpS C.K r b f) {a e : Expr} {b1 b2 m1 m2 : Bool} {ta tb : TX} {tea teb : TE}
    (ha : ∀ (σ : St) (H S : Hp) (ρ : En) (F : List Addr) (Q : D → En → Prop) (P : VK), Wd C.K S H σ ρ F → ta ρ Q → (∀ v d S' H' ρ' F' Fd, Po C.K b1 m1 F S H σ ρ S' H' ρ' F' v d Fd → Q d ρ' → P v H') → tea σ H P)
    (hb : ∀ (σ : St) (H S : Hp) (ρ : En) (F : List Addr) (Q : D → En → Prop) (P : VK), Wd C.K S H σ ρ F → tb ρ Q → (∀ v d S' H' ρ' F' Fd, Po C.K b2 m2 F S H σ ρ S' H' ρ' F' v d Fd → Q d ρ' → P v H') → teb σ H P)
    (hs : (b1 || !m2) = true) {σ : St} {H S : Hp} {ρ : En} {F : List Addr} {Q : D → En → Prop} {P : VK} (w : Wd C.K S H σ ρ F) (h : xBin f ta tb ρ Q)
    (k : ∀ v d S' H' ρ' F' Fd, Po C.K b (m1 || m2) F S H σ ρ S' H' ρ' F' v d Fd → Q d ρ' → P v H') : tOp r tea teb σ H P := by
  refine ha σ H S ρ F _ _ w h fun v d S1 H1 ρ1 F1 Fd1 p1 q1 => ?_
  refine hb σ H1 S1 ρ1 F1 _ _ p1.wd q1 fun u e S2 H2 ρ2 F2 Fd2 p2 ⟨z, hz, q2⟩ => ?_
  have r1 := p1.first p2 (.inl hs)
  exact ho v u d e _ _ S2 H2 z P p2.wd.sub p2.wd.imm r1 p2.rep hz fun S' H' v' Fd t => k v' z S' H' ρ2 F2 Fd ((p1.seq p2 rfl).op t) q2
theorem ex_bin {a e : Expr} {op : Operator} {b b1 b2 m1 m2 : Bool} {f : D → D → Option D} {ta tb : TX} {pos : Pos} (ho : BOp C op b f) (ha : EX C a b1 m1 ta) (hb : EX C e b2 m2 tb) (hs : (b1 || !m2) = true := by rfl) :
    EX C (.BinOp a op e pos) b (m1 || m2) (xBin f ta tb) := by
  obtain ⟨r, o1, o2⟩ := ho
  obtain ⟨tea, a1, a2⟩ := ha
  obtain ⟨teb, c1, c2⟩ := hb
  exact ⟨tOp r tea teb, fun X fX => pe_op (o1 X fX) (a1 X fX) (c1 X fX), fun σ H S ρ F Q P w h k => op2_sound (a := a) (e := e) o2 a2 c2 hs w h k⟩
theorem ex_cmp {a e : Expr} {op : CmpOp} {b b1 b2 m1 m2 : Bool} {f : D → D → Option D} {ta tb : TX} {pos : Pos} (ho : COp C op b f) (ha : EX C a b1 m1 ta) (hb : EX C e b2 m2 tb) (hs : (b1 || !m2) = true := by rfl) (hm : behindInMarks op e = false := by first | rfl | exact nomark _) :
    EX C (.Compare a [op] [e] pos) b (m1 || m2) (xBin f ta tb) := by
  obtain ⟨r, o1, o2⟩ := ho
  obtain ⟨tea, a1, a2⟩ := ha
  obtain ⟨teb, c1, c2⟩ := hb
  exact ⟨tOp r tea teb, fun X fX => pe_cmpR (o1 X fX) (a1 X fX) (c1 X fX) hm, fun σ H S ρ F Q P w h k => op2_sound (a := a) (e := e) o2 a2 c2 hs w h k⟩
theorem RepO.int_inv {K : PySem.W.Frag} {S H : Hp} {i : Int} {v : V} {F : List Addr} (h : RepO K S H (.int i) v F) : v = .int i := by
  simp only [RepO, RepS] at h; exact h.1
theorem RepO.bl_inv {K : PySem.W.Frag} {S H : Hp} {i : Bool} {v : V} {F : List Addr} (h : RepO K S H (.bl i) v F) : v = .bl i := by
  simp only [RepO, RepS] at h; exact h.1
theorem RepO.non_inv {K : PySem.W.Frag} {S H : Hp} {v : V} {F : List Addr} (h : RepO K S H .non v F) : v = .non := by
  simp only [RepO, RepS] at h; exact h.1
/-- two ints to a plain value -/
def fI (f : Int → Int → Option D) : D → D → Option D
  | .int i, .int j => f i j
  | _, _ => none
theorem fI_inv {f : Int → Int → Option D} {x y z : D} (h : fI f x y = some z) : ∃ i j, x = .int i ∧ y = .int j ∧ f i j = some z := by
  cases x <;> cases y <;> simp only [fI] at h <;> first | exact ⟨_, _, rfl, rfl, h⟩ | cases h
def OfInt (g : Int → Int → V) (f : Int → Int → Option D) : Prop := ∀ i j z, f i j = some z → (∃ n, z = .int n ∧ g i j = .int n) ∨ ∃ c, z = .bl c ∧ g i j = .bl c
theorem ops_int {K : PySem.W.Frag} {c : Int → Int → Prop} {g : Int → Int → V} {f : Int → Int → Option D} {b : Bool} (h : OfInt g f) (hc : ∀ i j z, f i j = some z → c i j) : OpS K (rI c g) b (fI f) := by
  intro x y dx dy Fx Fy S H z P sub im rx ry hz k
  obtain ⟨i, j, rfl, rfl, e⟩ := fI_inv hz
  refine ⟨i, j, rx.int_inv, ry.int_inv, hc i j z e, ?_⟩
  rcases h i j z e with ⟨n, rfl, e2⟩ | ⟨n, rfl, e2⟩ <;> (rw [e2]; exact k S H _ [] (.val sub im (by simp only [RepS])))
theorem ops_int0 {K : PySem.W.Frag} {g : Int → Int → V} {f : Int → Int → Option D} {b : Bool} (h : OfInt g f) : OpS K (rI0 g) b (fI f) := by
  intro x y dx dy Fx Fy S H z P sub im rx ry hz k
  obtain ⟨i, j, rfl, rfl, e⟩ := fI_inv hz
  refine ⟨i, j, rx.int_inv, ry.int_inv, ?_⟩
  rcases h i j z e with ⟨n, rfl, e2⟩ | ⟨n, rfl, e2⟩ <;> (rw [e2]; exact k S H _ [] (.val sub im (by simp only [RepS])))
def fAdd := fI fun i j => some (.int (i + j))
def fSub := fI fun i j => some (.int (i - j))
def fMul := fI fun i j => if (-(2 ^ 64) < i ∧ i < 2 ^ 64) ∨ (-(2 ^ 64) < j ∧ j < 2 ^ 64) then some (.int (i * j)) else none
def fDiv := fI fun i j => if 0 < j ∧ j < 1073741824 then some (.int (i / j)) else none
def fMod := fI fun i j => if 0 < j then some (.int (i % j)) else none
def fPow := fI fun i j => if 0 ≤ j ∧ j ≤ 1000000 ∧ i.natAbs < 2 ^ 64 then some (.int (i ^ j.toNat)) else none
def fLt := fI fun i j => some (.bl (decide (i < j)))
def fLe := fI fun i j => some (.bl (decide (i ≤ j)))
def fGt := fI fun i j => some (.bl (decide (j < i)))
def fGe := fI fun i j => some (.bl (decide (j ≤ i)))
theorem bo_add : BOp C .Add true fAdd := ⟨_, fun X _ => op_add, ops_int0 fun i j z e => by cases e; exact .inl ⟨_, rfl, rfl⟩⟩
theorem bo_sub : BOp C .Sub true fSub := ⟨_, fun X _ => op_sub, ops_int0 fun i j z e => by cases e; exact .inl ⟨_, rfl, rfl⟩⟩
theorem bo_mul : BOp C .Mult true fMul := ⟨_, fun X _ => op_mul, ops_int (fun i j z e => by
  split at e
  · cases e; exact .inl ⟨_, rfl, rfl⟩
  · cases e) fun i j z e => by
  split at e
  · assumption
  · cases e⟩
theorem bo_div : BOp C .FloorDiv true fDiv := ⟨_, fun X _ => op_fdiv, ops_int (fun i j z e => by
  split at e
  · cases e; exact .inl ⟨_, rfl, rfl⟩
  · cases e) fun i j z e => by
  split at e
  · assumption
  · cases e⟩
theorem bo_mod : BOp C .Mod true fMod := ⟨_, fun X _ => op_mod, ops_int (fun i j z e => by
  split at e
  · cases e; exact .inl ⟨_, rfl, rfl⟩
  · cases e) fun i j z e => by
  split at e
  · assumption
  · cases e⟩
theorem bo_pow : BOp C .Pow true fPow := ⟨_, fun X _ => op_pow, ops_int (fun i j z e => by
  split at e
  · cases e; exact .inl ⟨_, rfl, rfl⟩
  · cases e) fun i j z e => by
  split at e
  · assumption
  · cases e⟩
theorem co_lt : COp C .Lt true fLt := ⟨_, fun X _ => op_lt, ops_int0 fun i j z e => by cases e; exact .inr ⟨_, rfl, rfl⟩⟩
theorem co_le : COp C .LtE true fLe := ⟨_, fun X _ => op_le, ops_int0 fun i j z e => by cases e; exact .inr ⟨_, rfl, rfl⟩⟩
theorem co_gt : COp C .Gt true fGt := ⟨_, fun X _ => op_gt, ops_int0 fun i j z e => by cases e; exact .inr ⟨_, rfl, rfl⟩⟩
theorem co_ge : COp C .GtE true fGe := ⟨_, fun X _ => op_ge, ops_int0 fun i j z e => by cases e; exact .inr ⟨_, rfl, rfl⟩⟩
/-- == and != of ints -/
def fEqI := fI fun i j => some (.bl (decide (i = j)))
def fNeI := fI fun i j => some (.bl (!decide (i = j)))
theorem co_eqI : COp C .Eq true fEqI := ⟨_, fun X _ => op_eq, by
  intro x y dx dy Fx Fy S H z P sub im rx ry hz k
  obtain ⟨i, j, rfl, rfl, e⟩ := fI_inv hz
  cases e
  obtain rfl := rx.int_inv
  obtain rfl := ry.int_inv
  refine ⟨rfl, ?_⟩
  have e : decide (V.int i = V.int j) = decide (i = j) := by
    by_cases q : i = j
    · subst q; simp
    · rw [decide_eq_false q, decide_eq_false fun z => q (V.int.inj z)]
  rw [e]
  exact k S H _ [] (.val sub im (by simp only [RepS]))⟩
theorem co_neI : COp C .NotEq true fNeI := ⟨_, fun X _ => op_ne, by
  intro x y dx dy Fx Fy S H z P sub im rx ry hz k
  obtain ⟨i, j, rfl, rfl, e⟩ := fI_inv hz
  cases e
  obtain rfl := rx.int_inv
  obtain rfl := ry.int_inv
  refine ⟨rfl, ?_⟩
  have e : decide (V.int i = V.int j) = decide (i = j) := by
    by_cases q : i = j
    · subst q; simp
    · rw [decide_eq_false q, decide_eq_false fun z => q (V.int.inj z)]
  rw [e]
  exact k S H _ [] (.val sub im (by simp only [RepS]))⟩
/-- is None, is not None -/
def D.isN : D → Bool
  | .non => true
  | _ => false
def fIsN : D → D → Option D := fun x y => match x, y with
  | .opq _, _ => none
  | x, .non => some (.bl x.isN)
  | _, _ => none
def fNotN : D → D → Option D := fun x y => match x, y with
  | .opq _, _ => none
  | x, .non => some (.bl (!x.isN))
  | _, _ => none
theorem isN_rep {K : PySem.W.Frag} {S H : Hp} {d : D} {v : V} {F : List Addr} (h : RepO K S H d v F) (ho : ∀ u, d ≠ .opq u) : decide (v = .non) = d.isN := by
  cases d with
  | non => simp only [RepO, RepS] at h; rw [h.1]; rfl
  | bl b => simp only [RepO, RepS] at h; rw [h.1]; rfl
  | int b => simp only [RepO, RepS] at h; rw [h.1]; rfl
  | str b => simp only [RepO, RepS] at h; rw [h.1]; rfl
  | opq b => exact absurd rfl (ho b)
  | tup l => simp only [RepO, RepS] at h; obtain ⟨⟨a, vs, rfl, _⟩, _⟩ := h; rfl
  | lst l => simp only [RepO, RepS] at h; obtain ⟨⟨a, vs, rfl, _⟩, _⟩ := h; rfl
  | own l => simp only [RepO] at h; obtain ⟨a, vs, G, rfl, _⟩ := h; rfl
theorem fIsN_inv {x y z : D} (h : fIsN x y = some z) : y = .non ∧ z = .bl x.isN ∧ ∀ u, x ≠ .opq u := by
  cases x <;> cases y <;> simp [fIsN] at h <;> (subst h; exact ⟨rfl, rfl, fun u e => by cases e⟩)
theorem fNotN_inv {x y z : D} (h : fNotN x y = some z) : y = .non ∧ z = .bl (!x.isN) ∧ ∀ u, x ≠ .opq u := by
  cases x <;> cases y <;> simp [fNotN] at h <;> (subst h; exact ⟨rfl, rfl, fun u e => by cases e⟩)
theorem co_isN : COp C .Is true fIsN := ⟨_, fun X _ => op_isN, by
  intro x y dx dy Fx Fy S H z P sub im rx ry hz k
  obtain ⟨rfl, rfl, hn⟩ := fIsN_inv hz
  refine ⟨ry.non_inv, ?_⟩
  rw [isN_rep rx hn]
  exact k S H _ [] (.val sub im (by simp only [RepS]))⟩
theorem co_notN : COp C .IsNot true fNotN := ⟨_, fun X _ => op_notN, by
  intro x y dx dy Fx Fy S H z P sub im rx ry hz k
  obtain ⟨rfl, rfl, hn⟩ := fNotN_inv hz
  refine ⟨ry.non_inv, ?_⟩
  rw [isN_rep rx hn]
  exact k S H _ [] (.val sub im (by simp only [RepS]))⟩
end
end VL

set_option Elab.async false
set_option linter.all false
set_option maxRecDepth 100000
set_option maxHeartbeats 1000000
/-! VE: arguments, displays, places, tests, calls. -/
namespace VL
open PySem L2
section
variable {C : SC}
/-! ### arguments -/
def xsN : TXs := fun ρ Q => Q [] ρ
def xsC (t : TX) (u : TXs) : TXs := fun ρ Q => t ρ fun d ρ1 => u ρ1 fun ds ρ2 => Q (d :: ds) ρ2
theorem ea_nil : EA C [] true false xsN :=
  ⟨tNil, fun X f => pa_nil, fun σ H S ρ F Q P w h k => k [] [] S H ρ F [] ⟨.refl, w, by simp only [RepOs]; exact ⟨trivial, trivial⟩, fun _ => ⟨by simpa using w.nd, fun _ h => by cases h⟩, fun _ => ⟨rfl, rfl, .refl _, fun _ _ e => .inl e⟩⟩ h⟩
theorem ea_cons {e : Expr} {es : List Expr} {b1 b2 m1 m2 : Bool} {t : TX} {u : TXs} (he : EX C e b1 m1 t) (hr : EA C es b2 m2 u) (hs : (b1 || !m2) = true := by rfl)
    (hst : ∀ env, starEach (e :: es) env = (false, eval e env) :: starEach es env := by intro _; rfl) : EA C (e :: es) (b1 && b2) (m1 || m2) (xsC t u) := by
  obtain ⟨te, a1, a2⟩ := he
  obtain ⟨tr, c1, c2⟩ := hr
  refine ⟨tCons te tr, fun X f => pa_cons (a1 X f) (c1 X f) (hst _), fun σ H S ρ F Q P w h k => ?_⟩
  refine a2 σ H S ρ F _ _ w h fun v d S1 H1 ρ1 F1 Fd1 p1 q1 => ?_
  refine c2 σ H1 S1 ρ1 F1 _ _ p1.wd q1 fun vs ds S2 H2 ρ2 F2 Fd2 p2 q2 => ?_
  have p2' : Po C.K true m2 F1 S1 H1 σ ρ1 S2 H2 ρ2 F2 .non .non [] := ⟨p2.step, p2.wd, by simp only [RepO, RepS]; exact ⟨trivial, trivial⟩, fun _ => ⟨by simpa using p2.wd.nd, fun _ h => by cases h⟩, p2.un⟩
  have r1 := p1.first p2' (.inl hs)
  refine k (v :: vs) (d :: ds) S2 H2 ρ2 F2 (Fd1 ++ Fd2) ⟨p1.step.trans p2.step, p2.wd, ?_, fun e => ?_, fun e => ?_⟩ q2
  · simp only [RepOs]
    exact ⟨v, vs, Fd1, Fd2, rfl, rfl, r1, p2.rep⟩
  · simp only [Bool.and_eq_true] at e
    obtain ⟨n1, f1⟩ := p1.fr e.1
    obtain ⟨n2, f2⟩ := p2.fr e.2
    have there := p1.rep.there
    have d1 : ∀ a ∈ Fd1, a ∉ F1 := fun a ha hb => (List.nodup_append.mp n1).2.2 a hb a ha rfl
    have d2 : ∀ a ∈ Fd1, a ∉ F2 := fun a ha hb => by
      rcases p2.step.fp a hb with z | z
      · exact d1 a ha z
      · obtain ⟨_, _, q⟩ := there a ha
        rw [z] at q; cases q
    have d3 : ∀ a ∈ Fd1, a ∉ Fd2 := fun a ha hb => by
      rcases f2 a hb with z | z
      · exact d1 a ha z
      · obtain ⟨_, _, q⟩ := there a ha
        rw [z] at q; cases q
    obtain ⟨n3, n4, n5⟩ := List.nodup_append.mp n2
    refine ⟨List.nodup_append.mpr ⟨n3, List.nodup_append.mpr ⟨(List.nodup_append.mp n1).2.1, n4, fun a ha c hc e => d3 a ha (e ▸ hc)⟩, fun a ha c hc e => ?_⟩, fun a ha => ?_⟩
    · rcases List.mem_append.mp hc with hc | hc
      · exact d2 c hc (e ▸ ha)
      · exact n5 a ha c hc e
    · rcases List.mem_append.mp ha with ha | ha
      · exact f1 a ha
      · rcases f2 a ha with z | z
        · exact p1.step.fp a z
        · by_cases c : a ∈ F
          · exact .inl c
          · refine .inr ?_
            cases r : H a with
            | none => rfl
            | some o => rw [p1.step.h a o r c] at z; cases z
  · rw [Bool.or_eq_false_iff] at e
    obtain ⟨x1, x2, x3, x4⟩ := p1.un e.1
    obtain ⟨y1, y2, y3, y4⟩ := p2.un e.2
    refine ⟨y1.trans x1, y2.trans x2, x3.trans y3, fun a o z => ?_⟩
    rcases y4 a o z with w | w
    · exact x4 a o w
    · exact .inr (x3.free w)

/-! ### displays -/
def xTup (t : TXs) : TX := fun ρ Q => t ρ fun ds ρ' => pureL ds = true ∧ ds.length ≤ 1000 ∧ Q (.tup ds) ρ'
theorem ex_tup {es : List Expr} {b m : Bool} {t : TXs} {pos : Pos} {c} (h : EA C es b m t) : EX C (.Tuple es c pos) true m (xTup t) := by
  obtain ⟨ta, a1, a2⟩ := h
  refine ⟨tTup ta, fun X f => pe_tup (a1 X f), fun σ H S ρ F Q P w hq k => ?_⟩
  refine a2 σ H S ρ F _ _ w hq fun vs ds S1 H1 ρ1 F1 Fd1 p1 ⟨c1, c2, q1⟩ => ?_
  obtain ⟨r, rfl⟩ := p1.rep.to_pure c1
  refine ⟨by rw [r.length, sizeLine_eq]; omega, fun p hp => k _ _ _ _ _ _ _ (p1.op (Qt.tup p1.wd.sub p1.wd.imm hp r)) q1⟩
def xLst (t : TXs) : TX := fun ρ Q => t ρ fun ds ρ' => ds.length ≤ 1000 ∧ Q (.own ds) ρ'
/-- a new list that holds what was told -/
theorem Pos.own {K : PySem.W.Frag} {m : Bool} {S S2 H H2 : Hp} {σ : St} {ρ ρ2 : En} {F F2 Fd : List Addr} {vs : List V} {ds : List D} {p : Addr} (q : PoA K true m F S H σ ρ S2 H2 ρ2 F2 vs ds Fd) (hp : H2 p = none) :
    Po K true m F S H σ ρ S2 (upd H2 p (.lst vs)) ρ2 F2 (.ref p) (.own ds) (p :: Fd) := by
  have t : Qt K false S2 H2 S2 (upd H2 p (.lst vs)) (.ref p) (.own ds) (p :: Fd) := .own q.wd.sub q.wd.imm hp q.rep fun e => by cases e
  have z := q.op t
  obtain ⟨n1, n2⟩ := q.fr rfl
  have hpF : p ∉ F2 := fun hb => by
    obtain ⟨_, _, e⟩ := q.wd.sl.there p hb
    rw [hp] at e; cases e
  have hpD : p ∉ Fd := fun hb => by
    obtain ⟨_, _, e⟩ := q.rep.there p hb
    rw [hp] at e; cases e
  obtain ⟨n3, n4, n5⟩ := List.nodup_append.mp n1
  refine ⟨z.step, z.wd, z.rep, fun _ => ⟨List.nodup_append.mpr ⟨n3, List.nodup_cons.mpr ⟨hpD, n4⟩, fun a ha c hc e => ?_⟩, fun a ha => ?_⟩, z.un⟩
  · rcases List.mem_cons.mp hc with rfl | hc
    · exact hpF (e ▸ ha)
    · exact n5 a ha c hc e
  · rcases List.mem_cons.mp ha with rfl | ha
    · by_cases c : a ∈ F
      · exact .inl c
      · refine .inr ?_
        cases r : H a with
        | none => rfl
        | some o => rw [q.step.h a o r c] at hp; cases hp
    · exact n2 a ha
theorem ex_lst {es : List Expr} {m : Bool} {t : TXs} {pos : Pos} (h : EA C es true m t) : EX C (.List es pos) true m (xLst t) := by
  obtain ⟨ta, a1, a2⟩ := h
  refine ⟨tLst ta, fun X f => pe_lst (a1 X f), fun σ H S ρ F Q P w hq k => ?_⟩
  refine a2 σ H S ρ F _ _ w hq fun vs ds S1 H1 ρ1 F1 Fd1 p1 ⟨c2, q1⟩ => ?_
  refine ⟨by rw [p1.rep.length, sizeLine_eq]; omega, fun p hp => k _ _ _ _ _ _ _ (Pos.own p1 hp) q1⟩

/-! ### places of a list, a tuple -/
def dIx : D → D → Option D
  | .tup l, .int i => atI l i
  | .lst l, .int i => atI l i
  | .own l, .int i => atI l i
  | _, _ => none
theorem atI_inv {α : Type} {xs : List α} {i : Int} {v : α} (h : atI xs i = some v) : ∃ j, ixN xs.length i = some j ∧ xs[j]? = some v := by
  unfold atI at h
  cases e : ixN xs.length i with
  | none => rw [e] at h; cases h
  | some j => rw [e] at h; exact ⟨j, rfl, h⟩
theorem atI_of {α : Type} {xs : List α} {n : Nat} {i : Int} {j : Nat} {v : α} (hn : xs.length = n) (h1 : ixN n i = some j) (h2 : xs[j]? = some v) : atI xs i = some v := by
  unfold atI; rw [hn, h1]; exact h2
theorem RepOs.get {K : PySem.W.Frag} {S H : Hp} : ∀ {l : List D} {vs : List V} {F : List Addr} {i : Nat} {d : D}, RepOs K S H l vs F → l[i]? = some d → ∃ v Fj, vs[i]? = some v ∧ RepO K S H d v Fj ∧ ∀ a ∈ Fj, a ∈ F
  | [], vs, F, i, d, h, e => by simp at e
  | d' :: r, vs, F, 0, d, h, e => by
    simp only [RepOs] at h
    obtain ⟨v, ws, F1, F2, rfl, rfl, e2, e3⟩ := h
    simp at e; subst e
    exact ⟨v, F1, rfl, e2, fun a ha => by simp [ha]⟩
  | d' :: r, vs, F, i + 1, d, h, e => by
    simp only [RepOs] at h
    obtain ⟨v, ws, F1, F2, rfl, rfl, e2, e3⟩ := h
    obtain ⟨u, Fj, a, b, c⟩ := RepOs.get (i := i) e3 (by simpa using e)
    exact ⟨u, Fj, by simpa using a, b, fun x hx => by simp [c x hx]⟩
theorem ix_sound {K : PySem.W.Frag} {S H : Hp} {x y z : D} {vx vy : V} {Fx Fy : List Addr} {Q : VK} (sub : Same S H) (rx : RepO K S H x vx Fx) (ry : RepO K S H y vy Fy) (h : dIx x y = some z)
    (k : ∀ v Fz, RepO K S H z v Fz → (∀ a ∈ Fz, a ∈ Fx) → Q v H) : rIx K vx vy H Q := by
  cases x with
  | tup l =>
    cases y with
    | int i =>
      simp only [dIx] at h
      obtain ⟨j, h1, h2⟩ := atI_inv h
      simp only [RepO, RepS] at rx
      obtain ⟨⟨a, vs, rfl, e1, e2⟩, rfl⟩ := rx
      obtain ⟨v, g1, g2⟩ := e2.get h2
      exact .inr (.inl ⟨a, vs, i, v, rfl, ry.int_inv, SqT.mono sub e1, atI_of e2.length h1 g1, k v [] (.of_pure g2) fun _ h => h⟩)
    | _ => simp [dIx] at h
  | lst l =>
    cases y with
    | int i =>
      simp only [dIx] at h
      obtain ⟨j, h1, h2⟩ := atI_inv h
      simp only [RepO, RepS] at rx
      obtain ⟨⟨a, vs, rfl, e1, e2⟩, rfl⟩ := rx
      obtain ⟨v, g1, g2⟩ := e2.get h2
      exact .inl ⟨a, vs, i, v, rfl, ry.int_inv, sub.seq e1, atI_of e2.length h1 g1, k v [] (.of_pure g2) fun _ h => h⟩
    | _ => simp [dIx] at h
  | own l =>
    cases y with
    | int i =>
      simp only [dIx] at h
      obtain ⟨j, h1, h2⟩ := atI_inv h
      simp only [RepO] at rx
      obtain ⟨a, vs, G, rfl, rfl, e0, e1, e2⟩ := rx
      obtain ⟨v, Fj, g1, g2, g3⟩ := e2.get h2
      exact .inl ⟨a, vs, i, v, rfl, ry.int_inv, .inl (.inl e1), atI_of e2.length h1 g1, k v Fj g2 fun x hx => by simp [g3 x hx]⟩
    | _ => simp [dIx] at h
  | _ => simp [dIx] at h
theorem ix_any {X : Cx} : IxR X (rIx X.K) := by
  intro value slice pins s σ H x y v u Q I rx ry h hs
  rcases h with h | h | h
  · exact ix_list value slice pins s σ H x y v u Q I rx ry h hs
  · exact ix_tup value slice pins s σ H x y v u Q I rx ry h hs
  · exact ix_str value slice pins s σ H x y v u Q I rx ry h hs
/-- a[i]: what is told may be owned by another -/
theorem ex_ix {a e : Expr} {b1 b2 m1 m2 : Bool} {ta tb : TX} {pos : Pos} (ha : EX C a b1 m1 ta) (hb : EX C e b2 m2 tb) (hs : (b1 || !m2) = true := by rfl) (hp : PlainIx e := by exact fun _ _ => rfl) :
    EX C (.Subscript a e pos) false (m1 || m2) (xBin dIx ta tb) := by
  obtain ⟨tea, a1, a2⟩ := ha
  obtain ⟨teb, c1, c2⟩ := hb
  refine ⟨tOp (rIx C.K) tea teb, fun X f => ?_, fun σ H S ρ F Q P w h k => ?_⟩
  · have := pe_ix (pos := pos) (ix_any (X := X)) (a1 X f) (c1 X f) hp
    rwa [f.K] at this
  · refine a2 σ H S ρ F _ _ w h fun v d S1 H1 ρ1 F1 Fd1 p1 q1 => ?_
    refine c2 σ H1 S1 ρ1 F1 _ _ p1.wd q1 fun u e S2 H2 ρ2 F2 Fd2 p2 ⟨z, hz, q2⟩ => ?_
    have r1 := p1.first p2 (.inl hs)
    refine ix_sound p2.wd.sub r1 p2.rep hz fun v' Fz r _ => k v' z S2 H2 ρ2 F2 Fz ?_ q2
    have q := p1.seq p2 (m' := m1 || m2) rfl
    exact ⟨q.step, q.wd, r, (fun e => by cases e), q.un⟩
/-- x[e], x a local name: read behind e -/
def xIxV (i : Nat) (tb : TX) : TX := fun ρ Q => (∃ d, ρ[i]? = some (some d)) ∧ tb ρ fun y ρ2 => ∃ x z, ρ2[i]? = some (some x) ∧ dIx x y = some z ∧ Q z ρ2
theorem ex_ixV (i : Nat) {x : Str} {p : Pos} {e : Expr} {b2 m2 : Bool} {tb : TX} {pos : Pos} (hb : EX C e b2 m2 tb) (hN : C.N[i]? = some x := by rfl) (hv : Vis C.sc x := by first | exact Or.inl rfl | exact Or.inr (Or.inl rfl) | exact Or.inr (Or.inr rfl))
    (hd : (x == ("__debug__" : Str)) = false := by decide) (hcd : (x == ("__classdict__" : Str)) = false := by decide) (hp : PlainIx e := by exact fun _ _ => rfl) :
    EX C (.Subscript (.Name x p) e pos) false m2 (xIxV i tb) := by
  obtain ⟨teb, c1, c2⟩ := hb
  refine ⟨fun σ H Q => ∃ v, σ[i]? = some (some v) ∧ teb σ H fun y H2 => rIx C.K v y H2 Q, fun X f => ?_, fun σ H S ρ F Q P w h k => ?_⟩
  · have := pe_ix (pos := pos) (ix_any (X := X)) (pe_var (X := X) (pos := p) (by rw [f.N]; exact hN) (by rw [f.sc]; exact hv) hd hcd) (c1 X f) hp
    rw [f.K] at this
    exact this
  · obtain ⟨⟨d0, h0⟩, h⟩ := h
    obtain ⟨F1, Fi, F3, hF, a, _⟩ := w.sl.at i
    obtain ⟨v, hv, _⟩ := a d0 h0
    refine ⟨v, hv, c2 σ H S ρ F _ _ w h fun u d S2 H2 ρ2 F2 Fd2 p2 ⟨x, z, e1, hz, q2⟩ => ?_⟩
    obtain ⟨F1, Fi, F3, hF, a, _⟩ := p2.wd.sl.at i
    obtain ⟨v', e3, r⟩ := a x e1
    obtain rfl : v' = v := by rw [hv] at e3; exact (Option.some.inj (Option.some.inj e3)).symm
    refine ix_sound p2.wd.sub r p2.rep hz fun v2 Fz r2 _ => k v2 z S2 H2 ρ2 F2 Fz ⟨p2.step, p2.wd, r2, (fun e => by cases e), p2.un⟩ q2

/-! ### tests -/
def bV (t : TX) : TB := fun ρ Q => t ρ fun d ρ' => ∃ k, d = .bl k ∧ Q k ρ'
theorem Po.tst {K : PySem.W.Frag} {b m : Bool} {S S' H H' : Hp} {σ : St} {ρ ρ' : En} {F F' Fd : List Addr} {v : V} {d : D} (p : Po K b m F S H σ ρ S' H' ρ' F' v d Fd) : Po K true m F S H σ ρ S' H' ρ' F' .non .non [] :=
  p.put (by simp only [RepS])
theorem eb_val {e : Expr} {b m : Bool} {t : TX} (h : EX C e b m t) (he : ∀ env whole, isTrue e env whole = (do let v ← whole; standAt e.pos; holding [v] (truthy v)) := by intro _ _; rfl) : EB C e m (bV t) := by
  obtain ⟨te, a1, a2⟩ := h
  refine ⟨tB te, fun X f => pt_val (a1 X f) (he _), fun σ H S ρ F Q P w hq k => ?_⟩
  refine a2 σ H S ρ F _ _ w hq fun v d S1 H1 ρ1 F1 Fd1 p1 ⟨c, e1, q1⟩ => ?_
  subst e1
  exact ⟨c, p1.rep.bl_inv, k c S1 H1 ρ1 F1 p1.tst q1⟩
def bNot (t : TB) : TB := fun ρ Q => t ρ fun k ρ' => Q (!k) ρ'
theorem eb_not {e : Expr} {m : Bool} {t : TB} {pos : Pos} (h : EB C e m t) : EB C (.UnaryOp .Not e pos) m (bNot t) := by
  obtain ⟨te, a1, a2⟩ := h
  exact ⟨tNot te, fun X f => pt_not (a1 X f), fun σ H S ρ F Q P w hq k => a2 σ H S ρ F _ _ w hq fun c S1 H1 ρ1 F1 p1 q1 => k _ S1 H1 ρ1 F1 p1 q1⟩
/-- and, or: a chain -/
def EW (C : SC) (e : Expr) (m : Bool) (t : TB) : Prop :=
  ∃ te : TT, (∀ X, Fits C X → PW X e te) ∧ ∀ (σ : St) (H S : Hp) (ρ : En) (F : List Addr) (Q : Bool → En → Prop) (P : Bool → Hp → Prop), Wd C.K S H σ ρ F → t ρ Q →
    (∀ k S' H' ρ' F', Po C.K true m F S H σ ρ S' H' ρ' F' .non .non [] → Q k ρ' → P k H') → te σ H P
theorem EW.eb {e : Expr} {m : Bool} {t : TB} (h : EW C e m t) : EB C e m t := by
  obtain ⟨te, a1, a2⟩ := h
  exact ⟨te, fun X f => (a1 X f).pt, a2⟩
def bAnd (t u : TB) : TB := fun ρ Q => t ρ fun k ρ1 => if k = true then u ρ1 Q else Q false ρ1
def bOr (t u : TB) : TB := fun ρ Q => t ρ fun k ρ1 => if k = true then Q true ρ1 else u ρ1 Q
theorem Po.seqT {K : PySem.W.Frag} {m1 m2 : Bool} {S S1 S2 H H1 H2 : Hp} {σ : St} {ρ ρ1 ρ2 : En} {F F1 F2 : List Addr} (p : Po K true m1 F S H σ ρ S1 H1 ρ1 F1 .non .non []) (q : Po K true m2 F1 S1 H1 σ ρ1 S2 H2 ρ2 F2 .non .non []) :
    Po K true (m1 || m2) F S H σ ρ S2 H2 ρ2 F2 .non .non [] := p.seq q rfl
theorem Po.orT {K : PySem.W.Frag} {b m m1 : Bool} {S S' H H' : Hp} {σ : St} {ρ ρ' : En} {F F' Fd : List Addr} {v : V} {d : D} (p : Po K b m F S H σ ρ S' H' ρ' F' v d Fd) (h : m1 = false → m = false) : Po K b m1 F S H σ ρ S' H' ρ' F' v d Fd :=
  ⟨p.step, p.wd, p.rep, p.fr, fun e => p.un (h e)⟩
theorem ew_and1 {a : Expr} {m : Bool} {t : TB} {pos : Pos} (h : EB C a m t) : EW C (.BoolOp .And [a] pos) m t := by
  obtain ⟨te, a1, a2⟩ := h
  exact ⟨te, fun X f => pw_and1 (a1 X f), a2⟩
theorem ew_or1 {a : Expr} {m : Bool} {t : TB} {pos : Pos} (h : EB C a m t) : EW C (.BoolOp .Or [a] pos) m t := by
  obtain ⟨te, a1, a2⟩ := h
  exact ⟨te, fun X f => pw_or1 (a1 X f), a2⟩
theorem ew_and {a b : Expr} {rest : List Expr} {m1 m2 : Bool} {t u : TB} {pos : Pos} (h : EB C a m1 t) (h2 : EW C (.BoolOp .And (b :: rest) pos) m2 u) : EW C (.BoolOp .And (a :: b :: rest) pos) (m1 || m2) (bAnd t u) := by
  obtain ⟨te, a1, a2⟩ := h
  obtain ⟨tr, c1, c2⟩ := h2
  refine ⟨tAnd te tr, fun X f => pw_and (a1 X f) (c1 X f), fun σ H S ρ F Q P w hq k => ?_⟩
  refine a2 σ H S ρ F _ _ w hq fun c S1 H1 ρ1 F1 p1 q1 => ?_
  cases c with
  | true =>
    rw [if_pos rfl] at q1 ⊢
    exact c2 σ H1 S1 ρ1 F1 _ _ p1.wd q1 fun c S2 H2 ρ2 F2 p2 q2 => k c S2 H2 ρ2 F2 (p1.seqT p2) q2
  | false =>
    rw [if_neg Bool.false_ne_true] at q1 ⊢
    exact k false S1 H1 ρ1 F1 (p1.orT fun e => (Bool.or_eq_false_iff.mp e).1) q1
theorem ew_or {a b : Expr} {rest : List Expr} {m1 m2 : Bool} {t u : TB} {pos : Pos} (h : EB C a m1 t) (h2 : EW C (.BoolOp .Or (b :: rest) pos) m2 u) : EW C (.BoolOp .Or (a :: b :: rest) pos) (m1 || m2) (bOr t u) := by
  obtain ⟨te, a1, a2⟩ := h
  obtain ⟨tr, c1, c2⟩ := h2
  refine ⟨tOr te tr, fun X f => pw_or (a1 X f) (c1 X f), fun σ H S ρ F Q P w hq k => ?_⟩
  refine a2 σ H S ρ F _ _ w hq fun c S1 H1 ρ1 F1 p1 q1 => ?_
  cases c with
  | false =>
    rw [if_neg Bool.false_ne_true] at q1 ⊢
    exact c2 σ H1 S1 ρ1 F1 _ _ p1.wd q1 fun c S2 H2 ρ2 F2 p2 q2 => k c S2 H2 ρ2 F2 (p1.seqT p2) q2
  | true =>
    rw [if_pos rfl] at q1 ⊢
    exact k true S1 H1 ρ1 F1 (p1.orT fun e => (Bool.or_eq_false_iff.mp e).1) q1
def xIf (t : TB) (u v : TX) : TX := fun ρ Q => t ρ fun k ρ1 => if k = true then u ρ1 Q else v ρ1 Q
theorem ex_if {c a b : Expr} {bb m1 m2 m3 : Bool} {t : TB} {u v : TX} {pos : Pos} (hc : EB C c m1 t) (ha : EX C a bb m2 u) (hb : EX C b bb m3 v) : EX C (.IfExp c a b pos) bb (m1 || (m2 || m3)) (xIf t u v) := by
  obtain ⟨tc, a1, a2⟩ := hc
  obtain ⟨ta, c1, c2⟩ := ha
  obtain ⟨tb, d1, d2⟩ := hb
  refine ⟨tIf tc ta tb, fun X f => pe_ifExp (a1 X f) (c1 X f) (d1 X f), fun σ H S ρ F Q P w hq k => ?_⟩
  refine a2 σ H S ρ F _ _ w hq fun c S1 H1 ρ1 F1 p1 q1 => ?_
  cases c with
  | true =>
    rw [if_pos rfl] at q1 ⊢
    exact c2 σ H1 S1 ρ1 F1 _ _ p1.wd q1 fun v d S2 H2 ρ2 F2 Fd p2 q2 => k v d S2 H2 ρ2 F2 Fd ((p1.seq p2 rfl).orT (by cases m1 <;> cases m2 <;> simp)) q2
  | false =>
    rw [if_neg Bool.false_ne_true] at q1 ⊢
    exact d2 σ H1 S1 ρ1 F1 _ _ p1.wd q1 fun v d S2 H2 ρ2 F2 Fd p2 q2 => k v d S2 H2 ρ2 F2 Fd ((p1.seq p2 rfl).orT (by cases m1 <;> cases m2 <;> simp)) q2
/-- and, or, not as values: of True, False -/
def xNot (t : TX) : TX := fun ρ Q => t ρ fun d ρ' => ∃ k, d = .bl k ∧ Q (.bl (!k)) ρ'
theorem ex_not {e : Expr} {b m : Bool} {t : TX} {pos : Pos} (h : EX C e b m t) : EX C (.UnaryOp .Not e pos) true m (xNot t) := by
  obtain ⟨te, a1, a2⟩ := h
  refine ⟨tNotV te, fun X f => pe_not (a1 X f), fun σ H S ρ F Q P w hq k => a2 σ H S ρ F _ _ w hq fun v d S1 H1 ρ1 F1 Fd1 p1 ⟨c, e1, q1⟩ => ?_⟩
  subst e1
  exact ⟨c, p1.rep.bl_inv, k _ (.bl (!c)) S1 H1 ρ1 F1 [] (p1.put (by simp only [RepS])) q1⟩
theorem ex_one {op : BoolOp} {a : Expr} {b m : Bool} {t : TX} {pos : Pos} (h : EX C a b m t) : EX C (.BoolOp op [a] pos) b m t := by
  obtain ⟨te, a1, a2⟩ := h
  exact ⟨te, fun X f => pe_one (a1 X f), a2⟩
def xAnd (t u : TX) : TX := fun ρ Q => t ρ fun d ρ1 => ∃ k, d = .bl k ∧ if k = true then u ρ1 Q else Q (.bl false) ρ1
def xOr (t u : TX) : TX := fun ρ Q => t ρ fun d ρ1 => ∃ k, d = .bl k ∧ if k = true then Q (.bl true) ρ1 else u ρ1 Q
theorem ex_and {a b : Expr} {rest : List Expr} {b1 b2 m1 m2 : Bool} {t u : TX} {pos : Pos} (h : EX C a b1 m1 t) (h2 : EX C (.BoolOp .And (b :: rest) pos) b2 m2 u) : EX C (.BoolOp .And (a :: b :: rest) pos) b2 (m1 || m2) (xAnd t u) := by
  obtain ⟨te, a1, a2⟩ := h
  obtain ⟨tr, c1, c2⟩ := h2
  refine ⟨tAndV te tr, fun X f => pe_and (a1 X f) (c1 X f), fun σ H S ρ F Q P w hq k => ?_⟩
  refine a2 σ H S ρ F _ _ w hq fun v d S1 H1 ρ1 F1 Fd1 p1 ⟨c, e1, q1⟩ => ?_
  subst e1
  refine ⟨c, p1.rep.bl_inv, ?_⟩
  cases c with
  | true =>
    rw [if_pos rfl] at q1 ⊢
    exact c2 σ H1 S1 ρ1 F1 _ _ p1.wd q1 fun v d S2 H2 ρ2 F2 Fd p2 q2 => k v d S2 H2 ρ2 F2 Fd (p1.seq p2 rfl) q2
  | false =>
    rw [if_neg Bool.false_ne_true] at q1 ⊢
    exact k _ (.bl false) S1 H1 ρ1 F1 [] ((p1.put (by simp only [RepS])).orT fun e => (Bool.or_eq_false_iff.mp e).1) q1
theorem ex_or {a b : Expr} {rest : List Expr} {b1 b2 m1 m2 : Bool} {t u : TX} {pos : Pos} (h : EX C a b1 m1 t) (h2 : EX C (.BoolOp .Or (b :: rest) pos) b2 m2 u) : EX C (.BoolOp .Or (a :: b :: rest) pos) b2 (m1 || m2) (xOr t u) := by
  obtain ⟨te, a1, a2⟩ := h
  obtain ⟨tr, c1, c2⟩ := h2
  refine ⟨tOrV te tr, fun X f => pe_or (a1 X f) (c1 X f), fun σ H S ρ F Q P w hq k => ?_⟩
  refine a2 σ H S ρ F _ _ w hq fun v d S1 H1 ρ1 F1 Fd1 p1 ⟨c, e1, q1⟩ => ?_
  subst e1
  refine ⟨c, p1.rep.bl_inv, ?_⟩
  cases c with
  | false =>
    rw [if_neg Bool.false_ne_true] at q1 ⊢
    exact c2 σ H1 S1 ρ1 F1 _ _ p1.wd q1 fun v d S2 H2 ρ2 F2 Fd p2 q2 => k v d S2 H2 ρ2 F2 Fd (p1.seq p2 rfl) q2
  | true =>
    rw [if_pos rfl] at q1 ⊢
    exact k _ (.bl true) S1 H1 ρ1 F1 [] ((p1.put (by simp only [RepS])).orT fun e => (Bool.or_eq_false_iff.mp e).1) q1

/-! ### built-ins -/
def CallS (K : PySem.W.Frag) (r : List V → Hp → VK → Prop) (b : Bool) (f : List D → Option D) : Prop :=
  ∀ (vs : List V) (ds : List D) (Fs : List Addr) (S H : Hp) (z : D) (P : VK), Same S H → Imm S H → RepOs K S H ds vs Fs → f ds = some z →
    (∀ S' H' v Fd, Qt K b S H S' H' v z Fd → P v H') → r vs H P
def xCall (f : List D → Option D) (t : TXs) : TX := fun ρ Q => t ρ fun ds ρ' => ∃ z, f ds = some z ∧ Q z ρ'
theorem ex_callB {id : String} {x : Str} {e : Expr} {es : List Expr} {b bs m : Bool} {t : TXs} {f : List D → Option D} {p pos : Pos} {r : List V → Hp → VK → Prop} (hc : ∀ X, Fits C X → CallR X (.builtin id) r) (hr : CallS C.K r b f)
    (hg : C.sc.names.lookup x = some .globalImplicit) (hm : C.mg x = none) (hv : bootBuiltins x = some (.builtin id)) (ha : EA C (e :: es) bs m t) (hn : x ≠ "__name__" := by decide) (hdb : (x == ("__debug__" : Str)) = false := by decide)
    (he : ∀ env, starEach (e :: es) env = (false, eval e env) :: starEach es env := by intro _; rfl) (hpl : ∀ env, (backTo pos (starEach es env)).any (·.1) = false := by intro _; rfl) : EX C (.Call (.Name x p) (e :: es) [] pos) b m (xCall f t) := by
  obtain ⟨ta, a1, a2⟩ := ha
  refine ⟨tCB r ta, fun X f => pe_callB (hc X f) (by show X.env.scope.names.lookup x = _; rw [f.sc]; exact hg) (by rw [f.mg]; exact hm) hv (a1 X f) hn hdb (he _) (hpl _), fun σ H S ρ F Q P w hq k => ?_⟩
  refine a2 σ H S ρ F _ _ w hq fun vs ds S1 H1 ρ1 F1 Fd1 p1 ⟨z, hz, q1⟩ => ?_
  exact hr vs ds Fd1 S1 H1 z P p1.wd.sub p1.wd.imm p1.rep hz fun S' H' v Fd t => k v z S' H' ρ1 F1 Fd (p1.op t) q1
theorem ex_callTy {T : String} {x : Str} {e : Expr} {es : List Expr} {b bs m : Bool} {t : TXs} {f : List D → Option D} {p pos : Pos} {r : List V → Hp → VK → Prop} (hc : ∀ X, Fits C X → CallR X (.type T) r) (hr : CallS C.K r b f)
    (hg : C.sc.names.lookup x = some .globalImplicit) (hm : C.mg x = none) (hv : bootBuiltins x = some (.type T)) (ha : EA C (e :: es) bs m t) (hn : x ≠ "__name__" := by decide) (hdb : (x == ("__debug__" : Str)) = false := by decide)
    (he : ∀ env, starEach (e :: es) env = (false, eval e env) :: starEach es env := by intro _; rfl) (hpl : ∀ env, (backTo pos (starEach es env)).any (·.1) = false := by intro _; rfl) : EX C (.Call (.Name x p) (e :: es) [] pos) b m (xCall f t) := by
  obtain ⟨ta, a1, a2⟩ := ha
  refine ⟨tCB r ta, fun X f => pe_callTy (hc X f) (by show X.env.scope.names.lookup x = _; rw [f.sc]; exact hg) (by rw [f.mg]; exact hm) hv (a1 X f) hn hdb (he _) (hpl _), fun σ H S ρ F Q P w hq k => ?_⟩
  refine a2 σ H S ρ F _ _ w hq fun vs ds S1 H1 ρ1 F1 Fd1 p1 ⟨z, hz, q1⟩ => ?_
  exact hr vs ds Fd1 S1 H1 z P p1.wd.sub p1.wd.imm p1.rep hz fun S' H' v Fd t => k v z S' H' ρ1 F1 Fd (p1.op t) q1
theorem RepOs.one {K : PySem.W.Frag} {S H : Hp} {d : D} {vs : List V} {F : List Addr} (h : RepOs K S H [d] vs F) : ∃ v, vs = [v] ∧ RepO K S H d v F := by
  simp only [RepOs] at h
  obtain ⟨v, ws, F1, F2, rfl, rfl, e, rfl, rfl⟩ := h
  exact ⟨v, rfl, by simpa using e⟩
theorem RepOs.two {K : PySem.W.Frag} {S H : Hp} {d d2 : D} {vs : List V} {F : List Addr} (h : RepOs K S H [d, d2] vs F) : ∃ v v2 F1 F2, vs = [v, v2] ∧ RepO K S H d v F1 ∧ RepO K S H d2 v2 F2 := by
  simp only [RepOs] at h
  obtain ⟨v, ws, F1, F2, rfl, rfl, e, v2, w2, F3, F4, rfl, rfl, e2, rfl, rfl⟩ := h
  exact ⟨v, v2, F1, F3, rfl, e, e2⟩
/-- what is in a list or a tuple -/
def D.items : D → Option (List D)
  | .tup l => some l
  | .lst l => some l
  | .own l => some l
  | _ => none
theorem items_rep {K : PySem.W.Frag} {S H : Hp} {d : D} {l : List D} {v : V} {F : List Addr} (sub : Same S H) (e : d.items = some l) (h : RepO K S H d v F) :
    ∃ a vs G, v = .ref a ∧ RepOs K S H l vs G ∧ (∀ x ∈ G, x ∈ F) ∧ ((SqL K H a vs ∧ ∀ l', d ≠ .tup l') ∨ (SqT K H a vs ∧ d = .tup l)) := by
  cases d <;> simp only [D.items] at e <;> first | cases e | skip
  · simp only [RepO, RepS] at h
    obtain ⟨⟨a, vs, rfl, h1, h2⟩, rfl⟩ := h
    exact ⟨a, vs, [], rfl, .of_pure h2, fun _ h => h, .inr ⟨SqT.mono sub h1, rfl⟩⟩
  · simp only [RepO, RepS] at h
    obtain ⟨⟨a, vs, rfl, h1, h2⟩, rfl⟩ := h
    exact ⟨a, vs, [], rfl, .of_pure h2, fun _ h => h, .inl ⟨sub.seq h1, fun _ z => by cases z⟩⟩
  · simp only [RepO] at h
    obtain ⟨a, vs, G, rfl, rfl, h1, h2, h3⟩ := h
    exact ⟨a, vs, G, rfl, h3, fun x hx => by simp [hx], .inl ⟨.inl (.inl h2), fun _ z => by cases z⟩⟩
def fLen : List D → Option D
  | [.str x] => if x.length ≤ 1000000 then some (.int x.length) else none
  | [d] => d.items.map fun l => .int l.length
  | _ => none
theorem cs_len {K : PySem.W.Frag} {b : Bool} : CallS K (fun xs H Q => ∃ x n, xs = [x] ∧ LenV K x H n ∧ Q (.int n) H) b fLen := by
  intro vs ds Fs S H z P sub im r hz k
  match ds, hz with
  | [d], hz =>
    obtain ⟨v, rfl, q0⟩ := r.one
    by_cases hs : ∃ x, d = .str x
    · obtain ⟨x, rfl⟩ := hs
      simp only [fLen] at hz
      split at hz
      · rename_i hl
        cases hz
        simp only [RepO, RepS] at q0
        obtain ⟨rfl, _⟩ := q0
        exact ⟨_, x.length, rfl, ⟨by rw [sizeLine_eq]; omega, rfl⟩, k S H _ [] (.val sub im (by simp only [RepS]))⟩
      · cases hz
    · have hz' : d.items.map (fun l => D.int l.length) = some z := by
        cases d <;> first | exact hz | exact absurd ⟨_, rfl⟩ hs
      cases e : d.items with
      | none => rw [e] at hz'; cases hz'
      | some l =>
        rw [e] at hz'
        cases hz'
        obtain ⟨a, ws, G, rfl, h1, _, h2⟩ := items_rep sub e q0
        refine ⟨_, ws.length, rfl, ?_, ?_⟩
        · rcases h2 with ⟨h2, _⟩ | ⟨h2, _⟩
          · exact .inl ⟨ws, h2, rfl⟩
          · exact .inr ⟨ws, h2, rfl⟩
        · rw [h1.length]; exact k S H _ [] (.val sub im (by simp only [RepS]))
  | [], hz => cases hz
  | _ :: _ :: _, hz => simp [fLen] at hz
def fInt1 : List D → Option D
  | [.int i] => some (.int i)
  | [.bl b] => some (.int (if b then 1 else 0))
  | _ => none
theorem cs_int1 {K : PySem.W.Frag} {b : Bool} : CallS K (fun xs H Q => (∃ i, xs = [.int i] ∧ Q (.int i) H) ∨ ∃ k, xs = [.bl k] ∧ Q (.int (if k then 1 else 0)) H) b fInt1 := by
  intro vs ds Fs S H z P sub im r hz k
  match ds, hz with
  | [.int i], hz =>
    cases hz
    obtain ⟨v, rfl, q0⟩ := r.one
    obtain rfl := q0.int_inv
    exact .inl ⟨i, rfl, k S H _ [] (.val sub im (by simp only [RepS]))⟩
  | [.bl i], hz =>
    cases hz
    obtain ⟨v, rfl, q0⟩ := r.one
    obtain rfl := q0.bl_inv
    exact .inr ⟨i, rfl, k S H _ [] (.val sub im (by simp only [RepS]))⟩
def fAbs : List D → Option D
  | [.int i] => some (.int (if i < 0 then -i else i))
  | _ => none
theorem cs_abs {K : PySem.W.Frag} {b : Bool} : CallS K (fun xs H Q => ∃ i, xs = [.int i] ∧ Q (.int (if i < 0 then -i else i)) H) b fAbs := by
  intro vs ds Fs S H z P sub im r hz k
  match ds, hz with
  | [.int i], hz =>
    cases hz
    obtain ⟨v, rfl, q0⟩ := r.one
    obtain rfl := q0.int_inv
    exact ⟨i, rfl, k S H _ [] (.val sub im (by simp only [RepS]))⟩
def fMax2 : List D → Option D
  | [.int i, .int j] => some (.int (if j > i then j else i))
  | _ => none
def fMin2 : List D → Option D
  | [.int i, .int j] => some (.int (if j < i then j else i))
  | _ => none
theorem cs_max2 {K : PySem.W.Frag} {b : Bool} : CallS K (fun xs H Q => ∃ i j, xs = [.int i, .int j] ∧ Q (.int (if j > i then j else i)) H) b fMax2 := by
  intro vs ds Fs S H z P sub im r hz k
  match ds, hz with
  | [.int i, .int j], hz =>
    cases hz
    obtain ⟨v, v2, F1, F2, rfl, r1, r2⟩ := r.two
    obtain rfl := r1.int_inv
    obtain rfl := r2.int_inv
    exact ⟨i, j, rfl, k S H _ [] (.val sub im (by simp only [RepS]))⟩
theorem cs_min2 {K : PySem.W.Frag} {b : Bool} : CallS K (fun xs H Q => ∃ i j, xs = [.int i, .int j] ∧ Q (.int (if j < i then j else i)) H) b fMin2 := by
  intro vs ds Fs S H z P sub im r hz k
  match ds, hz with
  | [.int i, .int j], hz =>
    cases hz
    obtain ⟨v, v2, F1, F2, rfl, r1, r2⟩ := r.two
    obtain rfl := r1.int_inv
    obtain rfl := r2.int_inv
    exact ⟨i, j, rfl, k S H _ [] (.val sub im (by simp only [RepS]))⟩
/-- tuple(..) of what holds nothing owned -/
def fTuple : List D → Option D
  | [.tup l] => some (.tup l)
  | [.lst l] => some (.tup l)
  | [.own l] => if pureL l = true then some (.tup l) else none
  | _ => none
theorem cs_tuple {K : PySem.W.Frag} {b : Bool} : CallS K (fun xs H Q => ∃ p ys, xs = [.ref p] ∧ ((SqL K H p ys ∧ ∀ l, H l = none → Q (.ref l) (upd H l (.tup ys))) ∨ (SqT K H p ys ∧ Q (.ref p) H))) b fTuple := by
  intro vs ds Fs S H z P sub im r hz k
  match ds, hz with
  | [.tup l], hz =>
    cases hz
    obtain ⟨v, rfl, q0⟩ := r.one
    obtain ⟨r', rfl⟩ := q0.to_pure (by simp only [RepO] at q0; exact q0.1.pure)
    have r2 := r'
    simp only [RepS] at r'
    obtain ⟨a, ys, rfl, h1, h2⟩ := r'
    exact ⟨a, ys, rfl, .inr ⟨SqT.mono sub h1, k S H _ [] (.val sub im r2)⟩⟩
  | [.lst l], hz =>
    cases hz
    obtain ⟨v, rfl, q0⟩ := r.one
    simp only [RepO, RepS] at q0
    obtain ⟨⟨a, ys, rfl, h1, h2⟩, rfl⟩ := q0
    exact ⟨a, ys, rfl, .inl ⟨sub.seq h1, fun p hp => k _ _ _ [] (.tup sub im hp h2)⟩⟩
  | [.own l], hz =>
    simp only [fTuple] at hz
    split at hz
    · rename_i hp
      cases hz
      obtain ⟨v, rfl, q0⟩ := r.one
      simp only [RepO] at q0
      obtain ⟨a, ys, G, rfl, rfl, h0, h1, h2⟩ := q0
      exact ⟨a, ys, rfl, .inl ⟨.inl (.inl h1), fun p hq => k _ _ _ [] (.tup sub im hq (h2.to_pure hp).1)⟩⟩
    · cases hz
/-- list(..) of what holds nothing owned -/
def fList : List D → Option D
  | [d] => d.items.bind fun l => if pureL l = true then some (.own l) else none
  | _ => none
theorem cs_list {K : PySem.W.Frag} : CallS K (fun xs H Q => ∃ p ys, xs = [.ref p] ∧ (SqL K H p ys ∨ SqT K H p ys) ∧ ∀ l, H l = none → Q (.ref l) (upd H l (.lst ys))) true fList := by
  intro vs ds Fs S H z P sub im r hz k
  match ds, hz with
  | [d], hz =>
    simp only [fList] at hz
    cases e : d.items with
    | none => rw [e] at hz; cases hz
    | some l =>
      rw [e] at hz
      simp only [Option.bind_some] at hz
      split at hz
      · rename_i hp
        cases hz
        obtain ⟨v, rfl, q0⟩ := r.one
        obtain ⟨a, ys, G, rfl, h1, _, h2⟩ := items_rep sub e q0
        have hG := (h1.to_pure hp).2
        refine ⟨a, ys, rfl, ?_, fun p hq => k _ _ _ _ (.own sub im hq h1 fun _ => hG)⟩
        rcases h2 with ⟨h2, _⟩ | ⟨h2, _⟩
        · exact .inl h2
        · exact .inr h2
      · cases hz
  | [], hz => cases hz
  | _ :: _ :: _, hz => simp [fList] at hz
end
end VL

set_option Elab.async false
set_option linter.all false
set_option maxRecDepth 100000
set_option maxHeartbeats 1000000
/-! VF: promises of defs, calls. -/
namespace VL
open PySem L2

abbrev Ph := List D → (D → En → Prop) → Prop
/-- what a def promises: φ of the arguments by value and of what is wanted of its result and of what its arguments are behind it (where that is told) -/
def spD (K : PySem.W.Frag) (n : Nat) (φ : Ph) : Sp := fun vs H Q _ => vs.length = n ∧ ∃ S ds F, Same S H ∧ Imm S H ∧ RepOs K S H ds vs F ∧ F.Nodup ∧ ∃ R, φ ds R ∧
  ∀ S' H' v d ds' F' Fd, Step F S H S' H' F' → Same S' H' → Imm S' H' → Slots K S' H' (vs.map some) ds' F' → RepO K S' H' d v Fd → (F' ++ Fd).Nodup → (∀ a ∈ Fd, a ∈ F ∨ H a = none) → R d ds' → Q v H'

section
variable {C : SC}
/-! ### a call that only looks at what it is handed -/
def D.lfo : D → Bool
  | .own l => lfL l
  | d => d.lf
def xCallP (n : Nat) (φ : Ph) (t : TXs) : TX := fun ρ Q => t ρ fun ds ρ' => ds.length = n ∧ φ (viewL ds) fun d _ => d.lfo = true ∧ Q d ρ'
theorem step_nil {S H S' H' : Hp} {F' : List Addr} (s : Step [] S H S' H' F') : Same H H' := fun a o e => s.h a o e (by simp)
theorem callP_sound {K : PySem.W.Frag} {n : Nat} {φ : Ph} {vs : List V} {ds : List D} {Fs : List Addr} {S H : Hp} {Q : VK} {E : XK} {R : D → Prop} (sub : Same S H) (im : Imm S H) (r : RepOs K S H ds vs Fs) (hn : vs.length = n)
    (h : φ (viewL ds) fun d _ => d.lfo = true ∧ R d) (k : ∀ S' H' v d Fd, Qt K true S H S' H' v d Fd → R d → Q v H') : spD K n φ vs H Q E := by
  refine ⟨hn, H, viewL ds, [], .refl _, fun a o e => .inr e, .of_pure (r.seen sub), .nil, _, h, fun S' H' v d ds' F' Fd st sub' im' _ rd nd fr ⟨lf, q⟩ => ?_⟩
  have hh : Same H H' := step_nil st
  have new : ∀ a o, S' a = some o → H a = some o ∨ H a = none := fun a o e => by
    rcases st.new a o e with z | z | z
    · exact .inl z
    · cases z
    · exact .inr z
  have fr' : ∀ a ∈ Fd, H a = none := fun a ha => by
    rcases fr a ha with z | z
    · cases z
    · exact z
  let S2 : Hp := fun a => if H a = none then S' a else S a
  have s2n : ∀ a, H a = none → S2 a = S' a := fun a e => if_pos e
  have s2s : ∀ a o, H a = some o → S2 a = S a := fun a o e => if_neg (by rw [e]; simp)
  have small : ∀ a o, S' a = some o → Mut (some o) ∨ S2 a = some o := fun a o e => by
    cases c : H a with
    | none => exact .inr ((s2n a c).trans e)
    | some u =>
      have e2 := hh a u c
      rw [sub' a o e] at e2
      cases e2
      rcases im a o c with z | z
      · exact .inl z
      · exact .inr ((s2s a o c).trans z)
  have ss : Same S S2 := fun a o e => (s2s a o (sub a o e)).trans e
  have rep : RepO K S2 H' d v Fd := by
    cases d with
    | own l =>
      simp only [D.lfo] at lf
      simp only [RepO] at rd ⊢
      obtain ⟨a, ws, G, rfl, rfl, h0, h1, h2⟩ := rd
      obtain ⟨h3, rfl⟩ := h2.to_pure (pureL_lf _ lf)
      exact ⟨a, ws, [], rfl, rfl, (s2n a (fr' a (by simp))).trans h0, h1, .of_pure (h3.small small lf)⟩
    | _ =>
      have lf' : D.lf _ = true := lf
      obtain ⟨h3, rfl⟩ := rd.to_pure (D.pure_lf _ lf')
      exact .of_pure (h3.small small lf')
  refine k S2 H' v d Fd ⟨ss, hh, fun a o e => ?_, fun a o e => ?_, fun a o e => ?_, rep, fun _ => ⟨(List.nodup_append.mp nd).2.1, fr'⟩⟩ q
  · cases c : H a with
    | none => rw [s2n a c] at e; exact sub' a o e
    | some u => rw [s2s a u c] at e; exact hh a o (sub a o e)
  · cases c : H a with
    | none =>
      rw [s2n a c]
      exact im' a o e
    | some u =>
      have e2 := hh a u c
      rw [e] at e2
      cases e2
      rw [s2s a o c]
      exact im a o c
  · cases c : H a with
    | none => exact .inr rfl
    | some u => rw [s2s a u c] at e; exact .inl e
theorem ex_callP {x : Str} {f : Addr} {fd : FuncData} {ps : List Str} {j n : Nat} {φ : Ph} {e : Expr} {es : List Expr} {bs m : Bool} {t : TXs} {p pos : Pos} (G : FnOk C.P C.w C.K C.mg C.base CX0 j f fd ps (spD C.K n φ)) (hj : j ≤ C.lv)
    (hg : C.sc.names.lookup x = some .globalImplicit) (hm : C.mg x = some (.ref f)) (hk : PySem.W.keepIn C.K (.ref f) = true) (hb : Binds C.K fd ps []) (ha : EA C (e :: es) bs m t) (hdb : (x == ("__debug__" : Str)) = false := by decide)
    (he : ∀ env, starEach (e :: es) env = (false, eval e env) :: starEach es env := by intro _; rfl) (hpl : ∀ env, (backTo pos (starEach es env)).any (·.1) = false := by intro _; rfl) : EX C (.Call (.Name x p) (e :: es) [] pos) true m (xCallP n φ t) := by
  obtain ⟨ta, a1, a2⟩ := ha
  refine ⟨tCall (spD C.K n φ) [] E0 ta, fun X f => ?_, fun σ H S ρ F Q P w hq k => ?_⟩
  · rcases C with ⟨_, _, _, _, _, _, _, _, _, _⟩
    obtain ⟨rfl, rfl, rfl, rfl, rfl, rfl, rfl, _, _, _, _⟩ := id f
    exact pe_call (ds := []) (dvs := []) G (f.room.mono hj) hg hm hk hb .nil pass0 (a1 X f) hdb (he _) (hpl _)
  · refine a2 σ H S ρ F _ _ w hq fun vs ds S1 H1 ρ1 F1 Fd1 p1 ⟨hl, q1⟩ => ?_
    rw [List.append_nil]
    exact callP_sound (R := fun d => Q d ρ1) p1.wd.sub p1.wd.imm p1.rep (by rw [p1.rep.length, hl]) q1 fun S' H' v d Fd t q => k v d S' H' ρ1 F1 Fd (p1.op t) q

/-! ### a call that may change what it is handed, and hands it back -/
def Link (σ : St) : List (Option Nat) → List V → Prop
  | [], vs => vs = []
  | none :: as, vs => ∃ v ws, vs = v :: ws ∧ Link σ as ws
  | some i :: as, vs => ∃ v ws, vs = v :: ws ∧ σ[i]? = some (some v) ∧ Link σ as ws
/-- the values that are told; none at a local name's place -/
def RepM (K : PySem.W.Frag) (S H : Hp) : List (Option Nat) → List D → List V → List Addr → Prop
  | [], ds, vs, F => ds = [] ∧ vs = [] ∧ F = []
  | none :: as, ds, vs, F => ∃ d r v ws F1 F2, ds = d :: r ∧ vs = v :: ws ∧ F = F1 ++ F2 ∧ RepO K S H d v F1 ∧ RepM K S H as r ws F2
  | some _ :: as, ds, vs, F => ∃ r v ws, ds = D.non :: r ∧ vs = v :: ws ∧ RepM K S H as r ws F
structure PoM (K : PySem.W.Frag) (as : List (Option Nat)) (F : List Addr) (S H : Hp) (σ : St) (ρ : En) (S' H' : Hp) (ρ' : En) (F' : List Addr) (vs : List V) (ds : List D) (Fd : List Addr) : Prop where
  step : Step F S H S' H' F'
  wd : Wd K S' H' σ ρ' F'
  rep : RepM K S' H' as ds vs Fd
  link : Link σ as vs
  fr : (F' ++ Fd).Nodup ∧ ∀ a ∈ Fd, a ∈ F ∨ H a = none
theorem RepM.there {K : PySem.W.Frag} {S H : Hp} : ∀ {as : List (Option Nat)} {ds : List D} {vs : List V} {F : List Addr}, RepM K S H as ds vs F → ∀ a ∈ F, S a = none ∧ ∃ vs, H a = some (.lst vs)
  | [], ds, vs, F, h => by simp only [RepM] at h; rw [h.2.2]; intro a ha; cases ha
  | none :: as, ds, vs, F, h => by
    simp only [RepM] at h
    obtain ⟨d, r, v, ws, F1, F2, rfl, rfl, rfl, h1, h2⟩ := h
    intro a ha
    rcases List.mem_append.mp ha with ha | ha
    · exact h1.there a ha
    · exact RepM.there h2 a ha
  | some i :: as, ds, vs, F, h => by
    simp only [RepM] at h
    obtain ⟨r, v, ws, rfl, rfl, h2⟩ := h
    exact RepM.there h2
def EM (C : SC) (es : List Expr) (as : List (Option Nat)) (t : TXs) : Prop :=
  ∃ te : TA, (∀ X, Fits C X → PA X es te) ∧ ∀ (σ : St) (H S : Hp) (ρ : En) (F : List Addr) (Q : List D → En → Prop) (P : List V → Hp → Prop), Wd C.K S H σ ρ F → t ρ Q →
    (∀ vs ds S' H' ρ' F' Fd, PoM C.K as F S H σ ρ S' H' ρ' F' vs ds Fd → Q ds ρ' → P vs H') → te σ H P
theorem em_nil : EM C [] [] xsN :=
  ⟨tNil, fun X f => pa_nil, fun σ H S ρ F Q P w h k => k [] [] S H ρ F [] ⟨.refl, w, by simp only [RepM]; exact ⟨trivial, trivial, trivial⟩, by simp only [Link], ⟨by simpa using w.nd, fun _ h => by cases h⟩⟩ h⟩
theorem em_val {e : Expr} {es : List Expr} {as : List (Option Nat)} {m : Bool} {t : TX} {u : TXs} (he : EX C e true m t) (hr : EM C es as u)
    (hst : ∀ env, starEach (e :: es) env = (false, eval e env) :: starEach es env := by intro _; rfl) : EM C (e :: es) (none :: as) (xsC t u) := by
  obtain ⟨te, a1, a2⟩ := he
  obtain ⟨tr, c1, c2⟩ := hr
  refine ⟨tCons te tr, fun X f => pa_cons (a1 X f) (c1 X f) (hst _), fun σ H S ρ F Q P w h k => ?_⟩
  refine a2 σ H S ρ F _ _ w h fun v d S1 H1 ρ1 F1 Fd1 p1 q1 => ?_
  refine c2 σ H1 S1 ρ1 F1 _ _ p1.wd q1 fun vs ds S2 H2 ρ2 F2 Fd2 p2 q2 => ?_
  have p2' : Po C.K true true F1 S1 H1 σ ρ1 S2 H2 ρ2 F2 .non .non [] := ⟨p2.step, p2.wd, by simp only [RepO, RepS]; exact ⟨trivial, trivial⟩, fun _ => ⟨by simpa using p2.wd.nd, fun _ h => by cases h⟩, fun z => by cases z⟩
  have r1 := p1.first p2' (.inl rfl)
  obtain ⟨n1, f1⟩ := p1.fr rfl
  obtain ⟨n2, f2⟩ := p2.fr
  have there := p1.rep.there
  have d1 : ∀ a ∈ Fd1, a ∉ F1 := fun a ha hb => (List.nodup_append.mp n1).2.2 a hb a ha rfl
  have d2 : ∀ a ∈ Fd1, a ∉ F2 := fun a ha hb => by
    rcases p2.step.fp a hb with z | z
    · exact d1 a ha z
    · obtain ⟨_, _, q⟩ := there a ha
      rw [z] at q; cases q
  have d3 : ∀ a ∈ Fd1, a ∉ Fd2 := fun a ha hb => by
    rcases f2 a hb with z | z
    · exact d1 a ha z
    · obtain ⟨_, _, q⟩ := there a ha
      rw [z] at q; cases q
  obtain ⟨n3, n4, n5⟩ := List.nodup_append.mp n2
  refine k (v :: vs) (d :: ds) S2 H2 ρ2 F2 (Fd1 ++ Fd2) ⟨p1.step.trans p2.step, p2.wd, ?_, ?_, ?_, fun a ha => ?_⟩ q2
  · simp only [RepM]
    exact ⟨d, ds, v, vs, Fd1, Fd2, rfl, rfl, rfl, r1, p2.rep⟩
  · simp only [Link]
    exact ⟨v, vs, rfl, p2.link⟩
  · refine List.nodup_append.mpr ⟨n3, List.nodup_append.mpr ⟨(List.nodup_append.mp n1).2.1, n4, fun a ha c hc e => d3 a ha (e ▸ hc)⟩, fun a ha c hc e => ?_⟩
    rcases List.mem_append.mp hc with hc | hc
    · exact d2 c hc (e ▸ ha)
    · exact n5 a ha c hc e
  · rcases List.mem_append.mp ha with ha | ha
    · exact f1 a ha
    · rcases f2 a ha with z | z
      · exact p1.step.fp a z
      · by_cases c : a ∈ F
        · exact .inl c
        · refine .inr ?_
          cases r : H a with
          | none => rfl
          | some o => rw [p1.step.h a o r c] at z; cases z
/-- a local name whose value the callee may change -/
def xsI (i : Nat) (u : TXs) : TXs := fun ρ Q => (∃ d, ρ[i]? = some (some d)) ∧ u ρ fun ds ρ' => Q (.non :: ds) ρ'
theorem em_io (i : Nat) {x : Str} {p : Pos} {es : List Expr} {as : List (Option Nat)} {u : TXs} (hr : EM C es as u) (hN : C.N[i]? = some x := by rfl) (hv : Vis C.sc x := by first | exact Or.inl rfl | exact Or.inr (Or.inl rfl) | exact Or.inr (Or.inr rfl))
    (hd : (x == ("__debug__" : Str)) = false := by decide) (hcd : (x == ("__classdict__" : Str)) = false := by decide)
    (hst : ∀ env, starEach (.Name x p :: es) env = (false, eval (.Name x p) env) :: starEach es env := by intro _; rfl) : EM C (.Name x p :: es) (some i :: as) (xsI i u) := by
  obtain ⟨tr, c1, c2⟩ := hr
  refine ⟨tCons (tVar i) tr, fun X f => pa_cons (pe_var (by rw [f.N]; exact hN) (by rw [f.sc]; exact hv) hd hcd) (c1 X f) (hst _), fun σ H S ρ F Q P w h k => ?_⟩
  obtain ⟨⟨d0, h0⟩, h⟩ := h
  obtain ⟨F1, Fi, F2, _, a, _⟩ := w.sl.at i
  obtain ⟨v, hv, _⟩ := a d0 h0
  refine ⟨v, hv, c2 σ H S ρ F _ _ w h fun vs ds S2 H2 ρ2 F2 Fd2 p2 q2 => ?_⟩
  refine k (v :: vs) (.non :: ds) S2 H2 ρ2 F2 Fd2 ⟨p2.step, p2.wd, ?_, ?_, p2.fr⟩ q2
  · simp only [RepM]
    exact ⟨ds, v, vs, rfl, rfl, p2.rep⟩
  · simp only [Link]
    exact ⟨v, vs, rfl, hv, p2.link⟩
/-- the names' values are handed over .. -/
def takeIO : List (Option Nat) → List D → En → Option (List D × En)
  | [], _, ρ => some ([], ρ)
  | none :: as, d :: ds, ρ => (takeIO as ds ρ).map fun p => (d :: p.1, p.2)
  | some i :: as, _ :: ds, ρ => match ρ[i]? with
    | some (some d) => (takeIO as ds (ρ.set i none)).map fun p => (d :: p.1, p.2)
    | _ => none
  | _, _, _ => none
/-- .. and back -/
def putIO : List (Option Nat) → En → En → En
  | some i :: as, some d :: r, ρ => putIO as r (ρ.set i (some d))
  | _ :: as, _ :: r, ρ => putIO as r ρ
  | _, _, ρ => ρ
theorem takeIO_sound {K : PySem.W.Frag} {S H : Hp} {σ : St} : ∀ {as : List (Option Nat)} {ds : List D} {vs : List V} {ρ : En} {F Fd : List Addr} {xs : List D} {ρr : En}, Slots K S H σ ρ F → RepM K S H as ds vs Fd → Link σ as vs → (F ++ Fd).Nodup →
    takeIO as ds ρ = some (xs, ρr) → ∃ Fr Fx, Slots K S H σ ρr Fr ∧ RepOs K S H xs vs Fx ∧ (Fr ++ Fx).Nodup ∧ (∀ a ∈ Fr, a ∈ F) ∧ (∀ a ∈ Fx, a ∈ F ++ Fd) ∧ ρr.length = ρ.length
  | [], ds, vs, ρ, F, Fd, xs, ρr, sl, rm, lk, nd, e => by
    simp only [takeIO, Option.some.injEq, Prod.mk.injEq] at e
    simp only [RepM] at rm
    obtain ⟨rfl, rfl⟩ := e
    obtain ⟨rfl, rfl, rfl⟩ := rm
    exact ⟨F, [], sl, by simp only [RepOs]; exact ⟨trivial, trivial⟩, nd, fun _ h => h, fun _ h => by simp at h, rfl⟩
  | none :: as, ds, vs, ρ, F, Fd, xs, ρr, sl, rm, lk, nd, e => by
    simp only [RepM] at rm
    obtain ⟨d, r, v, ws, F1, F2, rfl, rfl, rfl, h1, h2⟩ := rm
    simp only [Link] at lk
    obtain ⟨v', ws', ev, lk⟩ := lk
    cases ev
    simp only [takeIO, Option.map_eq_some_iff] at e
    obtain ⟨⟨ys, ρ'⟩, e1, e2⟩ := e
    simp only [Prod.mk.injEq] at e2
    obtain ⟨rfl, rfl⟩ := e2
    have nd2 : (F ++ F2).Nodup := by
      obtain ⟨a, b, c⟩ := List.nodup_append.mp nd
      obtain ⟨b1, b2, b3⟩ := List.nodup_append.mp b
      exact List.nodup_append.mpr ⟨a, b2, fun x hx y hy => c x hx y (by simp [hy])⟩
    obtain ⟨Fr, Fx, a1, a2, a3, a4, a5, a6⟩ := takeIO_sound sl h2 lk nd2 e1
    refine ⟨Fr, F1 ++ Fx, a1, by simp only [RepOs]; exact ⟨v, ws, F1, Fx, rfl, rfl, h1, a2⟩, ?_, a4, fun a ha => ?_, a6⟩
    · obtain ⟨b1, b2, b3⟩ := List.nodup_append.mp a3
      obtain ⟨c1, c2, c3⟩ := List.nodup_append.mp nd
      obtain ⟨d1, d2, d3⟩ := List.nodup_append.mp c2
      refine List.nodup_append.mpr ⟨b1, List.nodup_append.mpr ⟨d1, b2, fun x hx y hy e => ?_⟩, fun x hx y hy e => ?_⟩
      · subst e
        rcases List.mem_append.mp (a5 x hy) with z | z
        · exact c3 x z x (by simp [hx]) rfl
        · exact d3 x hx x z rfl
      · subst e
        rcases List.mem_append.mp hy with z | z
        · exact c3 x (a4 x hx) x (by simp [z]) rfl
        · exact b3 x hx x z rfl
    · rcases List.mem_append.mp ha with z | z
      · simp [z]
      · rcases List.mem_append.mp (a5 a z) with z | z <;> simp [z]
  | some i :: as, ds, vs, ρ, F, Fd, xs, ρr, sl, rm, lk, nd, e => by
    simp only [RepM] at rm
    obtain ⟨r, v, ws, rfl, rfl, h2⟩ := rm
    simp only [Link] at lk
    obtain ⟨v', ws', ev, ei, lk⟩ := lk
    cases ev
    simp only [takeIO] at e
    split at e
    · rename_i d hd
      simp only [Option.map_eq_some_iff] at e
      obtain ⟨⟨ys, ρ'⟩, e1, e2⟩ := e
      simp only [Prod.mk.injEq] at e2
      obtain ⟨rfl, rfl⟩ := e2
      obtain ⟨F1, Fi, F2, rfl, a, c⟩ := sl.at i
      obtain ⟨v2, ev2, rd⟩ := a d hd
      obtain rfl : v = v2 := by rw [ei] at ev2; exact Option.some.inj (Option.some.inj ev2)
      have sl' := (c S H (some v) (.refl _) (fun _ _ _ e => e) fun _ _ e => e).1
      rw [set_same ei] at sl'
      have nd0 := nodup_mid (List.nodup_append.mp nd).1
      have ndF : ((F1 ++ F2) ++ Fd).Nodup := by
        obtain ⟨p1, p2, p3⟩ := List.nodup_append.mp nd
        exact List.nodup_append.mpr ⟨(List.nodup_append.mp nd0).1, p2, fun x hx y hy => p3 x (by rcases List.mem_append.mp hx with z | z <;> simp [z]) y hy⟩
      obtain ⟨Fr, Fx, a1, a2, a3, a4, a5, a6⟩ := takeIO_sound sl' h2 lk ndF e1
      have dis : ∀ x ∈ Fi, x ∉ F1 ++ F2 ∧ x ∉ Fd := fun x hx => ⟨fun z => (List.nodup_append.mp nd0).2.2 x z x hx rfl, fun z => (List.nodup_append.mp nd).2.2 x (by simp [hx]) x z rfl⟩
      refine ⟨Fr, Fi ++ Fx, a1, by simp only [RepOs]; exact ⟨v, ws, Fi, Fx, rfl, rfl, rd, a2⟩, ?_, fun x hx => ?_, fun x hx => ?_, by rw [a6, List.length_set]⟩
      · obtain ⟨b1, b2, b3⟩ := List.nodup_append.mp a3
        refine List.nodup_append.mpr ⟨b1, List.nodup_append.mpr ⟨(List.nodup_append.mp nd0).2.1, b2, fun x hx y hy e => ?_⟩, fun x hx y hy e => ?_⟩
        · subst e
          rcases List.mem_append.mp (a5 x hy) with z | z
          · exact (dis x hx).1 z
          · exact (dis x hx).2 z
        · subst e
          rcases List.mem_append.mp hy with z | z
          · exact (dis x z).1 (a4 x hx)
          · exact b3 x hx x z rfl
      · rcases List.mem_append.mp (a4 x hx) with z | z <;> simp [z]
      · rcases List.mem_append.mp hx with z | z
        · simp [z]
        · rcases List.mem_append.mp (a5 x z) with z | z
          · rcases List.mem_append.mp z with z | z <;> simp [z]
          · simp [z]
    · cases e
theorem putIO_sound {K : PySem.W.Frag} {S H : Hp} {σ : St} : ∀ {as : List (Option Nat)} {vs : List V} {r : En} {ρ : En} {F G : List Addr}, Slots K S H σ ρ F → Slots K S H (vs.map some) r G → Link σ as vs → (F ++ G).Nodup → (∀ i, some i ∈ as → i < ρ.length) →
    ∃ F2, Slots K S H σ (putIO as r ρ) F2 ∧ F2.Nodup ∧ ∀ a ∈ F2, a ∈ F ++ G
  | [], vs, r, ρ, F, G, sl, rm, lk, nd, _ => by
    have e : putIO [] r ρ = ρ := by cases r <;> rfl
    rw [e]
    exact ⟨F, sl, (List.nodup_append.mp nd).1, fun _ h => by simp [h]⟩
  | none :: as, vs, [], ρ, F, G, sl, rm, lk, nd, _ => by
    have e : putIO (none :: as) [] ρ = ρ := rfl
    rw [e]
    exact ⟨F, sl, (List.nodup_append.mp nd).1, fun _ h => by simp [h]⟩
  | some i :: as, vs, [], ρ, F, G, sl, rm, lk, nd, _ => by
    have e : putIO (some i :: as) [] ρ = ρ := rfl
    rw [e]
    exact ⟨F, sl, (List.nodup_append.mp nd).1, fun _ h => by simp [h]⟩
  | none :: as, vs, x :: r, ρ, F, G, sl, rm, lk, nd, hi => by
    simp only [Link] at lk
    obtain ⟨v, ws, rfl, lk⟩ := lk
    have e : putIO (none :: as) (x :: r) ρ = putIO as r ρ := by cases x <;> rfl
    rw [e]
    cases x with
    | none => exact putIO_sound (vs := ws) (r := r) sl rm lk nd fun j hj => hi j (by simp [hj])
    | some d =>
      obtain ⟨v2, G1, G2, e1, rfl, r1, rm⟩ := rm
      have nd2 : (F ++ G2).Nodup := by
        obtain ⟨a, b, c⟩ := List.nodup_append.mp nd
        obtain ⟨b1, b2, b3⟩ := List.nodup_append.mp b
        exact List.nodup_append.mpr ⟨a, b2, fun x hx y hy => c x hx y (by simp [hy])⟩
      obtain ⟨F2, a1, a2, a3⟩ := putIO_sound sl rm lk nd2 fun j hj => hi j (by simp [hj])
      exact ⟨F2, a1, a2, fun x hx => by rcases List.mem_append.mp (a3 x hx) with z | z <;> simp [z]⟩
  | some i :: as, vs, none :: r, ρ, F, G, sl, rm, lk, nd, hi => by
    simp only [Link] at lk
    obtain ⟨v, ws, rfl, _, lk⟩ := lk
    exact putIO_sound (vs := ws) (r := r) sl rm lk nd fun j hj => hi j (by simp [hj])
  | some i :: as, vs, some d :: r, ρ, F, G, sl, rm, lk, nd, hi => by
    simp only [Link] at lk
    obtain ⟨v, ws, rfl, ei, lk⟩ := lk
    obtain ⟨v2, G1, G2, e1, rfl, r1, rm⟩ := rm
    obtain rfl : v = v2 := Option.some.inj e1
    obtain ⟨F1, Fi, F2, rfl, a, c⟩ := sl.at i
    have sl' := (c S H (some v) (.refl _) (fun _ _ _ e => e) fun _ _ e => e).2.2 v d G1 rfl r1 (hi i (by simp))
    rw [set_same ei] at sl'
    have nd2 : ((F1 ++ (G1 ++ F2)) ++ G2).Nodup := by
      obtain ⟨a, b, c⟩ := List.nodup_append.mp nd
      obtain ⟨b1, b2, b3⟩ := List.nodup_append.mp b
      obtain ⟨n1, n2, n3⟩ := List.nodup_append.mp a
      obtain ⟨n4, n5, n6⟩ := List.nodup_append.mp n2
      refine List.nodup_append.mpr ⟨List.nodup_append.mpr ⟨n1, List.nodup_append.mpr ⟨b1, n5, fun x hx y hy e => c y (by simp [hy]) x (by simp [hx]) e.symm⟩, fun x hx y hy => ?_⟩, b2, fun x hx y hy => ?_⟩
      · rcases List.mem_append.mp hy with z | z
        · exact c x (by simp [hx]) y (by simp [z])
        · exact n3 x hx y (by simp [z])
      · rcases List.mem_append.mp hx with z | z
        · exact c x (by simp [z]) y (by simp [hy])
        · rcases List.mem_append.mp z with z | z
          · exact b3 x z y hy
          · exact c x (by simp [z]) y (by simp [hy])
    obtain ⟨F4, a1, a2, a3⟩ := putIO_sound sl' rm lk nd2 fun j hj => by rw [List.length_set]; exact hi j (by simp [hj])
    refine ⟨F4, a1, a2, fun x hx => ?_⟩
    rcases List.mem_append.mp (a3 x hx) with z | z
    · rcases List.mem_append.mp z with z | z
      · simp [z]
      · rcases List.mem_append.mp z with z | z <;> simp [z]
    · simp [z]
theorem takeIO_lt : ∀ {as : List (Option Nat)} {ds : List D} {ρ : En} {xs : List D} {ρr : En}, takeIO as ds ρ = some (xs, ρr) → ∀ i, some i ∈ as → i < ρ.length
  | [], ds, ρ, xs, ρr, e, i, hi => by simp at hi
  | none :: as, [], ρ, xs, ρr, e, i, hi => by simp [takeIO] at e
  | some j :: as, [], ρ, xs, ρr, e, i, hi => by simp [takeIO] at e
  | none :: as, d :: ds, ρ, xs, ρr, e, i, hi => by
    simp only [takeIO, Option.map_eq_some_iff] at e
    obtain ⟨⟨ys, ρ'⟩, e1, _⟩ := e
    exact takeIO_lt e1 i (by simpa using hi)
  | some j :: as, d :: ds, ρ, xs, ρr, e, i, hi => by
    simp only [takeIO] at e
    split at e
    · rename_i d' hd
      simp only [Option.map_eq_some_iff] at e
      obtain ⟨⟨ys, ρ'⟩, e1, _⟩ := e
      rcases List.mem_cons.mp hi with z | z
      · cases z; exact (List.getElem?_eq_some_iff.mp hd).1
      · have := takeIO_lt e1 i z
        rwa [List.length_set] at this
    · cases e
def xCallM (n : Nat) (φ : Ph) (as : List (Option Nat)) (u : TXs) : TX := fun ρ Q => u ρ fun ds ρ' => ∃ xs ρr, takeIO as ds ρ' = some (xs, ρr) ∧ xs.length = n ∧ φ xs fun d ds' => Q d (putIO as ds' ρr)
theorem ex_callM {x : Str} {f : Addr} {fd : FuncData} {ps : List Str} {j n : Nat} {φ : Ph} {e : Expr} {es : List Expr} {as : List (Option Nat)} {t : TXs} {p pos : Pos} (G : FnOk C.P C.w C.K C.mg C.base CX0 j f fd ps (spD C.K n φ)) (hj : j ≤ C.lv)
    (hg : C.sc.names.lookup x = some .globalImplicit) (hm : C.mg x = some (.ref f)) (hk : PySem.W.keepIn C.K (.ref f) = true) (hb : Binds C.K fd ps []) (ha : EM C (e :: es) as t) (hdb : (x == ("__debug__" : Str)) = false := by decide)
    (he : ∀ env, starEach (e :: es) env = (false, eval e env) :: starEach es env := by intro _; rfl) (hpl : ∀ env, (backTo pos (starEach es env)).any (·.1) = false := by intro _; rfl) : EX C (.Call (.Name x p) (e :: es) [] pos) true true (xCallM n φ as t) := by
  obtain ⟨ta, a1, a2⟩ := ha
  refine ⟨tCall (spD C.K n φ) [] E0 ta, fun X f => ?_, fun σ H S ρ F Q P w hq k => ?_⟩
  · rcases C with ⟨_, _, _, _, _, _, _, _, _, _⟩
    obtain ⟨rfl, rfl, rfl, rfl, rfl, rfl, rfl, _, _, _, _⟩ := id f
    exact pe_call (ds := []) (dvs := []) G (f.room.mono hj) hg hm hk hb .nil pass0 (a1 X f) hdb (he _) (hpl _)
  · refine a2 σ H S ρ F _ _ w hq fun vs ds S1 H1 ρ1 F1 Fd1 p1 ⟨xs, ρr, ht, hl, q1⟩ => ?_
    rw [List.append_nil]
    obtain ⟨Fr, Fx, b1, b2, b3, b4, b5, b6⟩ := takeIO_sound p1.wd.sl p1.rep p1.link p1.fr.1 ht
    obtain ⟨n1, n2, n3⟩ := List.nodup_append.mp b3
    refine ⟨by rw [b2.length, hl], S1, xs, Fx, p1.wd.sub, p1.wd.imm, b2, n2, _, q1, fun S2 H2 v d ds' F' Fd st sub' im' sl' rd nd fr q2 => ?_⟩
    have thr := b1.there
    have rx : ∀ a ∈ Fr, a ∉ Fx := fun a ha hb => n3 a ha a hb rfl
    have slr : Slots C.K S2 H2 σ ρr Fr := b1.mono st.s (fun a ha o e => st.h a o e (rx a ha)) fun a ha e => by
      cases q : S2 a with
      | none => rfl
      | some o =>
        rcases st.new a o q with z | z | z
        · rw [e] at z; cases z
        · exact absurd z (rx a ha)
        · obtain ⟨_, vs, w⟩ := thr a ha
          rw [z] at w; cases w
    have rF1 : ∀ a ∈ Fr, a ∉ F' := fun a ha hb => by
      rcases st.fp a hb with z | z
      · exact rx a ha z
      · obtain ⟨_, vs, w⟩ := thr a ha
        rw [z] at w
        cases w
    have rF2 : ∀ a ∈ Fr, a ∉ Fd := fun a ha hb => by
      rcases fr a hb with z | z
      · exact rx a ha z
      · obtain ⟨_, vs, w⟩ := thr a ha
        rw [z] at w
        cases w
    have rF : ∀ a ∈ Fr, a ∉ F' ∧ a ∉ Fd := fun a ha => ⟨rF1 a ha, rF2 a ha⟩
    obtain ⟨m1, m2, m3⟩ := List.nodup_append.mp nd
    have nd2 : (Fr ++ F').Nodup := List.nodup_append.mpr ⟨n1, m1, fun a ha c hc e => (rF a ha).1 (e ▸ hc)⟩
    obtain ⟨F2, c1, c2, c3⟩ := putIO_sound slr sl' p1.link nd2 fun i hi => by rw [b6]; exact takeIO_lt ht i hi
    have s1 : Step F S H S1 H1 (F1 ++ Fd1) := ⟨p1.step.s, p1.step.h, p1.step.new, fun a ha => by
      rcases List.mem_append.mp ha with z | z
      · exact p1.step.fp a z
      · exact p1.fr.2 a z⟩
    have s2 : Step (F1 ++ Fd1) S1 H1 S2 H2 F2 := by
      have z := st.more (F2 := F1 ++ Fd1) b5
      refine ⟨z.s, z.h, z.new, fun a ha => ?_⟩
      rcases List.mem_append.mp (c3 a ha) with q | q
      · exact .inl (by simp [b4 a q])
      · exact z.fp a q
    refine k v d S2 H2 (putIO as ds' ρr) F2 Fd ⟨s1.trans s2, ⟨sub', im', c1, c2⟩, rd, fun _ => ⟨List.nodup_append.mpr ⟨c2, m2, fun a ha c hc e => ?_⟩, fun a ha => ?_⟩, fun z => by cases z⟩ q2
    · subst e
      rcases List.mem_append.mp (c3 a ha) with q | q
      · exact (rF a q).2 hc
      · exact m3 a q a hc rfl
    · rcases fr a ha with z | z
      · exact s1.fp a (b5 a z)
      · by_cases c : a ∈ F
        · exact .inl c
        · refine .inr ?_
          cases r : H a with
          | none => rfl
          | some o => rw [p1.step.h a o r c] at z; cases z
end
end VL

set_option Elab.async false
set_option linter.all false
set_option maxRecDepth 100000
set_option maxHeartbeats 1000000
/-! VG: statements. -/
namespace VL
open PySem L2
section
variable {C : SC}
/-! ### blocks -/
def sN : TSx := fun D ρ => D.nx ρ
def sC (t u : TSx) : TSx := fun D ρ => t { D with nx := u D } ρ
theorem sxs_nil : SXs C [] sN := ⟨_, fun X f => pss_nil, fun σ H S ρ F D P w h k1 k2 k3 k4 => k1 S H σ ρ F (.refl w) h⟩
theorem sxs_cons {st : Stmt} {rest : List Stmt} {t u : TSx} (h1 : SX C st t) (h2 : SXs C rest u) : SXs C (st :: rest) (sC t u) := by
  obtain ⟨te, a1, a2⟩ := h1
  obtain ⟨tr, c1, c2⟩ := h2
  refine ⟨tSeq te tr, fun X f => pss_cons (a1 X f) (c1 X f), fun σ H S ρ F D P w h k1 k2 k3 k4 => ?_⟩
  refine a2 σ H S ρ F { D with nx := u D } { P with nx := tr P } w h (fun S1 H1 σ1 ρ1 F1 p1 q1 => ?_) k2 k3 k4
  exact c2 σ1 H1 S1 ρ1 F1 D P p1.wd q1 (fun S2 H2 σ2 ρ2 F2 p2 q2 => k1 S2 H2 σ2 ρ2 F2 (p1.trans p2) q2) (fun S2 H2 σ2 ρ2 F2 v d Fd p2 q2 => k2 S2 H2 σ2 ρ2 F2 v d Fd (.of p1 p2) q2)
    (fun S2 H2 σ2 ρ2 F2 p2 q2 => k3 S2 H2 σ2 ρ2 F2 (p1.trans p2) q2) (fun S2 H2 σ2 ρ2 F2 p2 q2 => k4 S2 H2 σ2 ρ2 F2 (p1.trans p2) q2)
theorem sxs_one {st : Stmt} {t : TSx} (h1 : SX C st t) : SXs C [st] (sC t sN) := sxs_cons h1 sxs_nil
/-- what a name owns stays from now on as it is: it may be told of and walked freely -/
def sFz (i : Nat) (t : TSx) : TSx := fun D ρ => ∃ d, ρ[i]? = some (some d) ∧ t D (ρ.set i (some d.view))
theorem frz_rep {K : PySem.W.Frag} {S H : Hp} {d : D} {v : V} {Fi : List Addr} (sub : Same S H) (r : RepO K S H d v Fi) : ∃ S', Same S S' ∧ Same S' H ∧ RepS K S' d.view v ∧ (∀ a o, S' a = some o → S a = some o ∨ a ∈ Fi) ∧ ∀ a, a ∉ Fi → S' a = S a := by
  let S2 : Hp := fun a => if a ∈ Fi then H a else S a
  have i1 : ∀ a, a ∈ Fi → S2 a = H a := fun a h => if_pos h
  have i2 : ∀ a, a ∉ Fi → S2 a = S a := fun a h => if_neg h
  refine ⟨S2, fun a o e => ?_, fun a o e => ?_, ?_, fun a o e => ?_, i2⟩
  · by_cases c : a ∈ Fi
    · rw [i1 a c]; exact sub a o e
    · rw [i2 a c]; exact e
  · by_cases c : a ∈ Fi
    · rw [i1 a c] at e; exact e
    · rw [i2 a c] at e; exact sub a o e
  · -- seen in the owned part
    have ss : Same S S2 := fun a o e => by
      by_cases c : a ∈ Fi
      · rw [i1 a c]; exact sub a o e
      · rw [i2 a c]; exact e
    have gen : (∀ (d : D) (v : V) (G : List Addr), (∀ a ∈ G, a ∈ Fi) → RepO K S H d v G → RepS K S2 d.view v) := by
      intro d
      refine D.rec (motive_1 := fun d => ∀ (v : V) (G : List Addr), (∀ a ∈ G, a ∈ Fi) → RepO K S H d v G → RepS K S2 d.view v)
        (motive_2 := fun l => ∀ (vs : List V) (G : List Addr), (∀ a ∈ G, a ∈ Fi) → RepOs K S H l vs G → RepSs K S2 (viewL l) vs) ?_ ?_ ?_ ?_ ?_ ?_ ?_ ?_ ?_ ?_ d
      · intro v G hG h; simp only [RepO] at h; exact h.1.mono ss
      · intro b v G hG h; simp only [RepO] at h; exact h.1.mono ss
      · intro b v G hG h; simp only [RepO] at h; exact h.1.mono ss
      · intro b v G hG h; simp only [RepO] at h; exact h.1.mono ss
      · intro l _ v G hG h; simp only [RepO] at h; rw [D.view_pure _ h.1.pure]; exact h.1.mono ss
      · intro l _ v G hG h; simp only [RepO] at h; rw [D.view_pure _ h.1.pure]; exact h.1.mono ss
      · intro l ih v G hG h
        simp only [RepO] at h
        obtain ⟨a, vs, G', rfl, rfl, e3, e4, e5⟩ := h
        simp only [D.view, RepS]
        exact ⟨a, vs, rfl, .inl (.inl ((i1 a (hG a (by simp))).trans e4)), ih vs G' (fun x hx => hG x (by simp [hx])) e5⟩
      · intro u v G hG h; simp only [RepO] at h; exact h.1.mono ss
      · intro vs G hG h; simp only [RepOs] at h; simp only [viewL, RepSs]; exact h.1
      · intro d r ih1 ih2 vs G hG h
        simp only [RepOs] at h
        obtain ⟨v, ws, F1, F2, rfl, rfl, e3, e4⟩ := h
        simp only [viewL, RepSs]
        exact ⟨v, ws, rfl, ih1 v F1 (fun x hx => hG x (by simp [hx])) e3, ih2 ws F2 (fun x hx => hG x (by simp [hx])) e4⟩
    exact gen d v Fi (fun _ h => h) r
  · by_cases c : a ∈ Fi
    · exact .inr c
    · rw [i2 a c] at e; exact .inl e
theorem frz_sound {K : PySem.W.Frag} {io : List Bool} {S H : Hp} {σ : St} {ρ : En} {F : List Addr} {i : Nat} {d : D} (w : Wd K S H σ ρ F) (e : ρ[i]? = some (some d)) :
    ∃ S' F', Aft K io F S H σ S' H σ (ρ.set i (some d.view)) F' := by
  obtain ⟨F1, Fi, F2, rfl, a, c⟩ := w.sl.at i
  obtain ⟨v, ev, r⟩ := a d e
  obtain ⟨S', s1, s2, s3, s4, s5⟩ := frz_rep w.sub r
  have hi : i < ρ.length := (List.getElem?_eq_some_iff.mp e).1
  have nd := nodup_mid w.nd
  have sl := (c S' H (some v) s1 (fun _ _ _ e => e) fun x hx e => by rw [s5 x fun z => (List.nodup_append.mp nd).2.2 x hx x z rfl]; exact e).2.2 v d.view [] rfl (.of_pure s3) hi
  rw [set_same ev] at sl
  refine ⟨S', F1 ++ ([] ++ F2), ⟨⟨s1, fun _ _ e _ => e, fun x o e => ?_, fun x hx => .inl (by
      rcases List.mem_append.mp hx with z | z
      · simp [z]
      · have z : x ∈ F2 := z
        simp [z])⟩, ⟨s2, fun x o e => ?_, sl, by simpa using (List.nodup_append.mp nd).1⟩, .refl⟩⟩
  · rcases s4 x o e with z | z
    · exact .inl z
    · exact .inr (.inl (by simp [z]))
  · rcases w.imm x o e with z | z
    · exact .inl z
    · exact .inr (s1 x o z)
theorem SRun.frz {ts : TS} {t : TSx} (i : Nat) (h : SRun C ts t) : SRun C ts (sFz i t) := fun σ H S ρ F D P w ⟨d, e, q⟩ k1 k2 k3 k4 => by
  obtain ⟨S', F', a⟩ := frz_sound (io := C.io) w e
  exact h σ H S' _ F' D P a.wd q (fun S2 H2 σ2 ρ2 F2 p2 q2 => k1 S2 H2 σ2 ρ2 F2 (a.trans p2) q2) (fun S2 H2 σ2 ρ2 F2 v d Fd p2 q2 => k2 S2 H2 σ2 ρ2 F2 v d Fd (.of a p2) q2)
    (fun S2 H2 σ2 ρ2 F2 p2 q2 => k3 S2 H2 σ2 ρ2 F2 (a.trans p2) q2) (fun S2 H2 σ2 ρ2 F2 p2 q2 => k4 S2 H2 σ2 ρ2 F2 (a.trans p2) q2)
theorem sxs_frz (i : Nat) {st : List Stmt} {t : TSx} (h : SXs C st t) : SXs C st (sFz i t) := by
  obtain ⟨te, a1, a2⟩ := h
  exact ⟨te, a1, a2.frz i⟩
/-- a name's value is forgotten -/
def sForget (i : Nat) (t : TSx) : TSx := fun D ρ => t D (ρ.set i none)
theorem sxs_forget (i : Nat) {st : List Stmt} {t : TSx} (h : SXs C st t) : SXs C st (sForget i t) := by
  obtain ⟨te, a1, a2⟩ := h
  refine ⟨te, a1, fun σ H S ρ F D P w q k1 k2 k3 k4 => ?_⟩
  obtain ⟨F1, Fi, F2, rfl, a, c⟩ := w.sl.at i
  have a : Aft C.K C.io (F1 ++ (Fi ++ F2)) S H σ S H σ (ρ.set i none) (F1 ++ F2) := by
    refine ⟨Step.refl.less fun x hx => by rcases List.mem_append.mp hx with z | z <;> simp [z], ⟨w.sub, w.imm, ?_, (List.nodup_append.mp (nodup_mid w.nd)).1⟩, .refl⟩
    cases e : σ[i]? with
    | none =>
      have c1 := (c S H none (.refl _) (fun _ _ _ e => e) fun _ _ e => e).1
      have : σ.set i none = σ := by rw [List.set_eq_of_length_le (by simpa using e)]
      rwa [this] at c1
    | some x =>
      have c1 := (c S H x (.refl _) (fun _ _ _ e => e) fun _ _ e => e).1
      rwa [set_same e] at c1
  exact a2 σ H S _ _ D P a.wd q (fun S2 H2 σ2 ρ2 F2 p2 q2 => k1 S2 H2 σ2 ρ2 F2 (a.trans p2) q2) (fun S2 H2 σ2 ρ2 F2 v d Fd p2 q2 => k2 S2 H2 σ2 ρ2 F2 v d Fd (.of a p2) q2)
    (fun S2 H2 σ2 ρ2 F2 p2 q2 => k3 S2 H2 σ2 ρ2 F2 (a.trans p2) q2) (fun S2 H2 σ2 ρ2 F2 p2 q2 => k4 S2 H2 σ2 ρ2 F2 (a.trans p2) q2)

/-! ### targets -/
abbrev TGx := D → En → (En → Prop) → Prop
/-- only these slots are stored to -/
structure Only (ws : List Nat) (σ σ' : St) : Prop where
  len : σ'.length = σ.length
  eq : ∀ i : Nat, i ∉ ws → σ'[i]? = σ[i]?
theorem Only.refl {ws : List Nat} {σ : St} : Only ws σ σ := ⟨rfl, fun _ _ => rfl⟩
theorem Only.trans {ws ws' : List Nat} {σ σ1 σ2 : St} (a : Only ws σ σ1) (b : Only ws' σ1 σ2) : Only (ws ++ ws') σ σ2 :=
  ⟨b.len.trans a.len, fun i h => (b.eq i fun z => h (by simp [z])).trans (a.eq i fun z => h (by simp [z]))⟩
theorem Only.kept {ws : List Nat} {io : List Bool} {σ σ' : St} (a : Only ws σ σ') (h : ∀ i ∈ ws, io[i]? ≠ some true) : Kept io σ σ' := fun i hi => a.eq i fun z => h i z hi
theorem only_set {σ : St} {i : Nat} {x : Option V} : Only [i] σ (σ.set i x) := ⟨List.length_set, fun j hj => List.getElem?_set_ne (fun e => hj (by simp [e]))⟩
def EG (C : SC) (tg : Expr) (ws : List Nat) (g : TGx) : Prop :=
  ∃ tv : TG, (∀ X, Fits C X → PG X tg tv) ∧ ∀ (σ : St) (H S : Hp) (ρ : En) (F : List Addr) (v : V) (d : D) (Fd : List Addr) (Q : En → Prop) (P : St → Hp → Prop), Wd C.K S H σ ρ F → RepO C.K S H d v Fd → (F ++ Fd).Nodup → g d ρ Q →
    (∀ σ' ρ' F', Wd C.K S H σ' ρ' F' → (∀ a ∈ F', a ∈ F ++ Fd) → Only ws σ σ' → Q ρ' → P σ' H) → tv v σ H P
def gN (i : Nat) : TGx := fun d ρ Q => i < ρ.length ∧ Q (ρ.set i (some d))
theorem set_sound {K : PySem.W.Frag} {S H : Hp} {σ : St} {ρ : En} {F Fd : List Addr} {v : V} {d : D} (i : Nat) (w : Wd K S H σ ρ F) (r : RepO K S H d v Fd) (nd : (F ++ Fd).Nodup) (hi : i < ρ.length) :
    ∃ F', Wd K S H (σ.set i (some v)) (ρ.set i (some d)) F' ∧ ∀ a ∈ F', a ∈ F ++ Fd := by
  obtain ⟨F1, Fi, F2, rfl, a, c⟩ := w.sl.at i
  have sl := (c S H (some v) (.refl _) (fun _ _ _ e => e) fun _ _ e => e).2.2 v d Fd rfl r hi
  obtain ⟨n1, n2, n3⟩ := List.nodup_append.mp nd
  obtain ⟨m1, m2, m3⟩ := List.nodup_append.mp (nodup_mid n1)
  refine ⟨F1 ++ (Fd ++ F2), ⟨w.sub, w.imm, sl, ?_⟩, fun x hx => ?_⟩
  · obtain ⟨o1, o2, o3⟩ := List.nodup_append.mp m1
    refine List.nodup_append.mpr ⟨o1, List.nodup_append.mpr ⟨n2, o2, fun x hx y hy e => n3 y (by simp [hy]) x hx e.symm⟩, fun x hx y hy e => ?_⟩
    rcases List.mem_append.mp hy with z | z
    · exact n3 x (by simp [hx]) y z e
    · exact o3 x hx y z e
  · rcases List.mem_append.mp hx with z | z
    · simp [z]
    · rcases List.mem_append.mp z with z | z <;> simp [z]
theorem kept_set {io : List Bool} {σ : St} {i : Nat} {x : Option V} (h : io[i]? ≠ some true) : Kept io σ (σ.set i x) := only_set.kept (by simpa using h)
theorem eg_name (i : Nat) {x : Str} {p : Pos} (hnd : C.N.Nodup) (hN : C.N[i]? = some x := by rfl) (hx : Loc C.sc x := by first | exact Or.inl rfl | exact Or.inr rfl)
    (hf : C.fn x = true ∨ C.sc.names.lookup x = some .local := by first | exact .inl rfl | exact .inr rfl | assumption) : EG C (.Name x p) [i] (gN i) := by
  refine ⟨gName i, fun X f => pg_name (by rw [f.N]; exact hnd) (by rw [f.N]; exact hN) (by rw [f.sc]; exact hx) (by rw [f.fn, f.sc]; exact hf), fun σ H S ρ F v d Fd Q P w r nd ⟨hi, q⟩ k => ?_⟩
  obtain ⟨F', w', hF⟩ := set_sound i w r nd hi
  exact k _ _ F' w' hF only_set q
/-- targets in a row -/
abbrev TGsx := List D → En → (En → Prop) → Prop
def EGs (C : SC) (tgs : List Expr) (ws : List Nat) (g : TGsx) : Prop :=
  ∃ tv : TGs, (∀ X, Fits C X → PGs X tgs tv) ∧ ∀ (σ : St) (H S : Hp) (ρ : En) (F : List Addr) (vs : List V) (ds : List D) (Fd : List Addr) (Q : En → Prop) (P : St → Hp → Prop), Wd C.K S H σ ρ F → RepOs C.K S H ds vs Fd → (F ++ Fd).Nodup → g ds ρ Q →
    (∀ σ' ρ' F', Wd C.K S H σ' ρ' F' → (∀ a ∈ F', a ∈ F ++ Fd) → Only ws σ σ' → Q ρ' → P σ' H) → tv vs σ H P
def gsN : TGsx := fun ds ρ Q => ds = [] ∧ Q ρ
def gsC (g : TGx) (h : TGsx) : TGsx := fun ds ρ Q => ∃ d r, ds = d :: r ∧ g d ρ fun ρ' => h r ρ' Q
theorem egs_nil : EGs C [] [] gsN := ⟨gNil, fun X f => pgs_nil, fun σ H S ρ F vs ds Fd Q P w r nd ⟨e, q⟩ k => by
  subst e
  simp only [RepOs] at r
  exact ⟨r.1, k σ ρ F w (fun a h => by simp [h]) .refl q⟩⟩
theorem egs_cons {t : Expr} {ts : List Expr} {ws ws' : List Nat} {g : TGx} {h : TGsx} (h1 : EG C t ws g) (h2 : EGs C ts ws' h) (hs : ∀ env, (assignEach (t :: ts) env).map (·.2) = assign t env :: (assignEach ts env).map (·.2) := by intro _; rfl) : EGs C (t :: ts) (ws ++ ws') (gsC g h) := by
  obtain ⟨tv, a1, a2⟩ := h1
  obtain ⟨tw, c1, c2⟩ := h2
  refine ⟨gCons tv tw, fun X f => pgs_cons (a1 X f) (c1 X f) (hs _), fun σ H S ρ F vs ds Fd Q P w r nd ⟨d, rr, e, q⟩ k => ?_⟩
  subst e
  simp only [RepOs] at r
  obtain ⟨v, ws, F1, F2, rfl, rfl, r1, r2⟩ := r
  have nd1 : (F ++ F1).Nodup := by
    obtain ⟨x1, x2, x3⟩ := List.nodup_append.mp nd
    exact List.nodup_append.mpr ⟨x1, (List.nodup_append.mp x2).1, fun a ha b hb => x3 a ha b (by simp [hb])⟩
  refine ⟨v, ws, rfl, a2 σ H S ρ F v d F1 _ _ w r1 nd1 q fun σ' ρ' F' w' hF kp q' => ?_⟩
  have nd2 : (F' ++ F2).Nodup := by
    obtain ⟨x1, x2, x3⟩ := List.nodup_append.mp nd
    obtain ⟨y1, y2, y3⟩ := List.nodup_append.mp x2
    refine List.nodup_append.mpr ⟨w'.nd, y2, fun a ha b hb e => ?_⟩
    rcases List.mem_append.mp (hF a ha) with z | z
    · exact x3 a z b (by simp [hb]) e
    · exact y3 a z b hb e
  refine c2 σ' H S ρ' F' ws rr F2 _ _ w' r2 nd2 q' fun σ2 ρ2 F3 w2 hF2 kp2 q2 => k σ2 ρ2 F3 w2 (fun a ha => ?_) (kp.trans kp2) q2
  rcases List.mem_append.mp (hF2 a ha) with z | z
  · rcases List.mem_append.mp (hF a z) with z | z <;> simp [z]
  · simp [z]
/-- a, b = a tuple -/
def gT (h : TGsx) (n : Nat) : TGx := fun d ρ Q => ∃ l, d = .tup l ∧ l.length = n ∧ h l ρ Q
theorem eg_tup {ts : List Expr} {ws : List Nat} {n : Nat} {kk : _} {p : Pos} {h : TGsx} (hh : EGs C ts ws h) (hn : ∀ env, (assignEach ts env).length = n := by intro _; rfl) (hst : ∀ env, (assignEach ts env).findIdx? (·.1) = none := by intro _; rfl) : EG C (.Tuple ts kk p) ws (gT h n) := by
  obtain ⟨tv, a1, a2⟩ := hh
  refine ⟨gTup C.K n tv, fun X f => by rw [← f.K]; exact pg_tup f.calm (a1 X f) (hn _) (hst _), fun σ H S ρ F v d Fd Q P w r nd ⟨l, e, hl, q⟩ k => ?_⟩
  subst e
  simp only [RepO, RepS] at r
  obtain ⟨⟨a, vs, rfl, e1, e2⟩, rfl⟩ := r
  exact ⟨a, vs, rfl, SqT.mono w.sub e1, by rw [e2.length, hl], a2 σ H S ρ F vs l [] Q P w (.of_pure e2) (by simpa using w.nd) q k⟩

/-! ### assignments -/
def envS (sc : Scope) : PySem.Env := ⟨sc, 0, 0, [], Str.empty, none, .none, none, 0⟩
theorem swapped_of {ts : List Expr} {v : Expr} {e1 e2 : PySem.Env} (h : e1.scope = e2.scope) : swappedStores ts v e1 = swappedStores ts v e2 := by
  cases e1; cases e2
  simp only at h
  subst h
  rfl

def sSet (t : TX) (g : TGx) : TSx := fun D ρ => t ρ fun d ρ' => g d ρ' D.nx
theorem set_aft {m : Bool} {S S1 H H1 : Hp} {σ σ' : St} {ρ ρ1 ρ' : En} {F F1 F' Fd : List Addr} {v : V} {d : D} (p1 : Po C.K true m F S H σ ρ S1 H1 ρ1 F1 v d Fd) (w' : Wd C.K S1 H1 σ' ρ' F') (hF : ∀ a ∈ F', a ∈ F1 ++ Fd) (kp : Kept C.io σ σ') :
    Aft C.K C.io F S H σ S1 H1 σ' ρ' F' :=
  ⟨⟨p1.step.s, p1.step.h, p1.step.new, fun a ha => by
    rcases List.mem_append.mp (hF a ha) with z | z
    · exact p1.step.fp a z
    · exact (p1.fr rfl).2 a z⟩, w', kp⟩
theorem sx_set {x : Str} {p' pos : Pos} {e : Expr} {m : Bool} {t : TX} (i : Nat) (hnd : C.N.Nodup) (he : EX C e true m t) (hN : C.N[i]? = some x := by rfl) (hx : Loc C.sc x := by first | exact Or.inl rfl | exact Or.inr rfl)
    (hf : C.fn x = true ∨ C.sc.names.lookup x = some .local := by first | exact .inl rfl | exact .inr rfl | assumption) (hio : C.io[i]? ≠ some true := by first | decide | simp)
    (hs : ∀ env, swapsWith e (some (.Name x p')) pos.line env = pure false := by intro _; rfl) : SX C (.Assign [.Name x p'] e pos) (sSet t (gN i)) := by
  obtain ⟨te, a1, a2⟩ := he
  refine ⟨tAsg te (gName i), fun X f => ps_set (by rw [f.N]; exact hnd) (by rw [f.N]; exact hN) (by rw [f.sc]; exact hx) (a1 X f) (hs _) (by rw [f.fn, f.sc]; exact hf), fun σ H S ρ F D P w h k1 k2 k3 k4 => ?_⟩
  refine a2 σ H S ρ F _ _ w h fun v d S1 H1 ρ1 F1 Fd p1 ⟨hi, q1⟩ => ?_
  obtain ⟨F', w', hF⟩ := set_sound i p1.wd p1.rep (p1.fr rfl).1 hi
  exact k1 _ _ _ _ _ (set_aft p1 w' hF (kept_set hio)) q1
theorem sx_asg {tg e : Expr} {pos : Pos} {m : Bool} {t : TX} {ws : List Nat} {g : TGx} (he : EX C e true m t) (hg : EG C tg ws g) (hio : ∀ i ∈ ws, C.io[i]? ≠ some true := by first | decide | simp) (hs : ∀ env, swapsWithSole [tg] e pos.line env = pure false := by intro _; rfl) (hw : ∀ env, swappedStores [tg] e env = pure none := by intro _; rfl)
    (h1 : ∀ env, (assignEach [tg] env).map (·.2) = [assign tg env] := by intro _; rfl) : SX C (.Assign [tg] e pos) (sSet t g) := by
  obtain ⟨te, a1, a2⟩ := he
  obtain ⟨tv, c1, c2⟩ := hg
  refine ⟨tAsg te tv, fun X f => ps_asg (a1 X f) (c1 X f) (hs _) (hw _) (h1 _), fun σ H S ρ F D P w h k1 k2 k3 k4 => ?_⟩
  refine a2 σ H S ρ F _ _ w h fun v d S1 H1 ρ1 F1 Fd p1 q1 => ?_
  exact c2 σ H1 S1 ρ1 F1 v d Fd D.nx P.nx p1.wd p1.rep (p1.fr rfl).1 q1 fun σ' ρ' F' w' hF kp q' => k1 _ _ _ _ _ (set_aft p1 w' hF (kp.kept hio)) q'
/-- a, b = x, y with local names: no tuple is made -/
def sPar (t : TXs) (h : TGsx) : TSx := fun D ρ => t ρ fun ds ρ' => h ds ρ' D.nx
theorem pos_aft {m : Bool} {S S1 H H1 : Hp} {σ σ' : St} {ρ ρ1 ρ' : En} {F F1 F' Fd : List Addr} {v : List V} {d : List D} (p1 : PoA C.K true m F S H σ ρ S1 H1 ρ1 F1 v d Fd) (w' : Wd C.K S1 H1 σ' ρ' F') (hF : ∀ a ∈ F', a ∈ F1 ++ Fd) (kp : Kept C.io σ σ') :
    Aft C.K C.io F S H σ S1 H1 σ' ρ' F' :=
  ⟨⟨p1.step.s, p1.step.h, p1.step.new, fun a ha => by
    rcases List.mem_append.mp (hF a ha) with z | z
    · exact p1.step.fp a z
    · exact (p1.fr rfl).2 a z⟩, w', kp⟩
theorem sx_par2 {x y : Str} {a b : Expr} {px py pt pos : Pos} {kt k2 pt2} {m : Bool} {t : TXs} (i j : Nat) (hnd : C.N.Nodup) (hab : EA C [a, b] true m t) (hN : C.N[i]? = some x := by rfl) (hN2 : C.N[j]? = some y := by rfl) (hij : i ≠ j := by decide)
    (hx : C.sc.names.lookup x = some .local := by rfl) (hy : C.sc.names.lookup y = some .local := by rfl) (hio : C.io[i]? ≠ some true := by first | decide | simp) (hio2 : C.io[j]? ≠ some true := by first | decide | simp)
    (hw : swappedStores [.Tuple [.Name x px, .Name y py] kt pt] (.Tuple [a, b] k2 pt2) (envS C.sc) = pure (some [x, y]) := by rfl)
    (hs : ∀ env, swapsWithSole [.Tuple [.Name x px, .Name y py] kt pt] (.Tuple [a, b] k2 pt2) pos.line env = pure false := by intro _; rfl) :
    SX C (.Assign [.Tuple [.Name x px, .Name y py] kt pt] (.Tuple [a, b] k2 pt2) pos) (sPar t (gsC (gN i) (gsC (gN j) gsN))) := by
  obtain ⟨te, a1, a2⟩ := hab
  refine ⟨tPar i j te, fun X f => ps_par f.calm (by rw [f.N]; exact hnd) (by rw [f.N]; exact hN) (by rw [f.N]; exact hN2) hij (by rw [f.sc]; exact hx) (by rw [f.sc]; exact hy) (a1 X f) ((swapped_of (by rw [f.sc]; rfl)).trans hw) (hs _), fun σ H S ρ F D P w h k1 k2 k3 k4 => ?_⟩
  refine a2 σ H S ρ F _ _ w h fun vs ds S1 H1 ρ1 F1 Fd p1 q1 => ?_
  obtain ⟨d1, r1, rfl, hi, d2, r2, rfl, hj, rfl, q⟩ := q1
  have rp := p1.rep
  simp only [RepOs] at rp
  obtain ⟨v1, ws, G1, G2, rfl, rfl, e1, v2, w2, G3, G4, rfl, rfl, e2, rfl, rfl⟩ := rp
  refine ⟨v1, v2, rfl, ?_⟩
  have nd := (p1.fr rfl).1
  have nd1 : (F1 ++ G1).Nodup := by
    obtain ⟨x1, x2, x3⟩ := List.nodup_append.mp nd
    exact List.nodup_append.mpr ⟨x1, (List.nodup_append.mp x2).1, fun a ha b hb => x3 a ha b (by simp [hb])⟩
  obtain ⟨F', w', hF⟩ := set_sound i p1.wd e1 nd1 hi
  have nd2 : (F' ++ G3).Nodup := by
    obtain ⟨x1, x2, x3⟩ := List.nodup_append.mp nd
    obtain ⟨y1, y2, y3⟩ := List.nodup_append.mp x2
    refine List.nodup_append.mpr ⟨w'.nd, (List.nodup_append.mp y2).1, fun a ha b hb e => ?_⟩
    rcases List.mem_append.mp (hF a ha) with z | z
    · exact x3 a z b (by simp [hb]) e
    · exact y3 a z b (by simp [hb]) e
  obtain ⟨F2, w2, hF2⟩ := set_sound j w' e2 nd2 hj
  refine k1 _ _ _ _ _ (pos_aft p1 w2 (fun a ha => ?_) ((kept_set hio).trans (kept_set hio2))) q
  rcases List.mem_append.mp (hF2 a ha) with z | z
  · rcases List.mem_append.mp (hF a z) with z | z <;> simp [z]
  · simp [z]

/-! ### expressions, returns, tests -/
def sEx (t : TX) : TSx := fun D ρ => t ρ fun _ ρ' => D.nx ρ'
theorem sx_expr {e : Expr} {b m : Bool} {t : TX} {pos : Pos} (he : EX C e b m t) (hs : ∀ env, swapsWith e none pos.line env = pure false := by intro _; rfl) : SX C (.Expr e pos) (sEx t) := by
  obtain ⟨te, a1, a2⟩ := he
  exact ⟨tDrop te, fun X f => ps_expr (a1 X f) (hs _), fun σ H S ρ F D P w h k1 k2 k3 k4 => a2 σ H S ρ F _ _ w h fun v d S1 H1 ρ1 F1 Fd p1 q1 => k1 _ _ _ _ _ p1.aft q1⟩
def sRet (t : TX) : TSx := fun D ρ => t ρ D.rt
theorem sx_ret {e : Expr} {m : Bool} {t : TX} {pos : Pos} (he : EX C e true m t) : SX C (.Return (some e) pos) (sRet t) := by
  obtain ⟨te, a1, a2⟩ := he
  exact ⟨tRet te, fun X f => ps_ret (a1 X f), fun σ H S ρ F D P w h k1 k2 k3 k4 => a2 σ H S ρ F _ _ w h fun v d S1 H1 ρ1 F1 Fd p1 q1 => k2 _ _ _ _ _ _ _ _ p1.ret q1⟩
def sRetN : TSx := fun D ρ => D.rt .non ρ
theorem sx_retN {pos : Pos} : SX C (.Return none pos) sRetN :=
  ⟨_, fun X f => ps_retN, fun σ H S ρ F D P w h k1 k2 k3 k4 => k2 _ _ _ _ _ _ _ _ (Po.ret (m := false) (.val w (by simp only [RepS]))) h⟩
theorem sx_pass {pos : Pos} : SX C (.Pass pos) sN := ⟨_, fun X f => ps_pass, fun σ H S ρ F D P w h k1 k2 k3 k4 => k1 _ _ _ _ _ (.refl w) h⟩
def sBk : TSx := fun D ρ => D.bk ρ
def sCt : TSx := fun D ρ => D.ct ρ
theorem sx_break {pos : Pos} : SX C (.Break pos) sBk := ⟨_, fun X f => ps_break, fun σ H S ρ F D P w h k1 k2 k3 k4 => k3 _ _ _ _ _ (.refl w) h⟩
theorem sx_cont {pos : Pos} : SX C (.Continue pos) sCt := ⟨_, fun X f => ps_continue, fun σ H S ρ F D P w h k1 k2 k3 k4 => k4 _ _ _ _ _ (.refl w) h⟩
def sIf (c : TB) (t u : TSx) : TSx := fun D ρ => c ρ fun k ρ' => if k = true then t D ρ' else u D ρ'
theorem SRun.after {ts : TS} {t : TSx} (h : SRun C ts t) {F F1 : List Addr} {S S1 H H1 : Hp} {σ σ1 : St} {ρ1 : En} (a : Aft C.K C.io F S H σ S1 H1 σ1 ρ1 F1) {D : DE} {P : Ends} (q : t D ρ1)
    (k1 : ∀ S' H' σ' ρ' F', Aft C.K C.io F S H σ S' H' σ' ρ' F' → D.nx ρ' → P.nx σ' H') (k2 : ∀ S' H' σ' ρ' F' v d Fd, Ret C.K C.io F S H σ S' H' σ' ρ' F' v d Fd → D.rt d ρ' → P.rt v H')
    (k3 : ∀ S' H' σ' ρ' F', Aft C.K C.io F S H σ S' H' σ' ρ' F' → D.bk ρ' → P.bk σ' H') (k4 : ∀ S' H' σ' ρ' F', Aft C.K C.io F S H σ S' H' σ' ρ' F' → D.ct ρ' → P.ct σ' H') : ts P σ1 H1 :=
  h σ1 H1 S1 ρ1 F1 D P a.wd q (fun S2 H2 σ2 ρ2 F2 p2 q2 => k1 S2 H2 σ2 ρ2 F2 (a.trans p2) q2) (fun S2 H2 σ2 ρ2 F2 v d Fd p2 q2 => k2 S2 H2 σ2 ρ2 F2 v d Fd (.of a p2) q2)
    (fun S2 H2 σ2 ρ2 F2 p2 q2 => k3 S2 H2 σ2 ρ2 F2 (a.trans p2) q2) (fun S2 H2 σ2 ρ2 F2 p2 q2 => k4 S2 H2 σ2 ρ2 F2 (a.trans p2) q2)
theorem sx_if {c : Expr} {a b : List Stmt} {m : Bool} {tc : TB} {t u : TSx} {pos : Pos} (hc : EB C c m tc) (ha : SXs C a t) (hb : SXs C b u) : SX C (.If c a b pos) (sIf tc t u) := by
  obtain ⟨te, a1, a2⟩ := hc
  obtain ⟨ta, b1, b2⟩ := ha
  obtain ⟨tb, c1, c2⟩ := hb
  refine ⟨tIfS te ta tb, fun X f => ps_if (a1 X f) (b1 X f) (c1 X f), fun σ H S ρ F D P w h k1 k2 k3 k4 => ?_⟩
  refine a2 σ H S ρ F _ _ w h fun k S1 H1 ρ1 F1 p1 q1 => ?_
  cases k with
  | true =>
    rw [if_pos rfl] at q1 ⊢
    exact b2.after p1.aft q1 k1 k2 k3 k4
  | false =>
    rw [if_neg Bool.false_ne_true] at q1 ⊢
    exact c2.after p1.aft q1 k1 k2 k3 k4
/-- a try whose body raises nothing -/
theorem sx_try {body : List Stmt} {h₀ : ExceptHandler} {hs : List ExceptHandler} {t : TSx} {pos : Pos} (hb : SXs C body t) : SX C (.Try body (h₀ :: hs) [] [] pos) t := by
  obtain ⟨tb, b1, b2⟩ := hb
  refine ⟨tb, fun X f => ?_, b2⟩
  refine ps_try_thru0 (b1 X.nox ⟨f.prog, f.w, f.K, f.mg, f.base, f.N, f.sc, f.calm, f.room, rfl, f.fn⟩)
end
end VL

set_option Elab.async false
set_option linter.all false
set_option maxRecDepth 100000
set_option maxHeartbeats 1000000
/-! VH: what is walked, loops. -/
namespace VL
open PySem L2
/-- what an iterator yields is what stands in xs, for good; HS holds what it walks, S0 what is in it -/
structure ItS (K : PySem.W.Frag) (J : It) (HS S0 : Hp) (xs : List D) : Prop where
  go : ∀ (H : Hp) (i : Nat), Same HS H → i < xs.length → J.go i H
  stop : ∀ (H : Hp) (i : Nat), Same HS H → xs.length ≤ i → J.stop i H
  yld : ∀ (S H : Hp) (i : Nat) (x : V) (H' : Hp), Same HS H → Same S0 S → Same S H → Imm S H → i < xs.length → J.yld i H x H' → ∃ S' d, xs[i]? = some d ∧ Qt K false S H S' H' x d [] ∧ d.pure = true
section
variable {C : SC}
def EI (C : SC) (br : Bool) (tg iter : Expr) (m : Bool) (t : TXs) : Prop :=
  ∃ wi : TI, (∀ X, Fits C X → PI X tg iter wi) ∧ ∀ (σ : St) (H S : Hp) (ρ : En) (F : List Addr) (Q : List D → En → Prop) (R : It → Hp → Prop), Wd C.K S H σ ρ F → t ρ Q →
    (∀ J xs S' H' ρ' F', Po C.K true m F S H σ ρ S' H' ρ' F' .non .non [] → ItS C.K J (if br = true then H' else S') S' xs → Q xs ρ' → R J H') → wi σ H R
/-- a list or a tuple -/
def iSq (K : PySem.W.Frag) (tl : TE) : TI := fun σ H R => tl σ H fun x H1 => ∃ a, x = .ref a ∧ ((∃ xs, SqL K H1 a xs) ∧ R (Itl K a) H1 ∨ (∃ xs, SqT K H1 a xs) ∧ R (Itt K a) H1)
theorem pi_sq {X : Cx} {tg l : Expr} {tl : TE} (hl : PE X l tl) : PI X tg l (iSq X.K tl) := by
  refine ⟨fun pins s σ H R I h => ?_⟩
  refine thn (hl.run pins s σ H _ I h) fun v s1 ⟨x, H1, I1, r1, q1⟩ => ?_
  obtain ⟨a, e, q1⟩ := q1
  subst e
  cases r1
  rcases q1 with ⟨⟨xs, hq⟩, q⟩ | ⟨⟨xs, hq⟩, q⟩
  · obtain ⟨its, rv, p, hz⟩ := I1.list hq
    refine PySem.wpAny_pyIter_list p.isList ?_
    refine ⟨s1.heap.objs.size, [s1.heap.objs.size], _, _, H1, rfl, I1.kept (t' := s1.toks) fun b o e => Heap.get?_push_of_some _ e, turn_list a _, ⟨_, Heap.get?_push_size _ rfl, rfl, rfl⟩, fun b hb => ?_, q⟩
    have e : b = s1.heap.objs.size := by simpa using hb
    subst e
    exact I1.fpOk (Nat.le_refl _) (I1.hok.fresh (Nat.le_refl _))
  · obtain ⟨its, rv, p, hz⟩ := I1.tuple hq
    refine PySem.wpAny_pyIter_tuple (show s1.heap.IsTuple a its.toArray from p) ?_
    refine ⟨s1.heap.objs.size, [s1.heap.objs.size], _, _, H1, rfl, I1.kept (t' := s1.toks) fun b o e => Heap.get?_push_of_some _ e, turn_tuple a _, ⟨_, Heap.get?_push_size _ rfl, rfl, rfl⟩, fun b hb => ?_, q⟩
    have e : b = s1.heap.objs.size := by simpa using hb
    subst e
    exact I1.fpOk (Nat.le_refl _) (I1.hok.fresh (Nat.le_refl _))
theorem seqL_one {K : PySem.W.Frag} {H : Hp} {a : Addr} {xs ys : List V} (h : SqL K H a xs) (h' : SqL K H a ys) : True := trivial
theorem Qt.same {K : PySem.W.Frag} {S H : Hp} {x : V} {d : D} (sub : Same S H) (im : Imm S H) (r : RepS K S d x) : Qt K false S H S H x d [] := .val sub im r
theorem its_list {K : PySem.W.Frag} {HS S0 : Hp} {a : Addr} {vs : List V} {xs : List D} (h : SqL K HS a vs) (r : RepSs K S0 xs vs) : ItS K (Itl K a) HS S0 xs where
  go := fun H i s1 hi => by
    have : i < vs.length := by rw [r.length]; exact hi
    exact ⟨vs, vs[i], s1.seq h, by simp [this]⟩
  stop := fun H i s1 hi => ⟨vs, s1.seq h, by rw [r.length]; exact hi⟩
  yld := fun S H i x H' s1 s0 s2 im hi y => by
    obtain ⟨rfl, y⟩ := y
    have e := y vs (s1.seq h)
    obtain ⟨d, e1, e2⟩ := r.getV e
    exact ⟨S, d, e1, .same s2 im (e2.mono s0), e2.pure⟩
theorem its_tup {K : PySem.W.Frag} {HS S0 : Hp} {a : Addr} {vs : List V} {xs : List D} (h : SqT K HS a vs) (r : RepSs K S0 xs vs) : ItS K (Itt K a) HS S0 xs where
  go := fun H i s1 hi => by
    have : i < vs.length := by rw [r.length]; exact hi
    exact ⟨vs, vs[i], SqT.mono s1 h, by simp [this]⟩
  stop := fun H i s1 hi => ⟨vs, SqT.mono s1 h, by rw [r.length]; exact hi⟩
  yld := fun S H i x H' s1 s0 s2 im hi y => by
    obtain ⟨rfl, y⟩ := y
    have e := y vs (SqT.mono s1 h)
    obtain ⟨d, e1, e2⟩ := r.getV e
    exact ⟨S, d, e1, .same s2 im (e2.mono s0), e2.pure⟩
/-- a thing of one's own is laid down for good -/
theorem Po.frz {K : PySem.W.Frag} {m : Bool} {S S' H H' : Hp} {σ : St} {ρ ρ' : En} {F F' Fd : List Addr} {v : V} {d : D} (p : Po K true m F S H σ ρ S' H' ρ' F' v d Fd) :
    ∃ S2, Same S' S2 ∧ RepS K S2 d.view v ∧ ∀ (b : Bool), Po K b m F S H σ ρ S2 H' ρ' F' v d.view [] := by
  obtain ⟨S2, s1, s2, s3, s4, s5⟩ := frz_rep p.wd.sub p.rep
  obtain ⟨nd, fr⟩ := p.fr rfl
  have dis : ∀ a ∈ F', a ∉ Fd := fun a ha hb => (List.nodup_append.mp nd).2.2 a ha a hb rfl
  refine ⟨S2, s1, s3, fun b => ⟨⟨p.step.s.trans s1, p.step.h, fun a o e => ?_, p.step.fp⟩, ⟨s2, fun a o e => ?_, p.wd.sl.mono s1 (fun _ _ _ e => e) fun a ha e => by rw [s5 a (dis a ha)]; exact e, p.wd.nd⟩, .of_pure s3, fun _ => ⟨by simpa using p.wd.nd, fun _ h => by cases h⟩, fun hm => ?_⟩⟩
  · rcases s4 a o e with z | z
    · exact p.step.new a o z
    · rcases fr a z with z | z
      · exact .inr (.inl z)
      · exact .inr (.inr z)
  · rcases p.wd.imm a o e with z | z
    · exact .inl z
    · exact .inr (s1 a o z)
  · obtain ⟨x1, x2, x3, x4⟩ := p.un hm
    refine ⟨x1, x2, x3, fun a o e => ?_⟩
    rcases s4 a o e with z | z
    · exact x4 a o z
    · refine .inr ?_
      cases q : H a with
      | none => rfl
      | some u =>
        rcases fr a z with w | w
        · rw [x2] at dis; exact absurd z (dis a w)
        · rw [w] at q; cases q
def iSqx (t : TX) : TXs := fun ρ Q => t ρ fun d ρ' => ∃ xs, d.items = some xs ∧ pureL xs = true ∧ Q xs ρ'
theorem ei_seq {tg e : Expr} {m : Bool} {t : TX} (h : EX C e true m t) : EI C false tg e m (iSqx t) := by
  obtain ⟨te, a1, a2⟩ := h
  refine ⟨iSq C.K te, fun X f => by rw [← f.K]; exact pi_sq (a1 X f), fun σ H S ρ F Q R w q k => ?_⟩
  refine a2 σ H S ρ F _ _ w q fun v d S1 H1 ρ1 F1 Fd p ⟨xs, hx, hp, q1⟩ => ?_
  obtain ⟨S2, s1, s2, s3⟩ := p.frz
  have p' := (s3 true).tst
  cases d <;> simp only [D.items] at hx <;> first | cases hx | skip
  · rw [D.view_pure _ (by simpa [D.pure] using hp)] at s2
    simp only [RepS] at s2
    obtain ⟨a, vs, rfl, e1, e2⟩ := s2
    exact ⟨a, rfl, .inr ⟨⟨vs, SqT.mono p'.wd.sub e1⟩, k _ _ S2 H1 ρ1 F1 p' (its_tup e1 e2) q1⟩⟩
  · rw [D.view_pure _ (by simpa [D.pure] using hp)] at s2
    simp only [RepS] at s2
    obtain ⟨a, vs, rfl, e1, e2⟩ := s2
    exact ⟨a, rfl, .inl ⟨⟨vs, p'.wd.sub.seq e1⟩, k _ _ S2 H1 ρ1 F1 p' (its_list e1 e2) q1⟩⟩
  · simp only [D.view, viewL_pure _ hp, RepS] at s2
    obtain ⟨a, vs, rfl, e1, e2⟩ := s2
    exact ⟨a, rfl, .inl ⟨⟨vs, p'.wd.sub.seq e1⟩, k _ _ S2 H1 ρ1 F1 p' (its_list e1 e2) q1⟩⟩
/-- what another owns may be walked where nothing changes -/
theorem ei_seqB {tg e : Expr} {b m : Bool} {t : TX} (h : EX C e b m t) : EI C true tg e m (iSqx t) := by
  obtain ⟨te, a1, a2⟩ := h
  refine ⟨iSq C.K te, fun X f => by rw [← f.K]; exact pi_sq (a1 X f), fun σ H S ρ F Q R w q k => ?_⟩
  refine a2 σ H S ρ F _ _ w q fun v d S1 H1 ρ1 F1 Fd p ⟨xs, hx, hp, q1⟩ => ?_
  obtain ⟨a, vs, G, rfl, r1, _, r2⟩ := items_rep p.wd.sub hx p.rep
  have r3 := (r1.to_pure hp).1
  rcases r2 with ⟨r2, _⟩ | ⟨r2, _⟩
  · exact ⟨a, rfl, .inl ⟨⟨vs, r2⟩, k _ _ S1 H1 ρ1 F1 p.tst (its_list r2 r3) q1⟩⟩
  · exact ⟨a, rfl, .inr ⟨⟨vs, r2⟩, k _ _ S1 H1 ρ1 F1 p.tst (its_tup r2 r3) q1⟩⟩
/-- range -/
def rangeD (lo : Int) (n : Nat) : List D := (List.range n).map fun (i : Nat) => D.int (lo + i)
theorem its_range {K : PySem.W.Frag} {HS S0 : Hp} {lo : Int} {n : Nat} : ItS K (Itr lo n) HS S0 (rangeD lo n) where
  go := fun H i s1 hi => by simpa [rangeD, Itr] using hi
  stop := fun H i s1 hi => by simpa [rangeD, Itr] using hi
  yld := fun S H i x H' s1 s0 s2 im hi y => by
    obtain ⟨rfl, rfl⟩ := y
    have hi' : i < n := by simpa [rangeD] using hi
    exact ⟨S, .int (lo + i), by simp [rangeD, hi'], .same s2 im (by simp only [RepS]), rfl⟩
def iRg1 (t : TXs) : TXs := fun ρ Q => t ρ fun ds ρ' => ∃ j : Int, ds = [.int j] ∧ -(2 ^ 62) ≤ j ∧ j < 2 ^ 62 ∧ Q (rangeD 0 j.toNat) ρ'
theorem PoA.tst {K : PySem.W.Frag} {b m : Bool} {S S' H H' : Hp} {σ : St} {ρ ρ' : En} {F F' Fd : List Addr} {v : List V} {d : List D} (p : PoA K b m F S H σ ρ S' H' ρ' F' v d Fd) : Po K true m F S H σ ρ S' H' ρ' F' .non .non [] :=
  ⟨p.step, p.wd, by simp only [RepO, RepS]; exact ⟨trivial, trivial⟩, fun _ => ⟨by simpa using p.wd.nd, fun _ h => by cases h⟩, p.un⟩
theorem ei_range1 {tg a : Expr} {p pos : Pos} {b m : Bool} {t : TXs} (ha : EA C [a] b m t) (hg : C.sc.names.lookup ("range" : Str) = some .globalImplicit) (hm : C.mg "range" = none)
    (hs : ∀ env, starEach [a] env = [(false, eval a env)] := by intro _; rfl) : EI C false tg (.Call (.Name "range" p) [a] [] pos) m (iRg1 t) := by
  obtain ⟨te, a1, a2⟩ := ha
  refine ⟨iRng1 te, fun X f => pi_range1 (by show X.env.scope.names.lookup _ = _; rw [f.sc]; exact hg) (by rw [f.mg]; exact hm) (a1 X f) (hs _), fun σ H S ρ F Q R w q k => ?_⟩
  refine a2 σ H S ρ F _ _ w q fun vs ds S1 H1 ρ1 F1 Fd p ⟨j, e, h1, h2, q1⟩ => ?_
  subst e
  obtain ⟨v, rfl, r⟩ := p.rep.one
  obtain rfl := r.int_inv
  exact ⟨j, rfl, h1, h2, k _ _ S1 H1 ρ1 F1 p.tst its_range q1⟩
def iRg2 (t : TXs) : TXs := fun ρ Q => t ρ fun ds ρ' => ∃ i j : Int, ds = [.int i, .int j] ∧ (-(2 ^ 62) ≤ i ∧ i < 2 ^ 62 ∧ -(2 ^ 62) ≤ j ∧ j < 2 ^ 62) ∧ Q (rangeD i (j - i).toNat) ρ'
theorem ei_range2 {tg a b' : Expr} {p pos : Pos} {b m : Bool} {t : TXs} (ha : EA C [a, b'] b m t) (hg : C.sc.names.lookup ("range" : Str) = some .globalImplicit) (hm : C.mg "range" = none)
    (hs : ∀ env, starEach [a, b'] env = [(false, eval a env), (false, eval b' env)] := by intro _; rfl) (hs2 : ∀ env, starEach [b'] env = [(false, eval b' env)] := by intro _; rfl) : EI C false tg (.Call (.Name "range" p) [a, b'] [] pos) m (iRg2 t) := by
  obtain ⟨te, a1, a2⟩ := ha
  refine ⟨iRng2 te, fun X f => pi_range2 (by show X.env.scope.names.lookup _ = _; rw [f.sc]; exact hg) (by rw [f.mg]; exact hm) (a1 X f) (hs _) (hs2 _), fun σ H S ρ F Q R w q k => ?_⟩
  refine a2 σ H S ρ F _ _ w q fun vs ds S1 H1 ρ1 F1 Fd p ⟨i, j, e, h1, q1⟩ => ?_
  subst e
  obtain ⟨v, v2, G1, G2, rfl, r1, r2⟩ := p.rep.two
  obtain rfl := r1.int_inv
  obtain rfl := r2.int_inv
  exact ⟨i, j, rfl, h1, k _ _ S1 H1 ρ1 F1 p.tst its_range q1⟩

/-! ### for -/
def sFor (ti : TXs) (g : TGx) (tb : TSx) : TSx := fun D' ρ => ti ρ fun xs ρ1 => ∃ I : List D → En → Prop, I [] ρ1 ∧
  (∀ (pre : List D) (x : D) (post : List D) (ρ : En), xs = pre ++ x :: post → I pre ρ → g x ρ fun ρ' => tb { D' with nx := I (pre ++ [x]), ct := I (pre ++ [x]), bk := D'.nx } ρ') ∧ ∀ ρ, I xs ρ → D'.nx ρ
theorem sx_for {tg iter : Expr} {body : List Stmt} {m : Bool} {ws : List Nat} {ti : TXs} {g : TGx} {tb : TSx} {pos : Pos} (hi : EI C false tg iter m ti) (hg : EG C tg ws g) (hb : SXs C body tb) (hio : ∀ i ∈ ws, C.io[i]? ≠ some true := by first | decide | simp)
    (hs : ∀ env x, foldedSetIterable iter env x = pure x := by intro _ _; rfl) : SX C (.For tg iter body [] pos) (sFor ti g tb) := by
  obtain ⟨wi, a1, a2⟩ := hi
  obtain ⟨tv, c1, c2⟩ := hg
  obtain ⟨te, b1, b2⟩ := hb
  refine ⟨tFor wi tv te, fun X f => ps_for (by rw [f.xe]; exact PassesOwn.never) f.calm (a1 X f) (c1 X f) (b1 X f) (hs _), fun σ H S ρ F D' P w q k1 k2 k3 k4 => ?_⟩
  refine a2 σ H S ρ F _ _ w q fun J xs S1 H1 ρ1 F1 p its ⟨I, i0, it, iz⟩ => ?_
  have A1 : Aft C.K C.io F S H σ S1 H1 σ ρ1 F1 := p.aft
  refine ⟨fun i m σ' H' => ∃ S' ρ' F', Aft C.K C.io F1 S1 H1 σ S' H' σ' ρ' F' ∧ m = xs.length - i ∧ i ≤ xs.length ∧ I (xs.take i) ρ', ⟨xs.length, S1, ρ1, F1, .refl p.wd, by simp, Nat.zero_le _, by simpa using i0⟩, ?_⟩
  rintro i m σ2 H2 ⟨S2, ρ2, F2, A2, rfl, hi, iv⟩
  by_cases hlt : i < xs.length
  · refine .inr ⟨its.go H2 i (A2.step.s.trans A2.wd.sub) hlt, fun σ' H' => ∃ S' ρ' F', Aft C.K C.io F1 S1 H1 σ S' H' σ' ρ' F' ∧ I (xs.take (i + 1)) ρ', fun σ' H' ⟨S', ρ', F', A', iv'⟩ => ⟨xs.length - (i + 1), by omega, S', ρ', F', A', rfl, hlt, iv'⟩, fun x H' y => ?_⟩
    obtain ⟨S3, d, e1, t, dp⟩ := its.yld S2 H2 i x H' (A2.step.s.trans A2.wd.sub) A2.step.s A2.wd.sub A2.wd.imm hlt y
    have p3 : Po C.K false false F2 S2 H2 σ2 ρ2 S3 H' ρ2 F2 x d [] := .quiet A2.wd t.s t.h t.sub t.im t.n t.rep fun z => by cases z
    have ex : xs = xs.take i ++ d :: xs.drop (i + 1) := by
      have hd : xs[i] = d := by
        have := (List.getElem?_eq_some_iff.mp e1).2
        exact this
      rw [← hd, List.getElem_cons_drop, List.take_append_drop]
    have e2 : xs.take (i + 1) = xs.take i ++ [d] := by
      have hd : xs[i] = d := (List.getElem?_eq_some_iff.mp e1).2
      rw [List.take_succ_eq_append_getElem hlt, hd]
    refine c2 σ2 H' S3 ρ2 F2 x d [] _ _ p3.wd p3.rep (by simpa using p3.wd.nd) (it _ d _ ρ2 ex iv) fun σ4 ρ4 F4 w4 hF4 o4 q4 => ?_
    have A4 : Aft C.K C.io F1 S1 H1 σ S3 H' σ4 ρ4 F4 := A2.trans (Aft.trans p3.aft ⟨Step.refl.less fun a ha => by simpa using hF4 a ha, w4, o4.kept hio⟩)
    refine b2.after A4 (D := { D' with nx := I (xs.take i ++ [d]), ct := I (xs.take i ++ [d]), bk := D'.nx }) q4 (fun S' H' σ' ρ' F' a q => ⟨S', ρ', F', a, by rw [e2]; exact q⟩) (fun S' H' σ' ρ' F' v d Fd a q => k2 _ _ _ _ _ _ _ _ (.of A1 a) q)
      (fun S' H' σ' ρ' F' a q => k1 _ _ _ _ _ (A1.trans a) q) fun S' H' σ' ρ' F' a q => ⟨S', ρ', F', a, by rw [e2]; exact q⟩
  · have e : i = xs.length := by omega
    subst e
    exact .inl ⟨its.stop H2 _ (A2.step.s.trans A2.wd.sub) (Nat.le_refl _), k1 _ _ _ _ _ (A1.trans A2) (iz ρ2 (by simpa using iv))⟩
/-! ### while -/
def sWhile (c : TB) (tb : TSx) : TSx := fun D' ρ => ∃ I : Nat → En → Prop, (∃ n, I n ρ) ∧ ∀ n ρ, I n ρ → c ρ fun k ρ' => if k = true then tb { D' with nx := fun ρ => ∃ m, m < n ∧ I m ρ, ct := fun ρ => ∃ m, m < n ∧ I m ρ, bk := D'.nx } ρ' else D'.nx ρ'
theorem sx_while {c : Expr} {body : List Stmt} {m : Bool} {tc : TB} {tb : TSx} {pos : Pos} (hc : EB C c m tc) (hb : SXs C body tb) : SX C (.While c body [] pos) (sWhile tc tb) := by
  obtain ⟨te, a1, a2⟩ := hc
  obtain ⟨tt, b1, b2⟩ := hb
  refine ⟨tWhile te tt, fun X f => ps_while (by rw [f.xe]; exact PassesOwn.never) (a1 X f) (b1 X f), fun σ H S ρ F D' P w ⟨I, ⟨n0, i0⟩, it⟩ k1 k2 k3 k4 => ?_⟩
  refine ⟨fun n σ' H' => ∃ S' ρ' F', Aft C.K C.io F S H σ S' H' σ' ρ' F' ∧ I n ρ', ⟨n0, S, ρ, F, .refl w, i0⟩, ?_⟩
  rintro n σ2 H2 ⟨S2, ρ2, F2, A2, iv⟩
  refine a2 σ2 H2 S2 ρ2 F2 _ _ A2.wd (it n ρ2 iv) fun k S3 H3 ρ3 F3 p3 q3 => ?_
  have A3 : Aft C.K C.io F S H σ S3 H3 σ2 ρ3 F3 := A2.trans p3.aft
  cases k with
  | true =>
    rw [if_pos rfl] at q3 ⊢
    refine ⟨fun σ' H' => ∃ S' ρ' F', Aft C.K C.io F S H σ S' H' σ' ρ' F' ∧ ∃ m, m < n ∧ I m ρ', fun σ' H' ⟨S', ρ', F', A', m', hm, iv'⟩ => ⟨m', hm, S', ρ', F', A', iv'⟩, ?_⟩
    exact b2.after A3 (D := { D' with nx := fun ρ => ∃ m, m < n ∧ I m ρ, ct := fun ρ => ∃ m, m < n ∧ I m ρ, bk := D'.nx }) q3 (fun S' H' σ' ρ' F' a q => ⟨S', ρ', F', a, q⟩) (fun S' H' σ' ρ' F' v d Fd a q => k2 _ _ _ _ _ _ _ _ a q)
      (fun S' H' σ' ρ' F' a q => k1 _ _ _ _ _ a q) fun S' H' σ' ρ' F' a q => ⟨S', ρ', F', a, q⟩
  | false =>
    rw [if_neg Bool.false_ne_true] at q3 ⊢
    exact k1 _ _ _ _ _ A3 q3
end
end VL

set_option Elab.async false
set_option linter.all false
set_option maxRecDepth 100000
set_option maxHeartbeats 1000000
/-! VI: comprehensions, stores, defs. -/
namespace VL
open PySem L2
def wipeE (ρ : En) : List Nat → En
  | [] => ρ
  | v :: vs => (wipeE ρ vs).set v none
abbrev SC.blk (C : SC) (scope : Scope) : SC := { C with sc := relS scope C.sc, fn := fun x => scope.names.lookup x == some .cell, io := [] }
theorem Fits.blk {C : SC} {X : Cx} (f : Fits C X) (scope : Scope) (s : Shared) (H : Hp) (c : Addr) (cl : List (Str × Addr)) (fp : List Addr) : Fits (C.blk scope) (X.blk s H scope (compEnvC scope cl c X.env) fp) :=
  ⟨f.prog, f.w, f.K, f.mg, f.base, f.N, by show relS scope X.env.scope = _; rw [f.sc], f.calm, f.room, rfl, rfl⟩
section
variable {K : PySem.W.Frag} {S S' H H' : Hp}
theorem Slots.forget {σ : St} {ρ : En} {F : List Addr} (h : Slots K S H σ ρ F) (i : Nat) (x : Option V) : ∃ F', Slots K S H (σ.set i x) (ρ.set i none) F' ∧ (∀ a ∈ F', a ∈ F) ∧ (F.Nodup → F'.Nodup) := by
  obtain ⟨F1, Fi, F2, rfl, a, c⟩ := h.at i
  exact ⟨F1 ++ F2, (c S H x (.refl _) (fun _ _ _ e => e) fun _ _ e => e).1, fun a ha => by rcases List.mem_append.mp ha with z | z <;> simp [z], fun n => (List.nodup_append.mp (nodup_mid n)).1⟩
theorem Slots.wipe {σ : St} {ρ : En} {F : List Addr} (h : Slots K S H σ ρ F) : ∀ vs : List Nat, ∃ F', Slots K S H (L2.wipe σ vs) (wipeE ρ vs) F' ∧ (∀ a ∈ F', a ∈ F) ∧ (F.Nodup → F'.Nodup)
  | [] => ⟨F, h, fun _ h => h, fun h => h⟩
  | v :: vs => by
    obtain ⟨F1, h1, h2, h3⟩ := Slots.wipe h vs
    obtain ⟨F2, h4, h5, h6⟩ := h1.forget v none
    exact ⟨F2, h4, fun a ha => h2 a (h5 a ha), fun n => h6 (h3 n)⟩
theorem wipe_len (σ : St) (vs : List Nat) : (L2.wipe σ vs).length = σ.length := L2.wipe_length σ vs
theorem wipe_get (σ : St) : ∀ (vs : List Nat) (i : Nat), (L2.wipe σ vs)[i]? = if i ∈ vs ∧ i < σ.length then some none else σ[i]?
  | [], i => by simp [L2.wipe]
  | v :: vs, i => by
    unfold L2.wipe
    by_cases e : v = i
    · subst e
      by_cases h : v < σ.length
      · rw [List.getElem?_set_self (by rw [wipe_len]; exact h), if_pos ⟨by simp, h⟩]
      · rw [if_neg (fun z => h z.2), List.getElem?_eq_none (by rw [List.length_set, wipe_len]; omega), List.getElem?_eq_none (by omega)]
    · rw [List.getElem?_set_ne e, wipe_get σ vs i]
      have : (i ∈ v :: vs) ↔ i ∈ vs := by simp [Ne.symm e]
      simp only [this]
theorem wipe_only {σ σ' : St} {ws vs : List Nat} (o : Only ws σ σ') (h : ∀ i ∈ ws, i ∈ vs) : L2.wipe σ' vs = L2.wipe σ vs := by
  apply List.ext_getElem?
  intro i
  rw [wipe_get, wipe_get, o.len]
  by_cases c : i ∈ vs ∧ i < σ.length
  · rw [if_pos c, if_pos c]
  · rw [if_neg c, if_neg c]
    by_cases d : i ∈ vs
    · have hi : σ.length ≤ i := by
        have : ¬ i < σ.length := fun z => c ⟨d, z⟩
        omega
      rw [List.getElem?_eq_none hi, List.getElem?_eq_none (by rw [o.len]; exact hi)]
    · exact o.eq i fun z => d (h i z)
theorem wipe_wipe (σ : St) (vs : List Nat) : L2.wipe (L2.wipe σ vs) vs = L2.wipe σ vs := by
  apply List.ext_getElem?
  intro i
  rw [wipe_get, wipe_len, wipe_get]
  by_cases c : i ∈ vs ∧ i < σ.length
  · rw [if_pos c, if_pos c]
  · rw [if_neg c]
/-- the slots as they were, by what is still told of them -/
theorem Slots.back : ∀ {σ σ' : St} {ρ : En} {F : List Addr}, Slots K S H σ ρ F → σ'.length = σ.length → (∀ (i : Nat) (x : V), σ[i]? = some (some x) → σ'[i]? = some (some x)) → Slots K S H σ' ρ F
  | [], [], [], F, h, _, _ => h
  | _ :: σ, y :: σ', none :: ρ, F, h, hl, k => Slots.back (σ := σ) (σ' := σ') (ρ := ρ) h (by simpa using hl) fun i x e => by simpa using k (i + 1) x (by simpa using e)
  | x :: σ, y :: σ', some d :: ρ, F, h, hl, k => by
    obtain ⟨v, F1, F2, e1, rfl, e3, e4⟩ := h
    subst e1
    have := k 0 v (by simp)
    simp at this
    exact ⟨v, F1, F2, this, rfl, e3, Slots.back e4 (by simpa using hl) fun i x e => by simpa using k (i + 1) x (by simpa using e)⟩
  | [], _ :: _, _, _, _, hl, _ => by simp at hl
  | _ :: _, [], _, _, _, hl, _ => by simp at hl
  | [], [], _ :: _, _, h, _, _ => False.elim h
  | _ :: _, _ :: _, [], _, h, _, _ => by exact False.elim (by simpa [Slots] using h)
theorem RepOs.snoc : ∀ {l : List D} {vs : List V} {F : List Addr} {d : D} {v : V} {Fd : List Addr}, RepOs K S H l vs F → RepO K S H d v Fd → RepOs K S H (l ++ [d]) (vs ++ [v]) (F ++ Fd)
  | [], vs, F, d, v, Fd, h, r => by
    simp only [RepOs] at h
    obtain ⟨rfl, rfl⟩ := h
    simp only [List.nil_append, RepOs]
    exact ⟨v, [], Fd, [], rfl, by simp, r, rfl, rfl⟩
  | x :: l, vs, F, d, v, Fd, h, r => by
    simp only [RepOs] at h
    obtain ⟨u, ws, F1, F2, rfl, rfl, h1, h2⟩ := h
    simp only [List.cons_append, RepOs]
    exact ⟨u, ws ++ [v], F1, F2 ++ Fd, rfl, by simp, h1, RepOs.snoc h2 r⟩
end
section
variable {C : SC}
def ET (C : SC) (ifs : List Expr) (m : Bool) (t : TB) : Prop :=
  ∃ te : TT, (∀ X, Fits C X → PTs X ifs te) ∧ ∀ (σ : St) (H S : Hp) (ρ : En) (F : List Addr) (Q : Bool → En → Prop) (P : Bool → Hp → Prop), Wd C.K S H σ ρ F → t ρ Q →
    (∀ k S' H' ρ' F', Po C.K true m F S H σ ρ S' H' ρ' F' .non .non [] → Q k ρ' → P k H') → te σ H P
def bYes : TB := fun ρ Q => Q true ρ
theorem et_nil : ET C [] false bYes := ⟨tYes, fun X f => pts_nil, fun σ H S ρ F Q P w h k => k true S H ρ F (.val w (by simp only [RepS])) h⟩
theorem et_one {c : Expr} {m : Bool} {t : TB} (h : EB C c m t) : ET C [c] m t := by
  obtain ⟨te, a1, a2⟩ := h
  exact ⟨te, fun X f => pts_one (a1 X f), a2⟩

/-- a comprehension that changes nothing -/
def xComp (ti : TXs) (g : TGx) (tt : TB) (te : TX) (vs : List Nat) : TX := fun ρ Q => ti ρ fun xs ρ1 => ∃ J : List D → List D → Prop, J [] [] ∧
  (∀ (pre : List D) (x : D) (post : List D) (acc : List D), xs = pre ++ x :: post → J pre acc → g x (wipeE ρ1 vs) fun ρ2 => tt ρ2 fun k ρ3 => if k = true then te ρ3 fun d _ => acc.length < 1000000 ∧ J (pre ++ [x]) (acc ++ [d]) else J (pre ++ [x]) acc) ∧
  ∀ acc, J xs acc → Q (.own acc) ρ1
/-- nothing has changed but the list at D -/
structure Bld (K : PySem.W.Frag) (S1 H1 : Hp) (D : Addr) (acc : List VL.D) (S H : Hp) : Prop where
  s : Same S1 S
  h : Same H1 H
  sub : Same S H
  im : Imm S H
  n : ∀ a o, S a = some o → S1 a = some o ∨ H1 a = none
  l : ∃ vs G, H D = some (.lst vs) ∧ RepOs K S H acc vs G ∧ G.Nodup ∧ (∀ a ∈ G, H1 a = none) ∧ D ∉ G ∧ S D = none
theorem xcomp_sound {ti : TXs} {g : TGx} {tt : TB} {te : TX} {vs ws : List Nat} {wi : TI} {tv : TG} {tt' : TT} {te' : TE} {m br : Bool}
    (a2 : ∀ (σ : St) (H S : Hp) (ρ : En) (F : List Addr) (Q : List D → En → Prop) (R : It → Hp → Prop), Wd C.K S H σ ρ F → ti ρ Q → (∀ J xs S' H' ρ' F', Po C.K true m F S H σ ρ S' H' ρ' F' .non .non [] → ItS C.K J (if br = true then H' else S') S' xs → Q xs ρ' → R J H') → wi σ H R)
    (c2 : ∀ (σ : St) (H S : Hp) (ρ : En) (F : List Addr) (v : V) (d : D) (Fd : List Addr) (Q : En → Prop) (P : St → Hp → Prop), Wd C.K S H σ ρ F → RepO C.K S H d v Fd → (F ++ Fd).Nodup → g d ρ Q → (∀ σ' ρ' F', Wd C.K S H σ' ρ' F' → (∀ a ∈ F', a ∈ F ++ Fd) → Only ws σ σ' → Q ρ' → P σ' H) → tv v σ H P)
    (d2 : ∀ (σ : St) (H S : Hp) (ρ : En) (F : List Addr) (Q : Bool → En → Prop) (P : Bool → Hp → Prop), Wd C.K S H σ ρ F → tt ρ Q → (∀ k S' H' ρ' F', Po C.K true false F S H σ ρ S' H' ρ' F' .non .non [] → Q k ρ' → P k H') → tt' σ H P)
    (e2 : ∀ (σ : St) (H S : Hp) (ρ : En) (F : List Addr) (Q : D → En → Prop) (P : VK), Wd C.K S H σ ρ F → te ρ Q → (∀ v d S' H' ρ' F' Fd, Po C.K true false F S H σ ρ S' H' ρ' F' v d Fd → Q d ρ' → P v H') → te' σ H P)
    (hws : ∀ i ∈ ws, i ∈ vs) {σ : St} {H S : Hp} {ρ : En} {F : List Addr} {Q : D → En → Prop} {P : VK} (w : Wd C.K S H σ ρ F) (h : xComp ti g tt te vs ρ Q)
    (k : ∀ v d S' H' ρ' F' Fd, Po C.K true m F S H σ ρ S' H' ρ' F' v d Fd → Q d ρ' → P v H') : tLc wi tv tt' te' vs σ H P := by
  refine a2 σ H S ρ F _ _ w h fun J xs S1 H1 ρ1 F1 p its ⟨I, i0, it, iz⟩ Dl hD => ?_
  obtain ⟨Fw, sw, swF, swN⟩ := p.wd.sl.wipe vs
  have ndw := swN p.wd.nd
  have hHS : ∀ {S2 H2 : Hp}, Same S1 S2 → Same H1 H2 → Same S2 H2 → Same (if br = true then H1 else S1) H2 := fun s h sub => by
    cases br
    · exact s.trans sub
    · exact h
  -- the block's world over any grown heap
  have wd : ∀ {S2 H2 : Hp}, Same S1 S2 → Same H1 H2 → Same S2 H2 → Imm S2 H2 → (∀ a o, S2 a = some o → S1 a = some o ∨ H1 a = none) → Wd C.K S2 H2 (L2.wipe σ vs) (wipeE ρ1 vs) Fw := fun s h sub im n => ⟨sub, im, sw.same s h n, ndw⟩
  refine ⟨fun i m H2 => ∃ S2 acc, Bld C.K S1 H1 Dl acc S2 H2 ∧ m = xs.length - i ∧ i ≤ xs.length ∧ I (xs.take i) acc, ⟨xs.length, S1, [], ⟨.refl _, same_upd hD, same_updR p.wd.sub (none_sub p.wd.sub hD), p.wd.imm.updM trivial, fun _ _ e => .inl e, [], [], upd_same, by simp only [RepOs]; exact ⟨trivial, trivial⟩, .nil, (fun _ h => by cases h), by simp, none_sub p.wd.sub hD⟩, by simp, Nat.zero_le _, by simpa using i0⟩, ?_⟩
  rintro i m2 H2 ⟨S2, acc, B2, rfl, hi, iv⟩
  by_cases hlt : i < xs.length
  · refine .inr ⟨its.go H2 i (hHS B2.s B2.h B2.sub) hlt, fun H' => ∃ S' acc, Bld C.K S1 H1 Dl acc S' H' ∧ I (xs.take (i + 1)) acc, fun H' ⟨S', acc', B', iv'⟩ => ⟨xs.length - (i + 1), by omega, S', acc', B', rfl, hlt, iv'⟩, fun x H' y => ?_⟩
    obtain ⟨S3, d, e1, t, dp⟩ := its.yld S2 H2 i x H' (hHS B2.s B2.h B2.sub) B2.s B2.sub B2.im hlt y
    have hd : xs[i] = d := (List.getElem?_eq_some_iff.mp e1).2
    have ex : xs = xs.take i ++ d :: xs.drop (i + 1) := by rw [← hd, List.getElem_cons_drop, List.take_append_drop]
    have e2' : xs.take (i + 1) = xs.take i ++ [d] := by rw [List.take_succ_eq_append_getElem hlt, hd]
    obtain ⟨us, G, l1, l2, l3, l4, l5, l6⟩ := B2.l
    -- grown by quiet steps
    have nD : ∀ {S4 : Hp}, (∀ a o, S4 a = some o → S2 a = some o ∨ H2 a = none) → S4 Dl = none := fun {S4} n => by
      cases q : S4 Dl with
      | none => rfl
      | some o =>
        rcases n Dl o q with z | z
        · rw [l6] at z; cases z
        · rw [l1] at z; cases z
    have nn : ∀ {S4 : Hp}, (∀ a o, S4 a = some o → S2 a = some o ∨ H2 a = none) → ∀ a o, S4 a = some o → S1 a = some o ∨ H1 a = none := fun {S4} n a o e => by
      rcases n a o e with z | z
      · exact B2.n a o z
      · exact .inr (B2.h.free z)
    have grow : ∀ {S4 H4 : Hp}, Same S2 S4 → Same H2 H4 → Same S4 H4 → Imm S4 H4 → (∀ a o, S4 a = some o → S2 a = some o ∨ H2 a = none) → Bld C.K S1 H1 Dl acc S4 H4 := fun {S4 H4} s h sub im n =>
      ⟨B2.s.trans s, B2.h.trans h, sub, im, nn n, us, G, h _ _ l1, l2.same s h n, l3, l4, l5, nD n⟩
    have w3 := wd (B2.s.trans t.s) (B2.h.trans t.h) t.sub t.im (nn t.n)
    refine c2 (L2.wipe σ vs) H' S3 (wipeE ρ1 vs) Fw x d [] _ _ w3 t.rep (by simpa using ndw) (it _ d _ acc ex iv) fun σ4 ρ4 F4 w4 hF4 o4 q4 => ?_
    refine ⟨by rw [wipe_only o4 hws, wipe_wipe], ?_⟩
    refine d2 σ4 H' S3 ρ4 F4 _ _ w4 q4 fun kk S5 H5 ρ5 F5 p5 q5 => ?_
    obtain ⟨u1, u2, u3, u4⟩ := p5.un rfl
    have t5s : Same S2 S5 := t.s.trans p5.step.s
    have t5h : Same H2 H5 := t.h.trans u3
    have t5n : ∀ a o, S5 a = some o → S2 a = some o ∨ H2 a = none := fun a o e => by
      rcases u4 a o e with z | z
      · exact t.n a o z
      · exact .inr (t.h.free z)
    cases kk with
    | false =>
      rw [if_neg Bool.false_ne_true] at q5 ⊢
      exact ⟨S5, acc, grow t5s t5h p5.wd.sub p5.wd.imm t5n, by rw [e2']; exact q5⟩
    | true =>
      rw [if_pos rfl] at q5 ⊢
      refine e2 σ4 H5 S5 ρ5 F5 _ _ p5.wd q5 fun y dy S6 H6 ρ6 F6 Fd p6 ⟨hz, q6⟩ => ?_
      obtain ⟨v1, v2, v3, v4⟩ := p6.un rfl
      have t6s : Same S2 S6 := t5s.trans p6.step.s
      have t6h : Same H2 H6 := t5h.trans v3
      have t6n : ∀ a o, S6 a = some o → S2 a = some o ∨ H2 a = none := fun a o e => by
        rcases v4 a o e with z | z
        · exact t5n a o z
        · exact .inr (t5h.free z)
      obtain ⟨n6, f6⟩ := p6.fr rfl
      -- what is told is new since H5, so since H1
      have newd : ∀ a ∈ Fd, H5 a = none := fun a ha => by
        rcases f6 a ha with z | z
        · exact absurd rfl ((List.nodup_append.mp n6).2.2 a (by rw [v2]; exact z) a ha)
        · exact z
      have dG : ∀ a ∈ G, a ∉ Fd := fun a ha hb => by
        obtain ⟨_, zs, q⟩ := l2.there a ha
        have := t5h _ _ q
        rw [newd a hb] at this; cases this
      have dD : Dl ∉ Fd := fun hb => by
        have := t5h _ _ l1
        rw [newd _ hb] at this; cases this
      refine ⟨us, t6h _ _ l1, ?_, S6, acc ++ [dy], ⟨B2.s.trans t6s, fun a o e => ?_, ?_, ?_, nn t6n, us ++ [y], G ++ Fd, upd_same, ?_, ?_, ?_, ?_, nD t6n⟩, by rw [e2']; exact q6⟩
      · rw [l2.length, sizeLine_eq]; omega
      · rw [upd_ne (ne_of_none e hD)]; exact t6h a o (B2.h a o e)
      · exact same_updR p6.wd.sub (nD t6n)
      · exact p6.wd.imm.updM trivial
      · refine ((l2.same t6s t6h t6n).snoc p6.rep).mono (.refl _) (fun a ha o e => ?_) fun _ _ e => e
        rw [upd_ne]
        · exact e
        · rintro rfl
          rcases List.mem_append.mp ha with z | z
          · exact l5 z
          · exact dD z
      · exact List.nodup_append.mpr ⟨l3, (List.nodup_append.mp n6).2.1, fun a ha c hc e => dG a ha (e ▸ hc)⟩
      · intro a ha
        rcases List.mem_append.mp ha with z | z
        · exact l4 a z
        · exact (B2.h.trans t5h).free (newd a z)
      · intro z
        rcases List.mem_append.mp z with z | z
        · exact l5 z
        · exact dD z
  · have e : i = xs.length := by omega
    subst e
    obtain ⟨us, G, l1, l2, l3, l4, l5, l6⟩ := B2.l
    refine .inl ⟨its.stop H2 _ (hHS B2.s B2.h B2.sub) (Nat.le_refl _), k (.ref Dl) (.own acc) S2 H2 ρ1 F1 (Dl :: G) ?_ (iz acc (by simpa using iv))⟩
    have r : RepO C.K S2 H2 (.own acc) (.ref Dl) (Dl :: G) := by
      simp only [RepO]
      exact ⟨Dl, us, G, rfl, rfl, l6, l1, l2⟩
    have q : Po C.K true false F1 S1 H1 σ ρ1 S2 H2 ρ1 F1 (.ref Dl) (.own acc) (Dl :: G) := .quiet p.wd B2.s B2.h B2.sub B2.im B2.n r fun _ => ⟨List.nodup_cons.mpr ⟨l5, l3⟩, fun a ha => by
      rcases List.mem_cons.mp ha with rfl | z
      · exact hD
      · exact l4 a z⟩
    exact p.seq q (by simp)
theorem ex_comp {elt tg iter : Expr} {ifs : List Expr} {scope : Scope} (own : List (Str × Nat)) {pos : Pos} {m br : Bool} {ti : TXs} {ws : List Nat} {g : TGx} {tt : TB} {te : TX} (hnd : C.N.Nodup) (hi : EI C br tg iter m ti) (hblk : blkC C.N C.sc scope own = true := by first | rfl | decide +kernel)
    (hg : EG (C.blk scope) tg ws g) (ht : ET (C.blk scope) ifs false tt) (he : EX (C.blk scope) elt true false te) (hws : ∀ i ∈ ws, i ∈ own.map (·.2) := by decide) (hs : ∀ env x, foldedSetIterable iter env x = pure x := by intro _ _; rfl) :
    EX C (.ListComp elt [⟨tg, iter, ifs, 0⟩] scope pos) true m (xComp ti g tt te (own.map (·.2))) := by
  obtain ⟨wi, a1, a2⟩ := hi
  obtain ⟨tv, c1, c2⟩ := hg
  obtain ⟨tt', d1, d2⟩ := ht
  obtain ⟨te', e1, e2⟩ := he
  exact ⟨tLc wi tv tt' te' (own.map (·.2)), fun X f => pe_lc f.calm (by rw [f.N]; exact hnd) (a1 X f) (by rw [f.N, f.sc]; exact blkOk_by hblk) (fun s H c cl fp => c1 _ (f.blk scope s H c cl fp)) (fun s H c cl fp => d1 _ (f.blk scope s H c cl fp)) (fun s H c cl fp => e1 _ (f.blk scope s H c cl fp)) (hs _),
    fun σ H S ρ F Q P w h k => xcomp_sound a2 c2 d2 e2 hws w h k⟩
/-- y = [..] on one line, y a local name -/
theorem sx_setComp (i : Nat) {y : Str} {py spos : Pos} {elt tg iter : Expr} {ifs : List Expr} {scope : Scope} (own : List (Str × Nat)) {pos : Pos} {m br : Bool} {ti : TXs} {ws : List Nat} {g : TGx} {tt : TB} {te : TX} (hnd : C.N.Nodup) (hi : EI C br tg iter m ti) (hblk : blkC C.N C.sc scope own = true := by first | rfl | decide +kernel)
    (hg : EG (C.blk scope) tg ws g) (ht : ET (C.blk scope) ifs false tt) (he : EX (C.blk scope) elt true false te) (hws : ∀ i ∈ ws, i ∈ own.map (·.2) := by decide)
    (hN : C.N[i]? = some y := by rfl) (hy : C.sc.names.lookup y = some .local := by rfl) (hio : C.io[i]? ≠ some true := by first | decide | simp) (hl : (py.line == pos.line) = true := by rfl) (hk : C.sc.kind = .function := by rfl)
    (ha : (scope.names.any fun (n, k) => n == y && (k == .local || k == .cell)) = false := by first | rfl | decide +kernel) (hs : ∀ env x, foldedSetIterable iter env x = pure x := by intro _ _; rfl) :
    SX C (.Assign [.Name y py] (.ListComp elt [⟨tg, iter, ifs, 0⟩] scope pos) spos) (sSet (xComp ti g tt te (own.map (·.2))) (gN i)) := by
  obtain ⟨wi, a1, a2⟩ := hi
  obtain ⟨tv, c1, c2⟩ := hg
  obtain ⟨tt', d1, d2⟩ := ht
  obtain ⟨te', e1, e2⟩ := he
  refine ⟨tAsg (tLc wi tv tt' te' (own.map (·.2))) (gName i), fun X f => ps_setLc f.calm (by rw [f.N]; exact hnd) (by rw [f.N]; exact hN) (by rw [f.sc]; exact hy) ?_ (a1 X f) (by rw [f.N, f.sc]; exact blkOk_by hblk) (fun s H c cl fp => c1 _ (f.blk scope s H c cl fp)) (fun s H c cl fp => d1 _ (f.blk scope s H c cl fp)) (fun s H c cl fp => e1 _ (f.blk scope s H c cl fp)) (hs _),
    fun σ H S ρ F D P w h k1 k2 k3 k4 => ?_⟩
  · exact sw_true (by rw [f.sc]; exact hk) (by rw [f.sc]; exact hy) hl ha
  · refine xcomp_sound a2 c2 d2 e2 hws w h fun v d S1 H1 ρ1 F1 Fd p1 ⟨hi, q1⟩ => ?_
    obtain ⟨F', w', hF⟩ := set_sound i p1.wd p1.rep (p1.fr rfl).1 hi
    exact k1 _ _ _ _ _ (set_aft p1 w' hF (kept_set hio)) q1
end
end VL

set_option Elab.async false
set_option linter.all false
set_option maxRecDepth 100000
set_option maxHeartbeats 1000000
/-! VJ: comprehensions that change what a name owns; two clauses. -/
namespace VL
open PySem L2
def keepP (ρ : En) (v : Nat) : Option D := match ρ[v]? with
  | some (some d) => if d.pure = true then some d else none
  | _ => none
def backE (ρ1 ρ2 : En) : List Nat → En
  | [] => ρ2
  | v :: vs => (backE ρ1 ρ2 vs).set v (keepP ρ1 v)
theorem keepP_some {ρ : En} {v : Nat} {d : D} (h : keepP ρ v = some d) : ρ[v]? = some (some d) ∧ d.pure = true := by
  unfold keepP at h
  split at h
  · split at h
    · cases h; exact ⟨by assumption, by assumption⟩
    · cases h
  · cases h
section
variable {K : PySem.W.Frag} {S S' H H' : Hp}
theorem Slots.backE {σ : St} {ρ1 : En} : ∀ {vs : List Nat} {ρ2 : En} {F : List Addr}, Slots K S H σ ρ2 F → F.Nodup → (∀ v ∈ vs, ∀ d, keepP ρ1 v = some d → ∃ u, σ[v]? = some (some u) ∧ RepS K S d u) →
    ∃ F', Slots K S H σ (VL.backE ρ1 ρ2 vs) F' ∧ (∀ a ∈ F', a ∈ F) ∧ F'.Nodup
  | [], ρ2, F, h, nd, _ => ⟨F, h, fun _ h => h, nd⟩
  | v :: vs, ρ2, F, h, nd, k => by
    obtain ⟨F', h1, h2, h3⟩ := Slots.backE (vs := vs) h nd fun u hu => k u (by simp [hu])
    obtain ⟨F1, Fi, F2, rfl, a, c⟩ := h1.at v
    have nd2 := (List.nodup_append.mp (nodup_mid h3)).1
    have sub : ∀ a ∈ F1 ++ F2, a ∈ F := fun a ha => h2 a (by rcases List.mem_append.mp ha with z | z <;> simp [z])
    unfold VL.backE
    cases e : keepP ρ1 v with
    | none =>
      refine ⟨F1 ++ F2, ?_, sub, nd2⟩
      cases q : σ[v]? with
      | none =>
        have c1 := (c S H none (.refl _) (fun _ _ _ e => e) fun _ _ e => e).1
        have : σ.set v none = σ := by rw [List.set_eq_of_length_le (by simpa using q)]
        rwa [this] at c1
      | some x =>
        have c1 := (c S H x (.refl _) (fun _ _ _ e => e) fun _ _ e => e).1
        rwa [set_same q] at c1
    | some d =>
      obtain ⟨u, q, r⟩ := k v (by simp) d e
      have hl : v < (VL.backE ρ1 ρ2 vs).length := by
        rw [← h1.length]; exact (List.getElem?_eq_some_iff.mp q).1
      have c1 := (c S H (some u) (.refl _) (fun _ _ _ e => e) fun _ _ e => e).2.2 u d [] rfl (.of_pure r) hl
      rw [set_same q] at c1
      exact ⟨F1 ++ ([] ++ F2), c1, by simpa using sub, by simpa using nd2⟩
end
section
variable {C : SC}
def xCompM (ti : TXs) (g : TGx) (tt : TB) (te : TX) (vs : List Nat) : TX := fun ρ Q => ti ρ fun xs ρ1 => ∃ J : List D → List D → En → Prop, J [] [] (wipeE ρ1 vs) ∧
  (∀ (pre : List D) (x : D) (post : List D) (acc : List D) (ρ2 : En), xs = pre ++ x :: post → J pre acc ρ2 → g x ρ2 fun ρ3 => tt ρ3 fun k ρ4 => if k = true then te ρ4 fun d ρ5 => acc.length < 1000000 ∧ J (pre ++ [x]) (acc ++ [d]) (wipeE ρ5 vs) else J (pre ++ [x]) acc (wipeE ρ4 vs)) ∧
  ∀ acc ρ2, J xs acc ρ2 → Q (.own acc) (backE ρ1 ρ2 vs)
theorem xcompM_sound {ti : TXs} {g : TGx} {tt : TB} {te : TX} {vs ws : List Nat} {wi : TI} {tv : TG} {tt' : TT} {te' : TE} {m m2 m3 : Bool}
    (a2 : ∀ (σ : St) (H S : Hp) (ρ : En) (F : List Addr) (Q : List D → En → Prop) (R : It → Hp → Prop), Wd C.K S H σ ρ F → ti ρ Q → (∀ J xs S' H' ρ' F', Po C.K true m F S H σ ρ S' H' ρ' F' .non .non [] → ItS C.K J (if false = true then H' else S') S' xs → Q xs ρ' → R J H') → wi σ H R)
    (c2 : ∀ (σ : St) (H S : Hp) (ρ : En) (F : List Addr) (v : V) (d : D) (Fd : List Addr) (Q : En → Prop) (P : St → Hp → Prop), Wd C.K S H σ ρ F → RepO C.K S H d v Fd → (F ++ Fd).Nodup → g d ρ Q → (∀ σ' ρ' F', Wd C.K S H σ' ρ' F' → (∀ a ∈ F', a ∈ F ++ Fd) → Only ws σ σ' → Q ρ' → P σ' H) → tv v σ H P)
    (d2 : ∀ (σ : St) (H S : Hp) (ρ : En) (F : List Addr) (Q : Bool → En → Prop) (P : Bool → Hp → Prop), Wd C.K S H σ ρ F → tt ρ Q → (∀ k S' H' ρ' F', Po C.K true m2 F S H σ ρ S' H' ρ' F' .non .non [] → Q k ρ' → P k H') → tt' σ H P)
    (e2 : ∀ (σ : St) (H S : Hp) (ρ : En) (F : List Addr) (Q : D → En → Prop) (P : VK), Wd C.K S H σ ρ F → te ρ Q → (∀ v d S' H' ρ' F' Fd, Po C.K true m3 F S H σ ρ S' H' ρ' F' v d Fd → Q d ρ' → P v H') → te' σ H P)
    (hws : ∀ i ∈ ws, i ∈ vs) {σ : St} {H S : Hp} {ρ : En} {F : List Addr} {Q : D → En → Prop} {P : VK} (w : Wd C.K S H σ ρ F) (h : xCompM ti g tt te vs ρ Q)
    (k : ∀ v d S' H' ρ' F' Fd, Po C.K true true F S H σ ρ S' H' ρ' F' v d Fd → Q d ρ' → P v H') : tLc wi tv tt' te' vs σ H P := by
  refine a2 σ H S ρ F _ _ w h fun J xs S1 H1 ρ1 F1 p its ⟨I, i0, it, iz⟩ Dl hD => ?_
  obtain ⟨Fw, sw, swF, swN⟩ := p.wd.sl.wipe vs
  have ndw := swN p.wd.nd
  have hDw : Dl ∉ Fw := fun z => by
    obtain ⟨_, _, q⟩ := sw.there Dl z
    rw [hD] at q; cases q
  refine ⟨fun i n H2 => ∃ S2 ρ2 F2 acc us G, Step Fw S1 H1 S2 H2 F2 ∧ Wd C.K S2 H2 (L2.wipe σ vs) ρ2 F2 ∧ H2 Dl = some (.lst us) ∧ RepOs C.K S2 H2 acc us G ∧ (F2 ++ Dl :: G).Nodup ∧ (∀ a ∈ G, a ∈ Fw ∨ H1 a = none) ∧ S2 Dl = none ∧ n = xs.length - i ∧ i ≤ xs.length ∧ I (xs.take i) acc ρ2,
    ⟨xs.length, S1, wipeE ρ1 vs, Fw, [], [], [], ⟨.refl _, fun a o e _ => same_upd hD a o e, fun _ _ e => .inl e, fun _ h => .inl h⟩, ⟨same_updR p.wd.sub (none_sub p.wd.sub hD), p.wd.imm.updM trivial, sw.mono (.refl _) (fun a ha o e => by rw [upd_ne (by rintro rfl; exact hDw ha)]; exact e) fun _ _ e => e, ndw⟩, upd_same, by simp only [RepOs]; exact ⟨trivial, trivial⟩,
      List.nodup_append.mpr ⟨ndw, by simp, fun a ha b hb e => by simp at hb; subst hb; subst e; exact hDw ha⟩, (fun _ h => by cases h), none_sub p.wd.sub hD, by simp, Nat.zero_le _, by simpa using i0⟩, ?_⟩
  rintro i n H2 ⟨S2, ρ2, F2, acc, us, G, st, w2, l1, l2, nd, gF, sD, rfl, hi, iv⟩
  obtain ⟨n1, n2, n3⟩ := List.nodup_append.mp nd
  have hDF : Dl ∉ F2 := fun z => n3 Dl z Dl (by simp) rfl
  have hGF : ∀ a ∈ G, a ∉ F2 := fun a ha z => n3 a z a (by simp [ha]) rfl
  have hDG : Dl ∉ G := (List.nodup_cons.mp n2).1
  by_cases hlt : i < xs.length
  · refine .inr ⟨its.go H2 i (st.s.trans w2.sub) hlt, fun H' => ∃ S2 ρ2 F2 acc us G, Step Fw S1 H1 S2 H' F2 ∧ Wd C.K S2 H' (L2.wipe σ vs) ρ2 F2 ∧ H' Dl = some (.lst us) ∧ RepOs C.K S2 H' acc us G ∧ (F2 ++ Dl :: G).Nodup ∧ (∀ a ∈ G, a ∈ Fw ∨ H1 a = none) ∧ S2 Dl = none ∧ I (xs.take (i + 1)) acc ρ2,
      fun H' ⟨S', ρ', F', acc', us', G', x1, x2, x3, x4, x5, x6, x7, x8⟩ => ⟨xs.length - (i + 1), by omega, S', ρ', F', acc', us', G', x1, x2, x3, x4, x5, x6, x7, rfl, hlt, x8⟩, fun x H' y => ?_⟩
    obtain ⟨S3, d, e1, t, dp⟩ := its.yld S2 H2 i x H' (st.s.trans w2.sub) st.s w2.sub w2.imm hlt y
    have hd : xs[i] = d := (List.getElem?_eq_some_iff.mp e1).2
    have ex : xs = xs.take i ++ d :: xs.drop (i + 1) := by rw [← hd, List.getElem_cons_drop, List.take_append_drop]
    have e2' : xs.take (i + 1) = xs.take i ++ [d] := by rw [List.take_succ_eq_append_getElem hlt, hd]
    have p3 : Po C.K false false F2 S2 H2 (L2.wipe σ vs) ρ2 S3 H' ρ2 F2 x d [] := .quiet w2 t.s t.h t.sub t.im t.n t.rep fun z => by cases z
    refine c2 (L2.wipe σ vs) H' S3 ρ2 F2 x d [] _ _ p3.wd p3.rep (by simpa using p3.wd.nd) (it _ d _ acc ρ2 ex iv) fun σ4 ρ4 F4 w4 hF4 o4 q4 => ?_
    have e4 : L2.wipe σ4 vs = L2.wipe σ vs := by rw [wipe_only o4 hws, wipe_wipe]
    refine ⟨e4, ?_⟩
    have s4 : Step F2 S2 H2 S3 H' F4 := p3.step.less fun a ha => by simpa using hF4 a ha
    refine d2 σ4 H' S3 ρ4 F4 _ _ w4 q4 fun kk S5 H5 ρ5 F5 p5 q5 => ?_
    have s5 : Step F2 S2 H2 S5 H5 F5 := s4.trans p5.step
    -- what a turn ends in
    have fin : ∀ {S6 H6 : Hp} {ρ6 : En} {F6 : List Addr}, Step F2 S2 H2 S6 H6 F6 → Wd C.K S6 H6 σ4 ρ6 F6 → ∀ {acc' : List D} {us' : List V} {G' : List Addr}, (H6' : Hp) → (H6' Dl = some (.lst us')) → (∀ a, a ≠ Dl → H6' a = H6 a) → RepOs C.K S6 H6' acc' us' G' → (F6 ++ Dl :: G').Nodup → (∀ a ∈ G', a ∈ Fw ∨ H1 a = none) → I (xs.take (i + 1)) acc' (wipeE ρ6 vs) →
        ∃ S2 ρ2 F2 acc us G, Step Fw S1 H1 S2 H6' F2 ∧ Wd C.K S2 H6' (L2.wipe σ vs) ρ2 F2 ∧ H6' Dl = some (.lst us) ∧ RepOs C.K S2 H6' acc us G ∧ (F2 ++ Dl :: G).Nodup ∧ (∀ a ∈ G, a ∈ Fw ∨ H1 a = none) ∧ S2 Dl = none ∧ I (xs.take (i + 1)) acc ρ2 := by
      intro S6 H6 ρ6 F6 s6 w6 acc' us' G' H6' hd1 hd2 r6 nd6 g6 iv6
      obtain ⟨F7, sl7, f7, n7⟩ := w6.sl.wipe vs
      rw [e4] at sl7
      obtain ⟨m1, m2, m3⟩ := List.nodup_append.mp nd6
      have D6 : Dl ∉ F6 := fun z => m3 Dl z Dl (by simp) rfl
      have sD6 : S6 Dl = none := by
        cases q : S6 Dl with
        | none => rfl
        | some o =>
          rcases s6.new Dl o q with z | z | z
          · rw [sD] at z; cases z
          · exact absurd z hDF
          · rw [l1] at z; cases z
      refine ⟨S6, wipeE ρ6 vs, F7, acc', us', G', ?_, ⟨?_, ?_, ?_, n7 w6.nd⟩, hd1, r6, ?_, g6, sD6, iv6⟩
      · have s7 : Step Fw S1 H1 S6 H6 F7 := (st.trans s6).less f7
        exact ⟨s7.s, fun a o e n => by rw [hd2 a (fun z => by rw [z, hD] at e; cases e)]; exact s7.h a o e n, s7.new, s7.fp⟩
      · intro a o e
        rw [hd2 a (fun z => by rw [z, sD6] at e; cases e)]
        exact w6.sub a o e
      · intro a o e
        by_cases c : a = Dl
        · subst c; rw [hd1] at e; cases e; exact .inl trivial
        · rw [hd2 a c] at e; exact w6.imm a o e
      · exact sl7.mono (.refl _) (fun a ha o e => by rw [hd2 a (fun z => D6 (z ▸ f7 a ha))]; exact e) fun _ _ e => e
      · exact List.nodup_append.mpr ⟨n7 w6.nd, m2, fun a ha b hb => m3 a (f7 a ha) b hb⟩
    have keepG : ∀ {S6 H6 : Hp} {F6 : List Addr}, Step F2 S2 H2 S6 H6 F6 → H6 Dl = some (.lst us) ∧ RepOs C.K S6 H6 acc us G ∧ (∀ a ∈ Dl :: G, a ∉ F6) := fun {S6 H6 F6} s6 =>
      ⟨s6.h _ _ l1 hDF, l2.step s6 hGF, fun a ha => by
        rcases List.mem_cons.mp ha with z | z
        · rw [z]; exact s6.old l1 hDF
        · obtain ⟨_, zs, q⟩ := l2.there a z
          exact s6.old q (hGF a z)⟩
    cases kk with
    | false =>
      rw [if_neg Bool.false_ne_true] at q5 ⊢
      obtain ⟨g1, g2, g3⟩ := keepG s5
      exact fin s5 p5.wd H5 g1 (fun _ _ => rfl) g2 (List.nodup_append.mpr ⟨p5.wd.nd, n2, fun a ha b hb e => g3 b hb (e ▸ ha)⟩) gF (by rw [e2']; exact q5)
    | true =>
      rw [if_pos rfl] at q5 ⊢
      refine e2 σ4 H5 S5 ρ5 F5 _ _ p5.wd q5 fun y dy S6 H6 ρ6 F6 Fd p6 ⟨hz, q6⟩ => ?_
      have s6 : Step F2 S2 H2 S6 H6 F6 := s5.trans p6.step
      obtain ⟨g1, g2, g3⟩ := keepG s6
      obtain ⟨n6, f6⟩ := p6.fr rfl
      obtain ⟨m1, m2', m3'⟩ := List.nodup_append.mp n6
      have newd : ∀ a ∈ Fd, a ∈ F2 ∨ H2 a = none := fun a ha => by
        rcases f6 a ha with z | z
        · exact s5.fp a z
        · by_cases c : a ∈ F2
          · exact .inl c
          · refine .inr ?_
            cases r : H2 a with
            | none => rfl
            | some o => rw [s5.h a o r c] at z; cases z
      have dG : ∀ a ∈ Dl :: G, a ∉ Fd := fun a ha hb => by
        have hH : ∃ o, H2 a = some o := by
          rcases List.mem_cons.mp ha with z | z
          · rw [z]; exact ⟨_, l1⟩
          · obtain ⟨_, zs, q⟩ := l2.there a z; exact ⟨_, q⟩
        obtain ⟨o, ho⟩ := hH
        rcases newd a hb with z | z
        · rcases List.mem_cons.mp ha with z2 | z2
          · rw [z2] at z; exact hDF z
          · exact hGF a z2 z
        · rw [ho] at z; cases z
      refine ⟨us, g1, by rw [g2.length, sizeLine_eq]; omega, fin s6 p6.wd (upd H6 Dl (.lst (us ++ [y]))) upd_same (fun a ha => upd_ne ha) ((g2.snoc p6.rep).mono (.refl _) (fun a ha o e => ?_) fun _ _ e => e) ?_ ?_ (by rw [e2']; exact q6)⟩
      · rw [upd_ne]
        · exact e
        · rintro rfl
          rcases List.mem_append.mp ha with z | z
          · exact hDG z
          · exact dG a (by simp) z
      · refine List.nodup_append.mpr ⟨p6.wd.nd, List.nodup_cons.mpr ⟨fun z => ?_, List.nodup_append.mpr ⟨(List.nodup_cons.mp n2).2, m2', fun a ha b hb e => dG a (by simp [ha]) (e ▸ hb)⟩⟩, fun a ha b hb e => ?_⟩
        · rcases List.mem_append.mp z with z | z
          · exact hDG z
          · exact dG Dl (by simp) z
        · subst e
          rcases List.mem_cons.mp hb with z | z
          · exact g3 a (by simp [z]) ha
          · rcases List.mem_append.mp z with z | z
            · exact g3 a (by simp [z]) ha
            · exact m3' a ha a z rfl
      · intro a ha
        rcases List.mem_append.mp ha with z | z
        · exact gF a z
        · rcases newd a z with q | q
          · exact st.fp a q
          · by_cases c : a ∈ Fw
            · exact .inl c
            · refine .inr ?_
              cases r : H1 a with
              | none => rfl
              | some o => rw [st.h a o r c] at q; cases q
  · have e : i = xs.length := by omega
    subst e
    have slb : Slots C.K S2 H2 σ ρ2 F2 := w2.sl.back (wipe_len σ vs).symm fun j x e => (L2.wipe_some e).1
    obtain ⟨F3, b1, b2, b3⟩ := slb.backE (ρ1 := ρ1) (vs := vs) w2.nd fun v hv d e => by
      obtain ⟨e1, e2⟩ := keepP_some e
      obtain ⟨A1, Ai, A2, _, a, _⟩ := p.wd.sl.at v
      obtain ⟨u, q1, q2⟩ := a d e1
      exact ⟨u, q1, (q2.to_pure e2).1.mono st.s⟩
    refine .inl ⟨its.stop H2 _ (st.s.trans w2.sub) (Nat.le_refl _), k (.ref Dl) (.own acc) S2 H2 (VL.backE ρ1 ρ2 vs) F3 (Dl :: G) ?_ (iz acc ρ2 (by simpa using iv))⟩
    have sF : Step F1 S1 H1 S2 H2 F3 := (st.more swF).less b2
    refine ⟨p.step.trans sF, ⟨w2.sub, w2.imm, b1, b3⟩, ?_, fun _ => ⟨List.nodup_append.mpr ⟨b3, n2, fun a ha b hb => n3 a (b2 a ha) b hb⟩, fun a ha => ?_⟩, fun z => by cases z⟩
    · simp only [RepO]
      exact ⟨Dl, us, G, rfl, rfl, sD, l1, l2⟩
    · have back : ∀ b, H1 b = none → b ∈ F ∨ H b = none := fun b hb => by
        by_cases c : b ∈ F
        · exact .inl c
        · refine .inr ?_
          cases r : H b with
          | none => rfl
          | some o => rw [p.step.h b o r c] at hb; cases hb
      rcases List.mem_cons.mp ha with z | z
      · rw [z]; exact back Dl hD
      · rcases gF a z with q | q
        · exact p.step.fp a (swF a q)
        · exact back a q
theorem ex_compM {elt tg iter : Expr} {ifs : List Expr} {scope : Scope} (own : List (Str × Nat)) {pos : Pos} {m m2 m3 : Bool} {ti : TXs} {ws : List Nat} {g : TGx} {tt : TB} {te : TX} (hnd : C.N.Nodup) (hi : EI C false tg iter m ti) (hblk : blkC C.N C.sc scope own = true := by first | rfl | decide +kernel)
    (hg : EG (C.blk scope) tg ws g) (ht : ET (C.blk scope) ifs m2 tt) (he : EX (C.blk scope) elt true m3 te) (hws : ∀ i ∈ ws, i ∈ own.map (·.2) := by decide) (hs : ∀ env x, foldedSetIterable iter env x = pure x := by intro _ _; rfl) :
    EX C (.ListComp elt [⟨tg, iter, ifs, 0⟩] scope pos) true true (xCompM ti g tt te (own.map (·.2))) := by
  obtain ⟨wi, a1, a2⟩ := hi
  obtain ⟨tv, c1, c2⟩ := hg
  obtain ⟨tt', d1, d2⟩ := ht
  obtain ⟨te', e1, e2⟩ := he
  exact ⟨tLc wi tv tt' te' (own.map (·.2)), fun X f => pe_lc f.calm (by rw [f.N]; exact hnd) (a1 X f) (by rw [f.N, f.sc]; exact blkOk_by hblk) (fun s H c cl fp => c1 _ (f.blk scope s H c cl fp)) (fun s H c cl fp => d1 _ (f.blk scope s H c cl fp)) (fun s H c cl fp => e1 _ (f.blk scope s H c cl fp)) (hs _),
    fun σ H S ρ F Q P w h k => xcompM_sound a2 c2 d2 e2 hws w h k⟩
theorem sx_setCompM (i : Nat) {y : Str} {py spos : Pos} {elt tg iter : Expr} {ifs : List Expr} {scope : Scope} (own : List (Str × Nat)) {pos : Pos} {m m2 m3 : Bool} {ti : TXs} {ws : List Nat} {g : TGx} {tt : TB} {te : TX} (hnd : C.N.Nodup) (hi : EI C false tg iter m ti) (hblk : blkC C.N C.sc scope own = true := by first | rfl | decide +kernel)
    (hg : EG (C.blk scope) tg ws g) (ht : ET (C.blk scope) ifs m2 tt) (he : EX (C.blk scope) elt true m3 te) (hws : ∀ i ∈ ws, i ∈ own.map (·.2) := by decide)
    (hN : C.N[i]? = some y := by rfl) (hy : C.sc.names.lookup y = some .local := by rfl) (hio : C.io[i]? ≠ some true := by first | decide | simp) (hl : (py.line == pos.line) = true := by rfl) (hk : C.sc.kind = .function := by rfl)
    (ha : (scope.names.any fun (n, k) => n == y && (k == .local || k == .cell)) = false := by first | rfl | decide +kernel) (hs : ∀ env x, foldedSetIterable iter env x = pure x := by intro _ _; rfl) :
    SX C (.Assign [.Name y py] (.ListComp elt [⟨tg, iter, ifs, 0⟩] scope pos) spos) (sSet (xCompM ti g tt te (own.map (·.2))) (gN i)) := by
  obtain ⟨wi, a1, a2⟩ := hi
  obtain ⟨tv, c1, c2⟩ := hg
  obtain ⟨tt', d1, d2⟩ := ht
  obtain ⟨te', e1, e2⟩ := he
  refine ⟨tAsg (tLc wi tv tt' te' (own.map (·.2))) (gName i), fun X f => ps_setLc f.calm (by rw [f.N]; exact hnd) (by rw [f.N]; exact hN) (by rw [f.sc]; exact hy) ?_ (a1 X f) (by rw [f.N, f.sc]; exact blkOk_by hblk) (fun s H c cl fp => c1 _ (f.blk scope s H c cl fp)) (fun s H c cl fp => d1 _ (f.blk scope s H c cl fp)) (fun s H c cl fp => e1 _ (f.blk scope s H c cl fp)) (hs _),
    fun σ H S ρ F D P w h k1 k2 k3 k4 => ?_⟩
  · exact sw_true (by rw [f.sc]; exact hk) (by rw [f.sc]; exact hy) hl ha
  · refine xcompM_sound a2 c2 d2 e2 hws w h fun v d S1 H1 ρ1 F1 Fd p1 ⟨hi, q1⟩ => ?_
    obtain ⟨F', w', hF⟩ := set_sound i p1.wd p1.rep (p1.fr rfl).1 hi
    exact k1 _ _ _ _ _ (set_aft p1 w' hF (kept_set hio)) q1
end
end VL

set_option Elab.async false
set_option linter.all false
set_option maxRecDepth 100000
set_option maxHeartbeats 1000000
/-! VK: lists changed in place, several targets, defs. -/
namespace VL
open PySem L2
section
variable {C : SC}
/-- a list that a name owns -/
theorem own_upd {K : PySem.W.Frag} {S H : Hp} {σ : St} {ρ : En} {F Fd : List Addr} {i : Nat} {l : List D} (w : Wd K S H σ ρ F) (hi : ρ[i]? = some (some (.own l))) (nd : (F ++ Fd).Nodup) :
    ∃ a vs G, σ[i]? = some (some (.ref a)) ∧ a ∈ F ∧ H a = some (.lst vs) ∧ RepOs K S H l vs G ∧ a ∉ G ∧ G.Nodup ∧ a ∉ Fd ∧ (∀ x ∈ G, x ∈ F) ∧ (∀ x ∈ G, x ∉ Fd) ∧
      ∀ l' vs' G', RepOs K S H l' vs' G' → (∀ x ∈ G', x ∈ G ++ Fd) → G'.Nodup → ∃ F', Wd K S (upd H a (.lst vs')) σ (ρ.set i (some (.own l'))) F' ∧ ∀ x ∈ F', x ∈ F ++ Fd := by
  obtain ⟨F1, Fi, F2, rfl, a, c⟩ := w.sl.at i
  obtain ⟨v, ev, r⟩ := a _ hi
  simp only [RepO] at r
  obtain ⟨p, vs, G, rfl, rfl, h0, h1, h2⟩ := r
  obtain ⟨n1, n2, n3⟩ := List.nodup_append.mp nd
  have nm := nodup_mid n1
  obtain ⟨m1, m2, m3⟩ := List.nodup_append.mp nm
  have pG := (List.nodup_cons.mp m2).1
  have pD : p ∉ Fd := fun z => n3 p (by simp) p z rfl
  refine ⟨p, vs, G, ev, by simp, h1, h2, pG, (List.nodup_cons.mp m2).2, pD, fun x hx => by simp [hx], fun x hx z => n3 x (by simp [hx]) x z rfl, fun l' vs' G' r' sub nd' => ?_⟩
  have pG' : p ∉ G' := fun z => by
    rcases List.mem_append.mp (sub p z) with z | z
    · exact pG z
    · exact pD z
  have kp : ∀ x, x ≠ p → ∀ o, H x = some o → upd H p (.lst vs') x = some o := fun x hx o e => by rw [upd_ne hx]; exact e
  have dF : ∀ x ∈ F1 ++ F2, x ≠ p := fun x hx e => m3 x hx p (by simp) e
  have sl := (c S (upd H p (.lst vs')) (some (.ref p)) (.refl _) (fun x hx => kp x (dF x hx)) fun _ _ e => e).2.2 (.ref p) (.own l') (p :: G') rfl (by
    simp only [RepO]
    exact ⟨p, vs', G', rfl, rfl, h0, upd_same, r'.mono (.refl _) (fun x hx => kp x fun e => pG' (e ▸ hx)) fun _ _ e => e⟩) (List.getElem?_eq_some_iff.mp hi).1
  rw [set_same ev] at sl
  refine ⟨F1 ++ (p :: G' ++ F2), ⟨same_updR w.sub h0, w.imm.updM trivial, sl, ?_⟩, fun x hx => ?_⟩
  · obtain ⟨o1, o2, o3⟩ := List.nodup_append.mp m1
    have gF : ∀ x ∈ G', x ∉ F1 ++ F2 := fun x hx z => by
      rcases List.mem_append.mp (sub x hx) with y | y
      · exact m3 x z x (by simp [y]) rfl
      · exact n3 x (by rcases List.mem_append.mp z with q | q <;> simp [q]) x y rfl
    refine List.nodup_append.mpr ⟨o1, List.nodup_append.mpr ⟨List.nodup_cons.mpr ⟨pG', nd'⟩, o2, fun x hx y hy e => ?_⟩, fun x hx y hy e => ?_⟩
    · subst e
      rcases List.mem_cons.mp hx with z | z
      · exact dF x (by simp [hy]) z
      · exact gF x z (by simp [hy])
    · subst e
      rcases List.mem_append.mp hy with z | z
      · rcases List.mem_cons.mp z with z | z
        · exact dF x (by simp [hx]) z
        · exact gF x z (by simp [hx])
      · exact o3 x hx x z rfl
  · rcases List.mem_append.mp hx with z | z
    · simp [z]
    · rcases List.mem_append.mp z with z | z
      · rcases List.mem_cons.mp z with z | z
        · simp [z]
        · rcases List.mem_append.mp (sub x z) with q | q <;> simp [q]
      · simp [z]
theorem Po.all {K : PySem.W.Frag} {m : Bool} {S S1 H H1 : Hp} {σ : St} {ρ ρ1 : En} {F F1 Fd : List Addr} {v : V} {d : D} (p1 : Po K true m F S H σ ρ S1 H1 ρ1 F1 v d Fd) : Step F S H S1 H1 (F1 ++ Fd) :=
  ⟨p1.step.s, p1.step.h, p1.step.new, fun a ha => by
    rcases List.mem_append.mp ha with z | z
    · exact p1.step.fp a z
    · exact (p1.fr rfl).2 a z⟩
theorem step_upd {S H : Hp} {F F' : List Addr} {a : Addr} {o : HO} (ha : a ∈ F) (hF : ∀ x ∈ F', x ∈ F) : Step F S H S (upd H a o) F' :=
  ⟨.refl _, fun x u e n => by rw [upd_ne (by rintro rfl; exact n ha)]; exact e, fun _ _ e => .inl e, fun x hx => .inl (hF x hx)⟩
theorem own_aft {m : Bool} {S S1 H H1 : Hp} {σ : St} {ρ ρ1 ρ' : En} {F F1 F' Fd : List Addr} {v : V} {d : D} {a : Addr} {o : HO} (p1 : Po C.K true m F S H σ ρ S1 H1 ρ1 F1 v d Fd) (ha : a ∈ F1) (w' : Wd C.K S1 (upd H1 a o) σ ρ' F') (hF : ∀ a ∈ F', a ∈ F1 ++ Fd) :
    Aft C.K C.io F S H σ S1 (upd H1 a o) σ ρ' F' := ⟨p1.all.trans (step_upd (by simp [ha]) hF), w', .refl⟩
/-! ### xs.append(e) -/
def sApp (i : Nat) (t : TX) : TSx := fun D' ρ => (∃ l, ρ[i]? = some (some (.own l))) ∧ t ρ fun d ρ' => ∃ l, ρ'[i]? = some (some (.own l)) ∧ l.length < 1000000 ∧ D'.nx (ρ'.set i (some (.own (l ++ [d]))))
theorem sx_append (i : Nat) {x : Str} {p apos cpos pos : Pos} {e : Expr} {m : Bool} {t : TX} (he : EX C e true m t) (hN : C.N[i]? = some x := by rfl) (hv : Vis C.sc x := by first | exact Or.inl rfl | exact Or.inr (Or.inl rfl) | exact Or.inr (Or.inr rfl))
    (hd : (x == ("__debug__" : Str)) = false := by decide) (hcd : (x == ("__classdict__" : Str)) = false := by decide)
    (hbase : ∀ env, attributeBase (.Name x p) "append" env (eval (.Name x p) env) = eval (.Name x p) env := by intro _; rfl)
    (hst : ∀ env, starEach [e] env = (false, eval e env) :: starEach [] env := by intro _; rfl)
    (hfew : ∀ env, ((backTo cpos (starEach [e] env)).all (fun x => !x.1) && (backToKw cpos (keywordEach [] env)).all (fun x => x.1.isSome)
      && decide (([e] : List Expr).length + ([] : List Keyword).length + (if ([] : List Keyword).isEmpty then 0 else 1) < 30)) = true := by intro _; rfl)
    (hline : (apos.endLine == cpos.line) = true := by rfl) (hplain : ∀ env, (backTo cpos (starEach [] env)).any (·.1) = false := by intro _; rfl)
    (hs : ∀ env, swapsWith (.Call (.Attribute (.Name x p) "append" apos) [e] [] cpos) none pos.line env = pure false := by intro _; rfl) :
    SX C (.Expr (.Call (.Attribute (.Name x p) "append" apos) [e] [] cpos) pos) (sApp i t) := by
  obtain ⟨te, a1, a2⟩ := he
  refine ⟨tDrop (tBM C.K "list" rAppend (tVar i) (tCons te tNil)), fun X f => ?_, fun σ H S ρ F D P w h k1 k2 k3 k4 => ?_⟩
  · rw [← f.K]
    exact ps_expr (pe_bm PySem.F.plainAttrs_list PySem.F.slot_list_append PySem.F.type_list_append mt_append (pe_var (by rw [f.N]; exact hN) (by rw [f.sc]; exact hv) hd hcd) (pa_cons (a1 X f) pa_nil (hst _)) (hbase _) (hfew _) hline (hst _) (hplain _)) (hs _)
  · obtain ⟨⟨l0, h0⟩, h⟩ := h
    obtain ⟨F1, Fi, F2, hF, a, _⟩ := w.sl.at i
    obtain ⟨v0, hv0, r0⟩ := a _ h0
    simp only [RepO] at r0
    obtain ⟨p0, vs0, G0, rfl, _, _, q0, _⟩ := r0
    refine ⟨.ref p0, hv0, .inl ⟨rfl, vs0, SqL.of q0⟩, a2 σ H S ρ F _ _ w h fun v d S1 H1 ρ1 F1 Fd p1 ⟨l, e1, hl, q1⟩ => ?_⟩
    obtain ⟨p2, vs, G, ev, hp, g1, g2, g3, g4, g5, g6, g7, g8⟩ := own_upd p1.wd e1 (p1.fr rfl).1
    obtain rfl : p0 = p2 := by rw [hv0] at ev; cases ev; rfl
    obtain ⟨F', w', hF'⟩ := g8 _ _ (G ++ Fd) (g2.snoc p1.rep) (fun _ h => h) (List.nodup_append.mpr ⟨g4, (List.nodup_append.mp (p1.fr rfl).1).2.1, fun x hx y hy e => g7 x hx (e ▸ hy)⟩)
    exact ⟨p0, vs, v, rfl, rfl, g1, by rw [g2.length, sizeLine_eq]; omega, k1 _ _ _ _ _ (own_aft p1 hp w' hF') q1⟩
/-! ### x[e] = v of what holds nothing owned -/
theorem RepSs.set {K : PySem.W.Frag} {S : Hp} : ∀ {l : List D} {vs : List V} {d : D} {v : V} (j : Nat), RepSs K S l vs → RepS K S d v → RepSs K S (l.set j d) (vs.set j v)
  | [], vs, d, v, j, h, r => by simp only [RepSs] at h; subst h; simp [RepSs]
  | x :: l, vs, d, v, 0, h, r => by
    simp only [RepSs] at h
    obtain ⟨u, ws, rfl, h1, h2⟩ := h
    simp only [List.set_cons_zero, RepSs]
    exact ⟨v, ws, rfl, r, h2⟩
  | x :: l, vs, d, v, j + 1, h, r => by
    simp only [RepSs] at h
    obtain ⟨u, ws, rfl, h1, h2⟩ := h
    simp only [List.set_cons_succ, RepSs]
    exact ⟨u, ws.set j v, rfl, h1, RepSs.set j h2 r⟩
def setAt (l : List D) (k : Int) (d : D) : Option (List D) := (ixN l.length k).map fun j => l.set j d
def sSt (i : Nat) (tv ti : TX) : TSx := fun D' ρ => tv ρ fun d ρ1 => (∃ d0, ρ1[i]? = some (some d0)) ∧ ti ρ1 fun y ρ2 => ∃ l k l', ρ2[i]? = some (some (.own l)) ∧ y = .int k ∧ pureL l = true ∧ setAt l k d = some l' ∧ D'.nx (ρ2.set i (some (.own l')))
theorem sx_store (i : Nat) {x : Str} {p spos pos : Pos} {e ix : Expr} {m m2 b2 : Bool} {tv ti : TX} (he : EX C e true m tv) (hi : EX C ix b2 m2 ti) (hN : C.N[i]? = some x := by rfl) (hv : Vis C.sc x := by first | exact Or.inl rfl | exact Or.inr (Or.inl rfl) | exact Or.inr (Or.inr rfl))
    (hd : (x == ("__debug__" : Str)) = false := by decide) (hcd : (x == ("__classdict__" : Str)) = false := by decide) (hpg : ∀ X, ∀ to tix t, PE X (.Name x p) to → PE X ix tix → PSet X t → PG X (.Subscript (.Name x p) ix spos) (gSub to tix t) := by intro X to tix t h1 h2 h3; exact pg_sub h1 h2 h3)
    (hs : ∀ env, swapsWithSole [.Subscript (.Name x p) ix spos] e pos.line env = pure false := by intro _; rfl) (hw : ∀ env, swappedStores [.Subscript (.Name x p) ix spos] e env = pure none := by intro _; rfl)
    (h1 : ∀ env, (assignEach [.Subscript (.Name x p) ix spos] env).map (·.2) = [assign (.Subscript (.Name x p) ix spos) env] := by intro _; rfl) :
    SX C (.Assign [.Subscript (.Name x p) ix spos] e pos) (sSt i (xP tv) ti) := by
  obtain ⟨te, a1, a2⟩ := he
  obtain ⟨tix, c1, c2⟩ := hi
  refine ⟨tAsg te (gSub (tVar i) tix rSetL), fun X f => ps_asg (a1 X f) (hpg X _ _ _ (pe_var (by rw [f.N]; exact hN) (by rw [f.sc]; exact hv) hd hcd) (c1 X f) set_list) (hs _) (hw _) (h1 _), fun σ H S ρ F D P w h k1 k2 k3 k4 => ?_⟩
  refine a2 σ H S ρ F _ _ w h fun v d S1 H1 ρ1 F1 Fd p1 ⟨dp, ⟨d0, h0⟩, q1⟩ => ?_
  obtain ⟨rd, rfl⟩ := p1.rep.to_pure dp
  obtain ⟨A1, Ai, A2, hF, a, _⟩ := p1.wd.sl.at i
  obtain ⟨v0, hv0, r0⟩ := a _ h0
  refine ⟨v0, hv0, c2 σ H1 S1 ρ1 F1 _ _ p1.wd q1 fun u y S2 H2 ρ2 F2 Fd2 p2 ⟨l, kk, l', e1, ey, hp, hs', q2⟩ => ?_⟩
  subst ey
  obtain ⟨p3, vs, G, ev, hpF, g1, g2, g3, g4, g5, g6, g7, g8⟩ := own_upd (Fd := []) p2.wd e1 (by simpa using p2.wd.nd)
  obtain ⟨g2', rfl⟩ := g2.to_pure hp
  unfold setAt at hs'
  rw [Option.map_eq_some_iff] at hs'
  obtain ⟨j, hj, rfl⟩ := hs'
  obtain ⟨F', w', hF'⟩ := g8 _ _ [] (.of_pure (g2'.set j (rd.mono p2.step.s))) (fun _ h => h) .nil
  have P2 : Po C.K true m F S H σ ρ S1 H1 ρ1 F1 .non .non [] := p1.tst
  have A2' : Aft C.K C.io F S H σ S2 (upd H2 p3 (.lst (vs.set j v))) σ (ρ2.set i (some (.own (l.set j d)))) F' :=
    ⟨(P2.step.trans p2.step).trans (step_upd hpF fun x hx => by simpa using hF' x hx), w', .refl⟩
  exact ⟨p3, vs, kk, j, by rw [hv0] at ev; cases ev; rfl, p2.rep.int_inv, g1, by rw [g2'.length]; exact hj, k1 _ _ _ _ _ A2' q2⟩
/-! ### x op= e, x a local name -/
def sAug (i : Nat) (f : D → D → Option D) (t : TX) : TSx := fun D' ρ => (∃ x, ρ[i]? = some (some (.int x))) ∧ t ρ fun y ρ' => ∃ x z, ρ'[i]? = some (some x) ∧ f x y = some z ∧ z.pure = true ∧ i < ρ'.length ∧ D'.nx (ρ'.set i (some z))
theorem sx_augI {op : Operator} {g : Int → Int → Int} (i : Nat) {x : Str} {p pos : Pos} {e : Expr} {b m : Bool} {t : TX} (hop : ∀ X : Cx, PIp X op (ipI g)) (hnd : C.N.Nodup) (he : EX C e b m t) (hN : C.N[i]? = some x := by rfl) (hx : Loc C.sc x := by first | exact Or.inl rfl | exact Or.inr rfl)
    (hf : C.fn x = true ∨ C.sc.names.lookup x = some .local := by first | exact .inl rfl | exact .inr rfl | assumption) (hio : C.io[i]? ≠ some true := by first | decide | simp) :
    SX C (.AugAssign (.Name x p) op e pos) (sAug i (fI fun i j => some (.int (g i j))) t) := by
  obtain ⟨te, a1, a2⟩ := he
  refine ⟨tAug i te (ipI g), fun X f => ps_aug (by rw [f.N]; exact hnd) (by rw [f.N]; exact hN) (by rw [f.sc]; exact hx) (a1 X f) (hop X) (by rw [f.fn, f.sc]; exact hf), fun σ H S ρ F D P w h k1 k2 k3 k4 => ?_⟩
  obtain ⟨⟨x0, h0⟩, h⟩ := h
  obtain ⟨A1, Ai, A2, hF, a, _⟩ := w.sl.at i
  obtain ⟨v0, hv0, r0⟩ := a _ h0
  refine ⟨v0, hv0, a2 σ H S ρ F _ _ w h fun u y S1 H1 ρ1 F1 Fd p1 ⟨xd, z, e1, hz, zp, hl, q1⟩ => ?_⟩
  obtain ⟨i', j', rfl, rfl, ez⟩ := fI_inv hz
  cases ez
  obtain ⟨B1, Bi, B2, hF2, a', _⟩ := p1.wd.sl.at i
  obtain ⟨v1, hv1, r1⟩ := a' _ e1
  obtain rfl : v0 = v1 := by rw [hv0] at hv1; cases hv1; rfl
  obtain ⟨F', w', hF'⟩ := set_sound (v := .int (g i' j')) (d := .int (g i' j')) (Fd := []) i p1.wd (by simp only [RepO, RepS]; exact ⟨trivial, trivial⟩) (by simpa using p1.wd.nd) hl
  exact ⟨i', j', r1.int_inv, p1.rep.int_inv, k1 _ _ _ _ _ ⟨p1.step.less fun x hx => by simpa using hF' x hx, w', kept_set hio⟩ q1⟩
/-! ### several names at once -/
def setAll : St → List Nat → List V → St
  | σ, i :: is, v :: vs => setAll (σ.set i (some v)) is vs
  | σ, _, _ => σ
def gsL : List Nat → TGsx
  | [] => gsN
  | i :: is => gsC (gN i) (gsL is)
theorem setAll_sound {K : PySem.W.Frag} {S H : Hp} : ∀ {is : List Nat} {σ : St} {ρ : En} {F Fd : List Addr} {vs : List V} {ds : List D} {Q : En → Prop}, Wd K S H σ ρ F → RepOs K S H ds vs Fd → (F ++ Fd).Nodup → gsL is ds ρ Q →
    ∃ ρ' F', Wd K S H (setAll σ is vs) ρ' F' ∧ (∀ a ∈ F', a ∈ F ++ Fd) ∧ Only is σ (setAll σ is vs) ∧ vs.length = is.length ∧ Q ρ'
  | [], σ, ρ, F, Fd, vs, ds, Q, w, r, nd, ⟨e, q⟩ => by
    subst e
    simp only [RepOs] at r
    obtain ⟨rfl, rfl⟩ := r
    exact ⟨ρ, F, w, fun a h => by simp [h], .refl, rfl, q⟩
  | i :: is, σ, ρ, F, Fd, vs, ds, Q, w, r, nd, ⟨d, rr, e, hi, q⟩ => by
    subst e
    simp only [RepOs] at r
    obtain ⟨v, ws, F1, F2, rfl, rfl, r1, r2⟩ := r
    obtain ⟨x1, x2, x3⟩ := List.nodup_append.mp nd
    obtain ⟨y1, y2, y3⟩ := List.nodup_append.mp x2
    have nd1 : (F ++ F1).Nodup := List.nodup_append.mpr ⟨x1, y1, fun a ha b hb => x3 a ha b (by simp [hb])⟩
    obtain ⟨F', w', hF⟩ := set_sound i w r1 nd1 hi
    have nd2 : (F' ++ F2).Nodup := by
      refine List.nodup_append.mpr ⟨w'.nd, y2, fun a ha b hb e => ?_⟩
      rcases List.mem_append.mp (hF a ha) with z | z
      · exact x3 a z b (by simp [hb]) e
      · exact y3 a z b hb e
    obtain ⟨ρ2, F3, w2, hF2, o2, hl, q2⟩ := setAll_sound w' r2 nd2 q
    refine ⟨ρ2, F3, w2, fun a ha => ?_, only_set.trans o2, by simp [hl], q2⟩
    rcases List.mem_append.mp (hF2 a ha) with z | z
    · rcases List.mem_append.mp (hF a z) with z | z <;> simp [z]
    · simp [z]
theorem sx_par3 {x y z : Str} {a b c : Expr} {px py pz pt pos : Pos} {kt k2 pt2} {m : Bool} {t : TXs} (i j l : Nat) (hnd : C.N.Nodup) (hab : EA C [a, b, c] true m t) (hN : C.N[i]? = some x := by rfl) (hN2 : C.N[j]? = some y := by rfl) (hN3 : C.N[l]? = some z := by rfl) (hij : i ≠ j := by decide) (hil : i ≠ l := by decide) (hjl : j ≠ l := by decide)
    (hx : C.sc.names.lookup x = some .local := by rfl) (hy : C.sc.names.lookup y = some .local := by rfl) (hz : C.sc.names.lookup z = some .local := by rfl) (hio : ∀ u ∈ [i, j, l], C.io[u]? ≠ some true := by first | decide | simp)
    (hw : swappedStores [.Tuple [.Name x px, .Name y py, .Name z pz] kt pt] (.Tuple [a, b, c] k2 pt2) (envS C.sc) = pure (some [x, y, z]) := by rfl)
    (hs : ∀ env, swapsWithSole [.Tuple [.Name x px, .Name y py, .Name z pz] kt pt] (.Tuple [a, b, c] k2 pt2) pos.line env = pure false := by intro _; rfl) :
    SX C (.Assign [.Tuple [.Name x px, .Name y py, .Name z pz] kt pt] (.Tuple [a, b, c] k2 pt2) pos) (sPar t (gsL [i, j, l])) := by
  obtain ⟨te, a1, a2⟩ := hab
  refine ⟨tPar3 i j l te, fun X f => ps_par3 f.calm (by rw [f.N]; exact hnd) (by rw [f.N]; exact hN) (by rw [f.N]; exact hN2) (by rw [f.N]; exact hN3) hij hil hjl (by rw [f.sc]; exact hx) (by rw [f.sc]; exact hy) (by rw [f.sc]; exact hz) (a1 X f) ((swapped_of (by rw [f.sc]; rfl)).trans hw) (hs _), fun σ H S ρ F D P w h k1 k2 k3 k4 => ?_⟩
  refine a2 σ H S ρ F _ _ w h fun vs ds S1 H1 ρ1 F1 Fd p1 q1 => ?_
  obtain ⟨ρ', F', w', hF, o, hl, q⟩ := setAll_sound p1.wd p1.rep (p1.fr rfl).1 q1
  match vs, hl with
  | [u, v, t'], _ => exact ⟨u, v, t', rfl, k1 _ _ _ _ _ (pos_aft p1 w' hF (o.kept hio)) q⟩
/-- .. a tuple is made and taken apart: names that are captured -/
theorem sx_parT {es ts : List Expr} {kt pt k2 pt2 : _} {pos : Pos} {m : Bool} {n : Nat} {t : TXs} {ws : List Nat} {h : TGsx} (hab : EA C es true m t) (hg : EGs C ts ws h) (hl : ts.length = n := by rfl) (hn' : n ≤ 1000 := by decide) (hio : ∀ u ∈ ws, C.io[u]? ≠ some true := by first | decide | simp)
    (hn : ∀ env, (assignEach ts env).length = n := by intro _; rfl) (hst : ∀ env, (assignEach ts env).findIdx? (·.1) = none := by intro _; rfl)
    (hs : ∀ env, swapsWithSole [.Tuple ts kt pt] (.Tuple es k2 pt2) pos.line env = pure false := by intro _; rfl) (hw : swappedStores [.Tuple ts kt pt] (.Tuple es k2 pt2) (envS C.sc) = pure none := by rfl)
    (h1 : ∀ env, (assignEach [.Tuple ts kt pt] env).map (·.2) = [assign (.Tuple ts kt pt) env] := by intro _; rfl) :
    SX C (.Assign [.Tuple ts kt pt] (.Tuple es k2 pt2) pos) (sPar t fun ds ρ Q => ds.length = n ∧ h ds ρ Q) := by
  obtain ⟨te, a1, a2⟩ := hab
  obtain ⟨tv, c1, c2⟩ := hg
  refine ⟨tAsg (tTup te) (gTup C.K n tv), fun X f => ps_asg (pe_tup (a1 X f)) (by rw [← f.K]; exact pg_tup f.calm (c1 X f) (hn _) (hst _)) (hs _) ((swapped_of (by rw [f.sc]; rfl)).trans hw) (h1 _), fun σ H S ρ F D P w h k1 k2 k3 k4 => ?_⟩
  refine a2 σ H S ρ F _ _ w h fun vs ds S1 H1 ρ1 F1 Fd p1 ⟨hd, q1⟩ => ?_
  have hvl : vs.length = n := by rw [p1.rep.length, hd]
  refine ⟨by rw [hvl, sizeLine_eq]; omega, fun p hp => ?_⟩
  have hps := none_sub p1.wd.sub hp
  have ss : Same S1 (upd S1 p (.tup vs)) := same_upd hps
  have hh : Same H1 (upd H1 p (.tup vs)) := same_upd hp
  have nn : ∀ a o, upd S1 p (.tup vs) a = some o → S1 a = some o ∨ H1 a = none := fun a o e => by
    by_cases q : a = p
    · subst q; exact .inr hp
    · rw [upd_ne q] at e; exact .inl e
  have w2 : Wd C.K (upd S1 p (.tup vs)) (upd H1 p (.tup vs)) σ ρ1 F1 := ⟨same_upd2 p1.wd.sub, p1.wd.imm.upd hp p1.wd.sub, p1.wd.sl.same ss hh nn, p1.wd.nd⟩
  refine ⟨p, vs, rfl, .inl (.inl upd_same), hvl, c2 σ (upd H1 p (.tup vs)) (upd S1 p (.tup vs)) ρ1 F1 vs ds Fd _ _ w2 (p1.rep.same ss hh nn) (p1.fr rfl).1 q1 fun σ' ρ' F' w' hF o q => ?_⟩
  refine k1 _ _ _ _ _ ⟨⟨p1.step.s.trans ss, fun a u e n => hh _ _ (p1.step.h a u e n), fun a u e => ?_, fun a ha => ?_⟩, w', o.kept hio⟩ q
  · have back : H1 a = none → a ∈ F ∨ H a = none := fun hb => by
      by_cases c : a ∈ F
      · exact .inl c
      · refine .inr ?_
        cases r : H a with
        | none => rfl
        | some o => rw [p1.step.h a o r c] at hb; cases hb
    rcases nn a u e with z | z
    · exact p1.step.new a u z
    · exact .inr (back z)
  · rcases List.mem_append.mp (hF a ha) with z | z
    · exact p1.step.fp a z
    · exact (p1.fr rfl).2 a z

/-! ### defs -/
def maskE : List Bool → En → En
  | [], _ => []
  | true :: io, x :: ρ => x :: maskE io ρ
  | false :: io, _ :: ρ => none :: maskE io ρ
  | _ :: io, [] => none :: maskE io []
def startE (N : List Str) (ds : List D) : En := ds.map some ++ List.replicate (N.length - ds.length) none
theorem Slots.mask {K : PySem.W.Frag} {S H : Hp} : ∀ {io : List Bool} {vs : List V} {σ : St} {ρ : En} {F : List Addr}, io.length = vs.length → Slots K S H σ ρ F → (∀ (i : Nat) (v : V), io[i]? = some true → vs[i]? = some v → σ[i]? = some (some v)) →
    ∃ F', Slots K S H (vs.map some) (maskE io ρ) F' ∧ (∀ a ∈ F', a ∈ F) ∧ (F.Nodup → F'.Nodup)
  | [], [], σ, ρ, F, _, h, k => ⟨[], by cases ρ <;> rfl, fun _ h => by simp at h, fun _ => .nil⟩
  | b :: io, v :: vs, [], [], F, hl, h, k => by
    obtain ⟨F', h1, h2, h3⟩ := Slots.mask (io := io) (vs := vs) (σ := []) (ρ := []) (F := []) (K := K) (S := S) (H := H) (by simpa using hl) rfl fun i u e1 e2 => by
      have := k (i + 1) u (by simpa using e1) (by simpa using e2)
      simp at this
    refine ⟨F', ?_, fun a ha => by simpa using h2 a ha, fun _ => h3 .nil⟩
    cases b <;> exact h1
  | b :: io, v :: vs, x :: σ, none :: ρ, F, hl, h, k => by
    obtain ⟨F', h1, h2, h3⟩ := Slots.mask (io := io) (vs := vs) (σ := σ) (ρ := ρ) (F := F) (K := K) (S := S) (H := H) (by simpa using hl) h fun i u e1 e2 => by
      simpa using k (i + 1) u (by simpa using e1) (by simpa using e2)
    refine ⟨F', ?_, h2, h3⟩
    cases b <;> exact h1
  | true :: io, v :: vs, x :: σ, some d :: ρ, F, hl, h, k => by
    obtain ⟨u, F1, F2, e1, rfl, e3, e4⟩ := h
    obtain ⟨F', h1, h2, h3⟩ := Slots.mask (io := io) (vs := vs) (σ := σ) (ρ := ρ) (F := F2) (K := K) (S := S) (H := H) (by simpa using hl) e4 fun i u e1 e2 => by
      simpa using k (i + 1) u (by simpa using e1) (by simpa using e2)
    have e5 := k 0 v rfl rfl
    subst e1
    simp at e5
    subst e5
    refine ⟨F1 ++ F', ⟨u, F1, F', rfl, rfl, e3, h1⟩, fun a ha => ?_, fun n => ?_⟩
    · rcases List.mem_append.mp ha with z | z
      · simp [z]
      · simp [h2 a z]
    · obtain ⟨n1, n2, n3⟩ := List.nodup_append.mp n
      exact List.nodup_append.mpr ⟨n1, h3 n2, fun a ha b hb => n3 a ha b (h2 b hb)⟩
  | false :: io, v :: vs, x :: σ, some d :: ρ, F, hl, h, k => by
    obtain ⟨u, F1, F2, e1, rfl, e3, e4⟩ := h
    obtain ⟨F', h1, h2, h3⟩ := Slots.mask (io := io) (vs := vs) (σ := σ) (ρ := ρ) (F := F2) (K := K) (S := S) (H := H) (by simpa using hl) e4 fun i u e1 e2 => by
      simpa using k (i + 1) u (by simpa using e1) (by simpa using e2)
    exact ⟨F', h1, fun a ha => by simp [h2 a ha], fun n => h3 (List.nodup_append.mp n).2.1⟩
  | [], _ :: _, _, _, _, hl, _, _ => by simp at hl
  | _ :: _, [], _, _, _, hl, _, _ => by simp at hl
  | _ :: _, _ :: _, [], _ :: _, _, _, h, _ => False.elim h
  | _ :: _, _ :: _, _ :: _, [], _, _, h, _ => by exact False.elim (by simpa [Slots] using h)
theorem slots_none {K : PySem.W.Frag} {S H : Hp} : ∀ k : Nat, Slots K S H (List.replicate k none) (List.replicate k none) []
  | 0 => rfl
  | k + 1 => slots_none k
theorem slots_start {K : PySem.W.Frag} {S H : Hp} {k : Nat} : ∀ {ds : List D} {vs : List V} {F : List Addr}, RepOs K S H ds vs F → Slots K S H (vs.map some ++ List.replicate k none) (ds.map some ++ List.replicate k none) F
  | [], vs, F, h => by
    simp only [RepOs] at h
    obtain ⟨rfl, rfl⟩ := h
    exact slots_none k
  | d :: ds, vs, F, h => by
    simp only [RepOs] at h
    obtain ⟨v, ws, F1, F2, rfl, rfl, h1, h2⟩ := h
    exact ⟨v, F1, F2, rfl, rfl, h1, slots_start h2⟩
theorem okD {P : Program} {w : World} {K : PySem.W.Frag} {mg : Str → Option Value} {base : Heap} {x qual : Str} {params : Arguments} {body : List Stmt} {scope : Scope} {f : Addr} {fd : FuncData} {N ps : List Str} {lv n : Nat} {φ : Ph} {t : TSx} {dvs : List V} {kws : List (Str × V)} (io : List Bool)
    (F : FunD K x qual params body scope dvs kws f fd) (Sc : FnScope N ps scope) (hn : ps.length = n) (hio : io.length = n) (hb : SXs ⟨P, w, K, mg, base, N, scope, lv, io, fun _ => true⟩ body t)
    (h : ∀ (ds : List D) (R : D → En → Prop), ds.length = n → φ ds R → t { nx := fun ρ => R .non (maskE io ρ), rt := fun d ρ => R d (maskE io ρ) } (startE N ds)) : FnOk P w K mg base CX0 (lv + 1) f fd ps (spD K n φ) := by
  obtain ⟨ts, b1, b2⟩ := hb
  refine F.ok Sc (fun vs H Q E q => by rw [hn]; exact q.1) fun cdv A outer s H vs Q E hr q => ?_
  obtain ⟨hl, S, ds, G, sub, im, r, nd, R, hφ, k⟩ := q
  refine ⟨ts, PSs.nox (b1 _ ⟨rfl, rfl, rfl, rfl, rfl, rfl, rfl, rfl, hr, rfl, rfl⟩), ?_⟩
  have hdl : ds.length = n := by rw [← r.length]; exact hl
  have w0 : Wd K S H (L2.start N vs) (startE N ds) G := ⟨sub, im, by unfold L2.start startE; rw [r.length]; exact slots_start r, nd⟩
  have st0 : ∀ (i : Nat) (v : V), io[i]? = some true → vs[i]? = some v → (L2.start N vs)[i]? = some (some v) := fun i v _ e => by
    unfold L2.start
    have hi : i < vs.length := (List.getElem?_eq_some_iff.mp e).1
    rw [List.getElem?_append_left (by simpa using hi), List.getElem?_map, e]; rfl
  refine b2 _ H S _ G _ _ w0 (h ds R hdl hφ) (fun S' H' σ' ρ' F' a q => ?_) (fun S' H' σ' ρ' F' v d Fd a q => ?_) (fun _ _ _ _ _ _ q => False.elim q) fun _ _ _ _ _ _ q => False.elim q
  · obtain ⟨F2, m1, m2, m3⟩ := Slots.mask (by rw [hio, hl]) a.wd.sl fun i v e1 e2 => (a.kept i e1).trans (st0 i v e1 e2)
    exact k S' H' .non .non _ F2 [] (a.step.less m2) a.wd.sub a.wd.imm m1 (by simp only [RepO, RepS]; exact ⟨trivial, trivial⟩) (by simpa using m3 a.wd.nd) (fun _ h => by cases h) q
  · obtain ⟨F2, m1, m2, m3⟩ := Slots.mask (by rw [hio, hl]) a.aft.wd.sl fun i v e1 e2 => (a.aft.kept i e1).trans (st0 i v e1 e2)
    obtain ⟨n1, n2, n3⟩ := List.nodup_append.mp a.nd
    exact k S' H' v d _ F2 Fd (a.aft.step.less m2) a.aft.wd.sub a.aft.wd.imm m1 a.rep (List.nodup_append.mpr ⟨m3 n1, n2, fun x hx y hy => n3 x (m2 x hx) y hy⟩) a.fr q
end
end VL

set_option Elab.async false
set_option linter.all false
set_option maxRecDepth 100000
set_option maxHeartbeats 1000000
/-! VM: more operators and built-ins. -/
namespace VL
open PySem L2
section
variable {C : SC}
/-! ### is, of ints and bools -/
def scalD : D → D → Option Bool
  | .bl a, .bl b => some (decide (a = b))
  | .int _, .bl _ => some false
  | .bl _, .int _ => some false
  | .non, .bl _ => some false
  | .tup _, .bl _ => some false
  | .str _, .bl _ => some false
  | _, _ => none
theorem scalD_ne {K : PySem.W.Frag} {S H : Hp} {x y : D} {vx vy : V} {F G : List Addr} {c : Bool} (h : scalD x y = some c) (rx : RepO K S H x vx F) (ry : RepO K S H y vy G) : ∃ k, vy = .bl k ∧ (match vx with
    | .bl j => c = decide (j = k)
    | .int _ => c = false
    | .non => c = false
    | .ref _ => c = false
    | .str _ => c = false
    | _ => False) ∨ (∃ i j, vx = .bl i ∧ vy = .int j ∧ c = false) := by
  cases x <;> cases y <;> simp only [scalD] at h <;> first | cases h | skip
  · simp only [RepO, RepS] at rx ry; obtain ⟨rfl, _⟩ := rx; obtain ⟨rfl, _⟩ := ry; exact ⟨_, .inl ⟨rfl, rfl⟩⟩
  · simp only [RepO, RepS] at rx ry; obtain ⟨rfl, _⟩ := rx; obtain ⟨rfl, _⟩ := ry; exact ⟨_, .inl ⟨rfl, rfl⟩⟩
  · simp only [RepO, RepS] at rx ry; obtain ⟨rfl, _⟩ := rx; obtain ⟨rfl, _⟩ := ry; exact ⟨true, .inr ⟨_, _, rfl, rfl, rfl⟩⟩
  · simp only [RepO, RepS] at rx ry; obtain ⟨rfl, _⟩ := rx; obtain ⟨rfl, _⟩ := ry; exact ⟨_, .inl ⟨rfl, rfl⟩⟩
  · simp only [RepO, RepS] at rx ry; obtain ⟨rfl, _⟩ := rx; obtain ⟨rfl, _⟩ := ry; exact ⟨_, .inl ⟨rfl, rfl⟩⟩
  · simp only [RepO, RepS] at rx ry; obtain ⟨⟨a, vs, rfl, _⟩, _⟩ := rx; obtain ⟨rfl, _⟩ := ry; exact ⟨_, .inl ⟨rfl, rfl⟩⟩
def rIsS : R2 := fun x y H Q => ∃ k c, y = .bl k ∧ (match x with
    | .bl j => c = decide (j = k)
    | .int _ => c = false
    | .non => c = false
    | .ref _ => c = false
    | .str _ => c = false
    | _ => False) ∧ Q (.bl c) H
theorem op_isS {X : Cx} : OpR X (compareOp .Is) rIsS := by
  intro pins s σ H x y v u Q I rx ry h
  obtain ⟨k, c, rfl, hc, q⟩ := h
  cases (show u = Value.bool k from ry)
  cases x with
  | bl j =>
    cases (show v = Value.bool j from rx)
    by_cases e : j = k
    · subst e
      exact wpAny_is_self rfl ⟨.bl true, H, I, rfl, by simpa [hc] using q⟩
    · exact wpAny_is_other rfl (fun z => e (Value.bool.inj z)) ⟨.bl false, H, I, rfl, by simpa [hc, e] using q⟩
  | int i =>
    obtain ⟨t, rfl⟩ := (show ∃ t, v = Value.int i t from rx)
    exact wpAny_is_other rfl (fun z => nomatch z) ⟨.bl false, H, I, rfl, by rw [← hc]; exact q⟩
  | non =>
    cases (show v = Value.none from rx)
    exact wpAny_is_other rfl (fun z => nomatch z) ⟨.bl false, H, I, rfl, by rw [← hc]; exact q⟩
  | ref a =>
    cases (show v = Value.ref a from rx)
    exact wpAny_is_other rfl (fun z => nomatch z) ⟨.bl false, H, I, rfl, by rw [← hc]; exact q⟩
  | str i =>
    obtain ⟨t, rfl⟩ := (show ∃ t, v = Value.str i t from rx)
    exact wpAny_is_other rfl (fun z => nomatch z) ⟨.bl false, H, I, rfl, by rw [← hc]; exact q⟩
  | _ => exact hc.elim
/-- x is True, x is False -/
def fIsB : D → D → Option D := fun x y => match x, y with
  | .bl a, .bl b => some (.bl (decide (a = b)))
  | .int _, .bl _ => some (.bl false)
  | .non, .bl _ => some (.bl false)
  | .tup _, .bl _ => some (.bl false)
  | .lst _, .bl _ => some (.bl false)
  | .str _, .bl _ => some (.bl false)
  | _, _ => none
theorem co_isB : COp C .Is true fIsB := ⟨_, fun X _ => op_isS, by
  intro x y dx dy Fx Fy S H z P sub im rx ry hz k
  cases dx <;> cases dy <;> simp only [fIsB] at hz <;> first | cases hz | skip
  · simp only [RepO, RepS] at rx ry; obtain ⟨rfl, _⟩ := rx; obtain ⟨rfl, _⟩ := ry; exact ⟨_, false, rfl, rfl, k S H _ [] (.val sub im (by simp only [RepS]))⟩
  · simp only [RepO, RepS] at rx ry; obtain ⟨rfl, _⟩ := rx; obtain ⟨rfl, _⟩ := ry; exact ⟨_, _, rfl, rfl, k S H _ [] (.val sub im (by simp only [RepS]))⟩
  · simp only [RepO, RepS] at rx ry; obtain ⟨rfl, _⟩ := rx; obtain ⟨rfl, _⟩ := ry; exact ⟨_, false, rfl, rfl, k S H _ [] (.val sub im (by simp only [RepS]))⟩
  · simp only [RepO, RepS] at rx ry; obtain ⟨rfl, _⟩ := rx; obtain ⟨rfl, _⟩ := ry; exact ⟨_, false, rfl, rfl, k S H _ [] (.val sub im (by simp only [RepS]))⟩
  · simp only [RepO, RepS] at rx ry; obtain ⟨⟨a, vs, rfl, _⟩, _⟩ := rx; obtain ⟨rfl, _⟩ := ry; exact ⟨_, false, rfl, rfl, k S H _ [] (.val sub im (by simp only [RepS]))⟩
  · simp only [RepO, RepS] at rx ry; obtain ⟨⟨a, vs, rfl, _⟩, _⟩ := rx; obtain ⟨rfl, _⟩ := ry; exact ⟨_, false, rfl, rfl, k S H _ [] (.val sub im (by simp only [RepS]))⟩⟩
/-! ### a built-in class as a value; isinstance -/
theorem ex_bltn {x : Str} {n : String} {pos : Pos} (hg : C.sc.names.lookup x = some .globalImplicit) (hm : C.mg x = none) (hv : bootBuiltins x = some (.type n)) (hn : x ≠ "__name__" := by decide) (hd : (x == ("__debug__" : Str)) = false := by decide) :
    EX C (.Name x pos) true false (xC (.opq (.ty n))) :=
  ⟨tC (.ty n), fun X f => pe_bltn (by show X.env.scope.names.lookup x = _; rw [f.sc]; exact hg) (by rw [f.mg]; exact hm) hv rfl hn hd, fun σ H S ρ F Q P w h k => k _ _ _ _ _ _ _ (.val w (by simp only [RepS])) h⟩
def D.tyN : D → Option String
  | .non => some "NoneType"
  | .bl _ => some "bool"
  | .int _ => some "int"
  | .str _ => some "str"
  | .tup _ => some "tuple"
  | .lst _ => some "list"
  | .own _ => some "list"
  | .opq _ => none
def isiB (t n : String) : Option Bool :=
  if t = n then some true else if n = "tuple" ∨ n = "list" ∨ n = "str" ∨ n = "bool" then some false else if n = "int" then some (decide (t = "bool")) else none
theorem kit_isiB {K : PySem.W.Frag} {t n : String} {b : Bool} (ht : t ∈ ["NoneType", "bool", "int", "str", "tuple", "list"]) (h : isiB t n = some b) : PySem.W.kitOne K (.type t) (.type n) = some b := by
  unfold isiB at h
  split at h
  · rename_i e; subst e; cases h
    unfold PySem.W.kitOne
    rw [if_pos (by simp)]
  · rename_i e
    simp only [List.mem_cons, List.not_mem_nil, or_false] at ht
    split at h
    · rename_i q
      cases h
      rcases q with rfl | rfl | rfl | rfl <;> rcases ht with rfl | rfl | rfl | rfl | rfl | rfl <;> first | exact absurd rfl e | rfl
    · split at h
      · rename_i q
        subst q
        cases h
        rcases ht with rfl | rfl | rfl | rfl | rfl | rfl <;> first | exact absurd rfl e | rfl
      · cases h
theorem tyN_x {K : PySem.W.Frag} {S H : Hp} {d : D} {v : V} {F : List Addr} {t : String} (sub : Same S H) (r : RepO K S H d v F) (h : d.tyN = some t) : TyX K H v (.type t) ∧ t ∈ ["NoneType", "bool", "int", "str", "tuple", "list"] := by
  have seqL : ∀ {a : Addr} {vs : List V}, SqL K H a vs → TyX K H (.ref a) (.type "list") := fun q => by
    rcases q with (q | ⟨o, q⟩) | ⟨o, its, n, h1, h2, _⟩
    · exact .base (.lst q)
    · exact .base (.frz q)
    · exact .kList h1 h2
  cases d <;> simp only [D.tyN] at h <;> first | cases h | skip
  · simp only [RepO, RepS] at r; obtain ⟨rfl, _⟩ := r; exact ⟨.base .non, by decide⟩
  · simp only [RepO, RepS] at r; obtain ⟨rfl, _⟩ := r; exact ⟨.base (.bl _), by decide⟩
  · simp only [RepO, RepS] at r; obtain ⟨rfl, _⟩ := r; exact ⟨.base (.int _), by decide⟩
  · simp only [RepO, RepS] at r; obtain ⟨rfl, _⟩ := r; exact ⟨.base (.str _), by decide⟩
  · simp only [RepO, RepS] at r
    obtain ⟨⟨a, vs, rfl, q, _⟩, _⟩ := r
    refine ⟨?_, by decide⟩
    rcases SqT.mono sub q with (q | ⟨o, q⟩) | ⟨o, its, n, h1, h2, _⟩
    · exact .base (.tup q)
    · exact .fTuple q
    · exact .kTuple h1 h2
  · simp only [RepO, RepS] at r; obtain ⟨⟨a, vs, rfl, q, _⟩, _⟩ := r; exact ⟨seqL (sub.seq q), by decide⟩
  · simp only [RepO] at r; obtain ⟨a, vs, G, rfl, _, _, q, _⟩ := r; exact ⟨seqL (.inl (.inl q)), by decide⟩
def fIsi : List D → Option D
  | [d, .opq (.ty n)] => d.tyN.bind fun t => (isiB t n).map D.bl
  | _ => none
theorem cs_isi {K : PySem.W.Frag} {b : Bool} : CallS K (rIsi K) b fIsi := by
  intro vs ds Fs S H z P sub im r hz k
  match ds, hz with
  | [d, .opq (.ty n)], hz =>
    obtain ⟨v, v2, F1, F2, rfl, r1, r2⟩ := r.two
    simp only [RepO, RepS] at r2
    obtain ⟨rfl, _⟩ := r2
    simp only [fIsi] at hz
    cases e : d.tyN with
    | none => rw [e] at hz; cases hz
    | some t =>
      rw [e, Option.bind_some, Option.map_eq_some_iff] at hz
      obtain ⟨c, hc, rfl⟩ := hz
      obtain ⟨h1, h2⟩ := tyN_x sub r1 e
      exact ⟨v, .ty n, .type t, .type n, c, rfl, .ty n, h1, kit_isiB h2 hc, k S H _ [] (.val sub im (by simp only [RepS]))⟩
/-! ### == of data -/
mutual
def D.toP : D → PyData
  | .non => .none
  | .bl b => .bool b
  | .int i => .int i
  | .str x => .str x
  | .tup l => .tuple (toPs l)
  | .lst l => .list (toPs l)
  | .own l => .list (toPs l)
  | .opq _ => .none
def toPs : List D → List PyData
  | [] => []
  | d :: r => d.toP :: toPs r
end
mutual
def D.noq : D → Bool
  | .opq _ => false
  | .tup l => noqs l
  | .lst l => noqs l
  | .own l => noqs l
  | _ => true
def noqs : List D → Bool
  | [] => true
  | d :: r => d.noq && noqs r
end
mutual
theorem RepO.dp {K : PySem.W.Frag} {S H : Hp} (sub : Same S H) : ∀ {d : D} {v : V} {F : List Addr}, d.noq = true → RepO K S H d v F → Dp K H v d.toP
  | .non, v, F, _, h => by simp only [RepO, RepS] at h; rw [h.1]; exact .non
  | .bl _, v, F, _, h => by simp only [RepO, RepS] at h; rw [h.1]; exact .bl _
  | .int _, v, F, _, h => by simp only [RepO, RepS] at h; rw [h.1]; exact .int _
  | .str _, v, F, _, h => by simp only [RepO, RepS] at h; rw [h.1]; exact .str _
  | .opq _, v, F, q, h => by simp [D.noq] at q
  | .tup l, v, F, q, h => by
    simp only [RepO, RepS] at h
    obtain ⟨⟨a, vs, rfl, h1, h2⟩, _⟩ := h
    simp only [D.toP]
    exact .tup (SqT.mono sub h1) (RepOs.dp sub (by simpa [D.noq] using q) (.of_pure (H := H) h2))
  | .lst l, v, F, q, h => by
    simp only [RepO, RepS] at h
    obtain ⟨⟨a, vs, rfl, h1, h2⟩, _⟩ := h
    simp only [D.toP]
    exact .lst (sub.seq h1) (RepOs.dp sub (by simpa [D.noq] using q) (.of_pure (H := H) h2))
  | .own l, v, F, q, h => by
    simp only [RepO] at h
    obtain ⟨a, vs, G, rfl, rfl, h0, h1, h2⟩ := h
    simp only [D.toP]
    exact .lst (.inl (.inl h1)) (RepOs.dp sub (by simpa [D.noq] using q) h2)
theorem RepOs.dp {K : PySem.W.Frag} {S H : Hp} (sub : Same S H) : ∀ {l : List D} {vs : List V} {F : List Addr}, noqs l = true → RepOs K S H l vs F → DpAll K H vs (toPs l)
  | [], vs, F, _, h => by simp only [RepOs] at h; rw [h.1]; exact .nil
  | d :: r, vs, F, q, h => by
    simp only [RepOs] at h
    obtain ⟨v, ws, F1, F2, rfl, rfl, h1, h2⟩ := h
    simp only [noqs, Bool.and_eq_true] at q
    exact .cons (RepO.dp sub q.1 h1) (RepOs.dp sub q.2 h2)
end
def fEqD : D → D → Option D := fun x y => if x.noq = true ∧ y.noq = true ∧ SeqAt.shaped x.toP = true ∧ SeqAt.shaped y.toP = true then some (.bl (PyData.eqv x.toP y.toP)) else none
def fNeD : D → D → Option D := fun x y => if x.noq = true ∧ y.noq = true ∧ SeqAt.shaped x.toP = true ∧ SeqAt.shaped y.toP = true then some (.bl (!PyData.eqv x.toP y.toP)) else none
theorem co_eqD : COp C .Eq true fEqD := ⟨rEqD C.K, fun X f => by rw [← f.K]; exact op_eqD f.room.units, by
  intro x y dx dy Fx Fy S H z P sub im rx ry hz k
  unfold fEqD at hz
  split at hz
  · rename_i e
    cases hz
    exact ⟨dx.toP, dy.toP, rx.dp sub e.1, ry.dp sub e.2.1, e.2.2.1, e.2.2.2, k S H _ [] (.val sub im (by simp only [RepS]))⟩
  · cases hz⟩
theorem co_neD : COp C .NotEq true fNeD := ⟨rNeD C.K, fun X f => by rw [← f.K]; exact op_neD f.room.units, by
  intro x y dx dy Fx Fy S H z P sub im rx ry hz k
  unfold fNeD at hz
  split at hz
  · rename_i e
    cases hz
    exact ⟨dx.toP, dy.toP, rx.dp sub e.1, ry.dp sub e.2.1, e.2.2.1, e.2.2.2, k S H _ [] (.val sub im (by simp only [RepS]))⟩
  · cases hz⟩
/-! ### lists, tuples put together -/
def fCatL : D → D → Option D := fun x y => match x, y with
  | .own a, .own b => if pureL a = true ∧ pureL b = true ∧ a.length + b.length ≤ 1000000 then some (.own (a ++ b)) else none
  | _, _ => none
theorem bo_catL : BOp C .Add true fCatL := ⟨rCat, fun X _ => op_cat, by
  intro x y dx dy Fx Fy S H z P sub im rx ry hz k
  cases dx <;> cases dy <;> simp only [fCatL] at hz <;> first | cases hz | skip
  split at hz
  · rename_i e
    cases hz
    simp only [RepO] at rx ry
    obtain ⟨a, vs, G, rfl, rfl, h0, h1, h2⟩ := rx
    obtain ⟨a', vs', G', rfl, rfl, g0, g1, g2⟩ := ry
    obtain ⟨h3, rfl⟩ := h2.to_pure e.1
    obtain ⟨g3, rfl⟩ := g2.to_pure e.2.1
    exact ⟨a, a', vs, vs', rfl, rfl, h1, g1, by rw [h3.length, g3.length, sizeLine_eq]; omega, fun p hp => k _ _ _ _ (.own sub im hp (.of_pure (h3.append g3)) fun _ => rfl)⟩
  · cases hz⟩
def fCatT : D → D → Option D := fun x y => match x, y with
  | .tup a, .tup b => if a.length + b.length ≤ 1000000 ∧ a ≠ [] ∧ b ≠ [] then some (.tup (a ++ b)) else none
  | _, _ => none
def fRepT : D → D → Option D := fun x y => match x, y with
  | .tup a, .int k => if a ≠ [] ∧ 1 ≤ k ∧ k ≤ 1000 ∧ a.length ≤ 1000 then some (.tup (List.replicate k.toNat a).flatten) else none
  | _, _ => none
theorem tuple_mul1 (l : Addr) (items : Array Value) (n : Nat) (dd : Option Addr) (sl : Array (Option Value)) (u : Tok) :
    Meets (Builtin.«tuple.__mul__» ⟨[.ref l, .int 1 u], []⟩) (fun _ R s => s.heap.get? l = some { cls := .type "tuple", dict := dd, data := .seq items n, slots := sl } ∧ R (.ok (.ret (Value.ref l))) s) :=
  .of_wp fun prog w A R s h => by
    obtain ⟨hp, g, d, tk, os⟩ := s
    obtain ⟨hl, h⟩ := h
    have f1 := AutoSeq1.idx_int
    wp_walk using wpAny_loadPart' hl
    exact ⟨_, rfl, h⟩
def rRep1 (K : PySem.W.Frag) : R2 := fun x y H Q => ∃ l xs, x = .ref l ∧ y = .int 1 ∧ SqT K H l xs ∧ Q (.ref l) H
theorem op_rep1T {X : Cx} : OpR X (binaryOp .Mult) (rRep1 X.K) := by
  intro pins s σ H x y v u Q I rx ry h
  obtain ⟨l, xs, rfl, rfl, hT, q⟩ := h
  cases rx
  obtain ⟨t, rfl⟩ := ry
  obtain ⟨its, r, ⟨⟨cls, dd, data, sl⟩, ho, hc, n, hd⟩, hs⟩ := I.tuple hT
  simp only at hc hd
  subst hc hd
  exact wpAny_binaryOp_repeat_ref (T := "tuple") (U := "int") (by decide) ⟨_, ho, rfl⟩ (fun s' => typeIs_int s' 1 t) noFill_tuple_mul F.fills_int_mul F.slot_int_rmul repeat_tuple F.slot_int_index.lookup
    (call_meets F.slot_int_rmul (typeIs_int s 1 t) F.entry_int_rmul (F.args_int_rmul_2 _ _) (int_rmul_tuple 1 t l its.toArray n dd sl)
      ⟨ho, rfl, ⟨_, ho, rfl⟩, call_meets F.slot_tuple_mul ⟨_, ho, rfl⟩ F.entry_tuple_mul (F.args_tuple_mul_2 _ _) (tuple_mul1 l its.toArray n dd sl t) ⟨ho, ⟨.ref l, H, I, rfl, q⟩⟩⟩)
theorem RepSs.rep {K : PySem.W.Frag} {S : Hp} {l : List D} {vs : List V} (r : RepSs K S l vs) : ∀ n : Nat, RepSs K S (List.replicate n l).flatten (List.replicate n vs).flatten
  | 0 => by simp [RepSs]
  | n + 1 => by
    simp only [List.replicate_succ, List.flatten_cons]
    exact r.append (RepSs.rep r n)
theorem bo_repT : BOp C .Mult true fRepT := ⟨fun x y H Q => rRepT C.K x y H Q ∨ rRep1 C.K x y H Q, fun X f => by rw [← f.K]; exact op_repT.or op_rep1T, by
  intro x y dx dy Fx Fy S H z P sub im rx ry hz k
  cases dx <;> cases dy <;> simp only [fRepT] at hz <;> first | cases hz | skip
  split at hz
  · rename_i l i e
    cases hz
    simp only [RepO, RepS] at rx
    obtain ⟨⟨a, vs, rfl, h1, h2⟩, rfl⟩ := rx
    obtain rfl := ry.int_inv
    by_cases h1' : i = 1
    · subst h1'
      refine .inr ⟨a, vs, rfl, rfl, SqT.mono sub h1, k S H _ [] (.val sub im ?_)⟩
      simp only [show (1 : Int).toNat = 1 from rfl, List.replicate_one, List.flatten_singleton, RepS]
      exact ⟨a, vs, rfl, h1, h2⟩
    · refine .inl ⟨a, i, vs, rfl, rfl, SqT.mono sub h1, fun q => e.1 ?_, by omega, e.2.2.1, by rw [h2.length]; exact e.2.2.2, fun p hp => k _ _ _ [] (.tup sub im hp (h2.rep _))⟩
      have := h2.length
      rw [q] at this
      exact List.eq_nil_of_length_eq_zero this.symm
  · cases hz⟩
/-! ### zip of two tuples or two lists -/
theorem zip_qt {K : PySem.W.Frag} {S H : Hp} {T : Addr} {x y : V} {dx dy : D} (sub : Same S H) (im : Imm S H) (hT : H T = none) (rx : RepS K S dx x) (ry : RepS K S dy y) :
    ∃ S', Qt K false S H S' (upd H T (.tup [x, y])) (.ref T) (.tup [dx, dy]) [] ∧ (D.tup [dx, dy]).pure = true :=
  ⟨_, .tup sub im hT (by simp only [RepSs]; exact ⟨x, _, rfl, rx, y, _, rfl, ry, rfl⟩), by simp only [D.pure, pureL, rx.pure, ry.pure]; rfl⟩
theorem its_zipT {K : PySem.W.Frag} {HS S0 : Hp} {a b : Addr} {vs ws : List V} {xs ys : List D} (h : SqT K HS a vs) (h' : SqT K HS b ws) (r : RepSs K S0 xs vs) (r' : RepSs K S0 ys ws) : ItS K (RZ.ItzT K a b) HS S0 (List.zipWith (fun x y => .tup [x, y]) xs ys) where
  go := fun H i s1 hi => by
    simp only [List.length_zipWith] at hi
    have h1 : i < vs.length := by rw [r.length]; omega
    have h2 : i < ws.length := by rw [r'.length]; omega
    exact ⟨vs, ws, vs[i], ws[i], SqT.mono s1 h, SqT.mono s1 h', by simp [h1], by simp [h2]⟩
  stop := fun H i s1 hi => ⟨vs, ws, SqT.mono s1 h, SqT.mono s1 h', by
    simp only [List.length_zipWith] at hi
    rw [r.length, r'.length]; omega⟩
  yld := fun S H i x H' s1 s0 s2 im hi y => by
    obtain ⟨T, u, v, rfl, hT, rfl, e1, e2⟩ := y
    obtain ⟨d1, g1, g2⟩ := r.getV (e1 vs (SqT.mono s1 h))
    obtain ⟨d2, g3, g4⟩ := r'.getV (e2 ws (SqT.mono s1 h'))
    obtain ⟨S', q1, q2⟩ := zip_qt s2 im hT (g2.mono s0) (g4.mono s0)
    exact ⟨S', _, by rw [List.getElem?_zipWith, g1, g3], q1, q2⟩
theorem its_zipL {K : PySem.W.Frag} {HS S0 : Hp} {a b : Addr} {vs ws : List V} {xs ys : List D} (h : SqL K HS a vs) (h' : SqL K HS b ws) (r : RepSs K S0 xs vs) (r' : RepSs K S0 ys ws) : ItS K (Itz K a b) HS S0 (List.zipWith (fun x y => .tup [x, y]) xs ys) where
  go := fun H i s1 hi => by
    simp only [List.length_zipWith] at hi
    have h1 : i < vs.length := by rw [r.length]; omega
    have h2 : i < ws.length := by rw [r'.length]; omega
    exact ⟨vs, ws, vs[i], ws[i], s1.seq h, s1.seq h', by simp [h1], by simp [h2]⟩
  stop := fun H i s1 hi => ⟨vs, ws, s1.seq h, s1.seq h', by
    simp only [List.length_zipWith] at hi
    rw [r.length, r'.length]; omega⟩
  yld := fun S H i x H' s1 s0 s2 im hi y => by
    obtain ⟨T, u, v, rfl, hT, rfl, e1, e2⟩ := y
    obtain ⟨d1, g1, g2⟩ := r.getV (e1 vs (s1.seq h))
    obtain ⟨d2, g3, g4⟩ := r'.getV (e2 ws (s1.seq h'))
    obtain ⟨S', q1, q2⟩ := zip_qt s2 im hT (g2.mono s0) (g4.mono s0)
    exact ⟨S', _, by rw [List.getElem?_zipWith, g1, g3], q1, q2⟩
def iZp (t : TXs) : TXs := fun ρ Q => t ρ fun ds ρ' => ∃ xs ys, (ds = [.tup xs, .tup ys] ∨ ds = [.lst xs, .lst ys]) ∧ Q (List.zipWith (fun x y => .tup [x, y]) xs ys) ρ'
theorem ei_zip {e e2 : Expr} {p pos tpos : Pos} {elts : List Expr} {kk : _} {b m : Bool} {t : TXs} (ha : EA C [e, e2] b m t) (hg : C.sc.names.lookup ("zip" : Str) = some .globalImplicit) (hm : C.mg "zip" = none)
    (hs : ∀ env, starEach [e, e2] env = (false, eval e env) :: starEach [e2] env := by intro _; rfl) (hpl : ∀ env, (backTo pos (starEach [e2] env)).any (·.1) = false := by intro _; rfl) : EI C false (.Tuple elts kk tpos) (.Call (.Name "zip" p) [e, e2] [] pos) m (iZp t) := by
  obtain ⟨te, a1, a2⟩ := ha
  refine ⟨RZ.iZipA C.K te, fun X f => by rw [← f.K]; exact RZ.pi_zipA (by show X.env.scope.names.lookup _ = _; rw [f.sc]; exact hg) (by rw [f.mg]; exact hm) (a1 X f) (hs _) (hpl _), fun σ H S ρ F Q R w q k => ?_⟩
  refine a2 σ H S ρ F _ _ w q fun vs ds S1 H1 ρ1 F1 Fd p ⟨xs, ys, hd, q1⟩ => ?_
  rcases hd with rfl | rfl
  · obtain ⟨v, v2, G1, G2, rfl, r1, r2⟩ := p.rep.two
    simp only [RepO, RepS] at r1 r2
    obtain ⟨⟨a, ws, rfl, h1, h2⟩, _⟩ := r1
    obtain ⟨⟨a', ws', rfl, g1, g2⟩, _⟩ := r2
    exact ⟨a, a', ws, ws', rfl, .inr ⟨SqT.mono p.wd.sub h1, SqT.mono p.wd.sub g1, k _ _ S1 H1 ρ1 F1 p.tst (its_zipT h1 g1 h2 g2) q1⟩⟩
  · obtain ⟨v, v2, G1, G2, rfl, r1, r2⟩ := p.rep.two
    simp only [RepO, RepS] at r1 r2
    obtain ⟨⟨a, ws, rfl, h1, h2⟩, _⟩ := r1
    obtain ⟨⟨a', ws', rfl, g1, g2⟩, _⟩ := r2
    exact ⟨a, a', ws, ws', rfl, .inl ⟨p.wd.sub.seq h1, p.wd.sub.seq g1, k _ _ S1 H1 ρ1 F1 p.tst (its_zipL h1 g1 h2 g2) q1⟩⟩
end
end VL

set_option Elab.async false
set_option linter.all false
set_option maxRecDepth 100000
set_option maxHeartbeats 1000000
/-! VN: comprehensions of two clauses; calls by keywords; enumerate; a list in a list changed. -/
namespace VL
open PySem L2
section
variable {C : SC}
theorem Bld.grow {K : PySem.W.Frag} {S1 H1 S2 H2 S4 H4 : Hp} {Dl : Addr} {acc : List D} (B2 : Bld K S1 H1 Dl acc S2 H2) (s : Same S2 S4) (h : Same H2 H4) (sub : Same S4 H4) (im : Imm S4 H4) (n : ∀ a o, S4 a = some o → S2 a = some o ∨ H2 a = none) : Bld K S1 H1 Dl acc S4 H4 := by
  obtain ⟨us, G, l1, l2, l3, l4, l5, l6⟩ := B2.l
  refine ⟨B2.s.trans s, B2.h.trans h, sub, im, fun a o e => ?_, us, G, h _ _ l1, l2.same s h n, l3, l4, l5, ?_⟩
  · rcases n a o e with z | z
    · exact B2.n a o z
    · exact .inr (B2.h.free z)
  · cases q : S4 Dl with
    | none => rfl
    | some o =>
      rcases n Dl o q with z | z
      · rw [l6] at z; cases z
      · rw [l1] at z; cases z
theorem Bld.add {K : PySem.W.Frag} {S1 H1 S2 H2 : Hp} {Dl : Addr} {acc : List D} {y : V} {dy : D} {Fd : List Addr} (B2 : Bld K S1 H1 Dl acc S2 H2) {S6 H6 : Hp} (s : Same S2 S6) (h : Same H2 H6) (sub : Same S6 H6) (im : Imm S6 H6) (n : ∀ a o, S6 a = some o → S2 a = some o ∨ H2 a = none)
    (rep : RepO K S6 H6 dy y Fd) (nd : Fd.Nodup) (new : ∀ a ∈ Fd, H2 a = none) (hD : H1 Dl = none) : ∃ us, H6 Dl = some (.lst us) ∧ us.length = acc.length ∧ Bld K S1 H1 Dl (acc ++ [dy]) S6 (upd H6 Dl (.lst (us ++ [y]))) := by
  have B6 := B2.grow s h sub im n
  obtain ⟨us, G, l1, l2, l3, l4, l5, l6⟩ := B2.l
  have l6' : S6 Dl = none := by
    obtain ⟨_, _, _, _, _, _, _, q⟩ := B6.l
    exact q
  have dG : ∀ a ∈ G, a ∉ Fd := fun a ha hb => by
    obtain ⟨_, zs, q⟩ := l2.there a ha
    rw [new a hb] at q; cases q
  have dD : Dl ∉ Fd := fun hb => by rw [new _ hb] at l1; cases l1
  refine ⟨us, h _ _ l1, l2.length, ⟨B6.s, fun a o e => ?_, same_updR sub l6', im.updM trivial, B6.n, us ++ [y], G ++ Fd, upd_same, ?_, ?_, ?_, ?_, l6'⟩⟩
  · rw [upd_ne (ne_of_none e hD)]; exact h a o (B2.h a o e)
  · refine ((l2.same s h n).snoc rep).mono (.refl _) (fun a ha o e => ?_) fun _ _ e => e
    rw [upd_ne]
    · exact e
    · rintro rfl
      rcases List.mem_append.mp ha with z | z
      · exact l5 z
      · exact dD z
  · exact List.nodup_append.mpr ⟨l3, nd, fun a ha c hc e => dG a ha (e ▸ hc)⟩
  · intro a ha
    rcases List.mem_append.mp ha with z | z
    · exact l4 a z
    · exact B2.h.free (new a z)
  · intro z
    rcases List.mem_append.mp z with z | z
    · exact l5 z
    · exact dD z
def xComp2 (ti : TXs) (g : TGx) (tt : TB) (ti1 : TXs) (g1 : TGx) (tt1 : TB) (te : TX) (vs vs1 : List Nat) : TX := fun ρ Q => ti ρ fun xs ρ1 => ∃ J : List D → List D → Prop, J [] [] ∧
  (∀ (pre : List D) (x : D) (post : List D) (acc : List D), xs = pre ++ x :: post → J pre acc → g x (wipeE ρ1 vs) fun ρ2 => tt ρ2 fun k ρ3 => if k = true then ti1 ρ3 fun ys ρ4 => ∃ J1 : List D → List D → Prop, J1 [] acc ∧
    (∀ (pre1 : List D) (y : D) (post1 : List D) (acc1 : List D), ys = pre1 ++ y :: post1 → J1 pre1 acc1 → g1 y (wipeE ρ4 vs1) fun ρ5 => tt1 ρ5 fun k1 ρ6 => if k1 = true then te ρ6 fun d _ => acc1.length < 1000000 ∧ J1 (pre1 ++ [y]) (acc1 ++ [d]) else J1 (pre1 ++ [y]) acc1) ∧
    ∀ acc1, J1 ys acc1 → J (pre ++ [x]) acc1 else J (pre ++ [x]) acc) ∧
  ∀ acc, J xs acc → Q (.own acc) ρ1
theorem xcomp2_sound {ti ti1 : TXs} {g g1 : TGx} {tt tt1 : TB} {te : TX} {vs vs1 ws ws1 : List Nat} {wi wi1 : TI} {tv tv1 : TG} {tt' tt1' : TT} {te' : TE} {m br : Bool}
    (a2 : ∀ (σ : St) (H S : Hp) (ρ : En) (F : List Addr) (Q : List D → En → Prop) (R : It → Hp → Prop), Wd C.K S H σ ρ F → ti ρ Q → (∀ J xs S' H' ρ' F', Po C.K true m F S H σ ρ S' H' ρ' F' .non .non [] → ItS C.K J (if br = true then H' else S') S' xs → Q xs ρ' → R J H') → wi σ H R)
    (c2 : ∀ (σ : St) (H S : Hp) (ρ : En) (F : List Addr) (v : V) (d : D) (Fd : List Addr) (Q : En → Prop) (P : St → Hp → Prop), Wd C.K S H σ ρ F → RepO C.K S H d v Fd → (F ++ Fd).Nodup → g d ρ Q → (∀ σ' ρ' F', Wd C.K S H σ' ρ' F' → (∀ a ∈ F', a ∈ F ++ Fd) → Only ws σ σ' → Q ρ' → P σ' H) → tv v σ H P)
    (d2 : ∀ (σ : St) (H S : Hp) (ρ : En) (F : List Addr) (Q : Bool → En → Prop) (P : Bool → Hp → Prop), Wd C.K S H σ ρ F → tt ρ Q → (∀ k S' H' ρ' F', Po C.K true false F S H σ ρ S' H' ρ' F' .non .non [] → Q k ρ' → P k H') → tt' σ H P)
    (f2 : ∀ (σ : St) (H S : Hp) (ρ : En) (F : List Addr) (Q : List D → En → Prop) (R : It → Hp → Prop), Wd C.K S H σ ρ F → ti1 ρ Q → (∀ J xs S' H' ρ' F', Po C.K true false F S H σ ρ S' H' ρ' F' .non .non [] → ItS C.K J (if false = true then H' else S') S' xs → Q xs ρ' → R J H') → wi1 σ H R)
    (g2 : ∀ (σ : St) (H S : Hp) (ρ : En) (F : List Addr) (v : V) (d : D) (Fd : List Addr) (Q : En → Prop) (P : St → Hp → Prop), Wd C.K S H σ ρ F → RepO C.K S H d v Fd → (F ++ Fd).Nodup → g1 d ρ Q → (∀ σ' ρ' F', Wd C.K S H σ' ρ' F' → (∀ a ∈ F', a ∈ F ++ Fd) → Only ws1 σ σ' → Q ρ' → P σ' H) → tv1 v σ H P)
    (h2 : ∀ (σ : St) (H S : Hp) (ρ : En) (F : List Addr) (Q : Bool → En → Prop) (P : Bool → Hp → Prop), Wd C.K S H σ ρ F → tt1 ρ Q → (∀ k S' H' ρ' F', Po C.K true false F S H σ ρ S' H' ρ' F' .non .non [] → Q k ρ' → P k H') → tt1' σ H P)
    (e2 : ∀ (σ : St) (H S : Hp) (ρ : En) (F : List Addr) (Q : D → En → Prop) (P : VK), Wd C.K S H σ ρ F → te ρ Q → (∀ v d S' H' ρ' F' Fd, Po C.K true false F S H σ ρ S' H' ρ' F' v d Fd → Q d ρ' → P v H') → te' σ H P)
    (hws : ∀ i ∈ ws, i ∈ vs) (hws1 : ∀ i ∈ ws1, i ∈ vs1) {σ : St} {H S : Hp} {ρ : En} {F : List Addr} {Q : D → En → Prop} {P : VK} (w : Wd C.K S H σ ρ F) (h : xComp2 ti g tt ti1 g1 tt1 te vs vs1 ρ Q)
    (k : ∀ v d S' H' ρ' F' Fd, Po C.K true m F S H σ ρ S' H' ρ' F' v d Fd → Q d ρ' → P v H') : tLc2 wi tv tt' wi1 tv1 tt1' te' vs vs1 σ H P := by
  refine a2 σ H S ρ F _ _ w h fun J xs S1 H1 ρ1 F1 p its ⟨I, i0, it, iz⟩ Dl hD => ?_
  obtain ⟨Fw, sw, swF, swN⟩ := p.wd.sl.wipe vs
  have ndw := swN p.wd.nd
  have hHS : ∀ {S2 H2 : Hp}, Same S1 S2 → Same H1 H2 → Same S2 H2 → Same (if br = true then H1 else S1) H2 := fun s h sub => by
    cases br
    · exact s.trans sub
    · exact h
  have wd : ∀ {S2 H2 : Hp}, Same S1 S2 → Same H1 H2 → Same S2 H2 → Imm S2 H2 → (∀ a o, S2 a = some o → S1 a = some o ∨ H1 a = none) → Wd C.K S2 H2 (L2.wipe σ vs) (wipeE ρ1 vs) Fw := fun s h sub im n => ⟨sub, im, sw.same s h n, ndw⟩
  have bld0 : Bld C.K S1 H1 Dl [] S1 (upd H1 Dl (.lst [])) := ⟨.refl _, same_upd hD, same_updR p.wd.sub (none_sub p.wd.sub hD), p.wd.imm.updM trivial, fun _ _ e => .inl e, [], [], upd_same, by simp only [RepOs]; exact ⟨trivial, trivial⟩, .nil, (fun _ h => by cases h), by simp, none_sub p.wd.sub hD⟩
  refine ⟨fun i m H2 => ∃ S2 acc, Bld C.K S1 H1 Dl acc S2 H2 ∧ m = xs.length - i ∧ i ≤ xs.length ∧ I (xs.take i) acc, ⟨xs.length, S1, [], bld0, by simp, Nat.zero_le _, by simpa using i0⟩, ?_⟩
  rintro i m2 H2 ⟨S2, acc, B2, rfl, hi, iv⟩
  by_cases hlt : i < xs.length
  · refine .inr ⟨its.go H2 i (hHS B2.s B2.h B2.sub) hlt, fun H' => ∃ S' acc, Bld C.K S1 H1 Dl acc S' H' ∧ I (xs.take (i + 1)) acc, fun H' ⟨S', acc', B', iv'⟩ => ⟨xs.length - (i + 1), by omega, S', acc', B', rfl, hlt, iv'⟩, fun x H' y => ?_⟩
    obtain ⟨S3, d, e1, t, dp⟩ := its.yld S2 H2 i x H' (hHS B2.s B2.h B2.sub) B2.s B2.sub B2.im hlt y
    have hd : xs[i] = d := (List.getElem?_eq_some_iff.mp e1).2
    have ex : xs = xs.take i ++ d :: xs.drop (i + 1) := by rw [← hd, List.getElem_cons_drop, List.take_append_drop]
    have e2' : xs.take (i + 1) = xs.take i ++ [d] := by rw [List.take_succ_eq_append_getElem hlt, hd]
    have B3 := B2.grow t.s t.h t.sub t.im t.n
    have w3 := wd B3.s B3.h B3.sub B3.im B3.n
    refine c2 (L2.wipe σ vs) H' S3 (wipeE ρ1 vs) Fw x d [] _ _ w3 t.rep (by simpa using ndw) (it _ d _ acc ex iv) fun σ4 ρ4 F4 w4 hF4 o4 q4 => ?_
    refine ⟨by rw [wipe_only o4 hws, wipe_wipe], ?_⟩
    refine d2 σ4 H' S3 ρ4 F4 _ _ w4 q4 fun kk S5 H5 ρ5 F5 p5 q5 => ?_
    obtain ⟨u1, u2, u3, u4⟩ := p5.un rfl
    have B5 := B3.grow p5.step.s u3 p5.wd.sub p5.wd.imm u4
    cases kk with
    | false =>
      rw [if_neg Bool.false_ne_true] at q5 ⊢
      exact ⟨S5, acc, B5, by rw [e2']; exact q5⟩
    | true =>
      rw [if_pos rfl] at q5 ⊢
      refine f2 σ4 H5 S5 ρ5 F5 _ _ p5.wd q5 fun J1 ys S6 H6 ρ6 F6 p6 its1 ⟨I1, j0, jt, jz⟩ => ?_
      obtain ⟨v1, v2, v3, v4⟩ := p6.un rfl
      have B6 := B5.grow p6.step.s v3 p6.wd.sub p6.wd.imm v4
      -- the inner walk: the env stays as it is
      refine ⟨fun j m H7 => ∃ S7 acc1, Bld C.K S1 H1 Dl acc1 S7 H7 ∧ Wd C.K S7 H7 σ4 ρ6 F6 ∧ Same S6 S7 ∧ m = ys.length - j ∧ j ≤ ys.length ∧ I1 (ys.take j) acc1, ⟨ys.length, S6, acc, B6, p6.wd, .refl _, by simp, Nat.zero_le _, by simpa using j0⟩, ?_⟩
      rintro j m3 H7 ⟨S7, acc1, B7, w7, s67, rfl, hj, jv⟩
      by_cases hlt1 : j < ys.length
      · refine .inr ⟨its1.go H7 j (s67.trans B7.sub) hlt1, fun H' => ∃ S7 acc1, Bld C.K S1 H1 Dl acc1 S7 H' ∧ Wd C.K S7 H' σ4 ρ6 F6 ∧ Same S6 S7 ∧ I1 (ys.take (j + 1)) acc1, fun H' ⟨S', acc', B', w', s', iv'⟩ => ⟨ys.length - (j + 1), by omega, S', acc', B', w', s', rfl, hlt1, iv'⟩, fun x1 H8 y1 => ?_⟩
        obtain ⟨S8, dd, ee1, tt8, dp8⟩ := its1.yld S7 H7 j x1 H8 (s67.trans B7.sub) s67 B7.sub B7.im hlt1 y1
        have hd1 : ys[j] = dd := (List.getElem?_eq_some_iff.mp ee1).2
        have ex1 : ys = ys.take j ++ dd :: ys.drop (j + 1) := by rw [← hd1, List.getElem_cons_drop, List.take_append_drop]
        have e2'' : ys.take (j + 1) = ys.take j ++ [dd] := by rw [List.take_succ_eq_append_getElem hlt1, hd1]
        have w8 : Wd C.K S8 H8 σ4 ρ6 F6 := ⟨tt8.sub, tt8.im, w7.sl.same tt8.s tt8.h tt8.n, w7.nd⟩
        obtain ⟨Fq, sq, sqF, sqN⟩ := w8.sl.wipe vs1
        have w8' : Wd C.K S8 H8 (L2.wipe σ4 vs1) (wipeE ρ6 vs1) Fq := ⟨w8.sub, w8.imm, sq, sqN w8.nd⟩
        refine g2 (L2.wipe σ4 vs1) H8 S8 (wipeE ρ6 vs1) Fq x1 dd [] _ _ w8' tt8.rep (by simpa using w8'.nd) (jt _ dd _ acc1 ex1 jv) fun σ9 ρ9 F9 w9 hF9 o9 q9 => ?_
        refine ⟨by rw [wipe_only o9 hws1, wipe_wipe], ?_⟩
        refine h2 σ9 H8 S8 ρ9 F9 _ _ w9 q9 fun k1 Sa Ha ρa Fa pa qa => ?_
        obtain ⟨z1, z2, z3, z4⟩ := pa.un rfl
        have ts : Same S7 Sa := tt8.s.trans pa.step.s
        have th : Same H7 Ha := tt8.h.trans z3
        have tn : ∀ a o, Sa a = some o → S7 a = some o ∨ H7 a = none := fun a o e => by
          rcases z4 a o e with z | z
          · exact tt8.n a o z
          · exact .inr (tt8.h.free z)
        cases k1 with
        | false =>
          rw [if_neg Bool.false_ne_true] at qa ⊢
          exact ⟨Sa, acc1, B7.grow ts th pa.wd.sub pa.wd.imm tn, ⟨pa.wd.sub, pa.wd.imm, w7.sl.same ts th tn, w7.nd⟩, s67.trans ts, by rw [e2'']; exact qa⟩
        | true =>
          rw [if_pos rfl] at qa ⊢
          refine e2 σ9 Ha Sa ρa Fa _ _ pa.wd qa fun y dy Sb Hb ρb Fb Fd pb ⟨hz, qb⟩ => ?_
          obtain ⟨y1', y2', y3', y4'⟩ := pb.un rfl
          have us' : Same S7 Sb := ts.trans pb.step.s
          have uh : Same H7 Hb := th.trans y3'
          have un : ∀ a o, Sb a = some o → S7 a = some o ∨ H7 a = none := fun a o e => by
            rcases y4' a o e with z | z
            · exact tn a o z
            · exact .inr (th.free z)
          obtain ⟨nb, fb⟩ := pb.fr rfl
          have newd : ∀ a ∈ Fd, H7 a = none := fun a ha => by
            rcases fb a ha with z | z
            · exact absurd rfl ((List.nodup_append.mp nb).2.2 a (by rw [y2']; exact z) a ha)
            · exact th.free z
          obtain ⟨us, l1, l2, B9⟩ := B7.add us' uh pb.wd.sub pb.wd.imm un pb.rep (List.nodup_append.mp nb).2.1 newd hD
          refine ⟨us, l1, by rw [l2, sizeLine_eq]; omega, Sb, acc1 ++ [dy], B9, ⟨B9.sub, B9.im, ?_, w7.nd⟩, s67.trans us', by rw [e2'']; exact qb⟩
          refine (w7.sl.same us' uh un).mono (.refl _) (fun a ha o e => ?_) fun _ _ e => e
          rw [upd_ne]
          · exact e
          · rintro rfl
            -- D is not the env's: it was laid behind
            obtain ⟨us0, G0, q1, _⟩ := B7.l
            have sF : a ∈ F1 := by
              have h1 : a ∈ F5 := by rw [← v2]; exact ha
              have h2 : a ∈ F4 := by rw [← u2]; exact h1
              have h3 := hF4 a h2
              exact swF a (by simpa using h3)
            obtain ⟨_, zs, q⟩ := p.wd.sl.there a sF
            rw [hD] at q; cases q
      · have e : j = ys.length := by omega
        subst e
        exact .inl ⟨its1.stop H7 _ (s67.trans B7.sub) (Nat.le_refl _), S7, acc1, B7, by rw [e2']; exact jz acc1 (by simpa using jv)⟩
  · have e : i = xs.length := by omega
    subst e
    obtain ⟨us, G, l1, l2, l3, l4, l5, l6⟩ := B2.l
    refine .inl ⟨its.stop H2 _ (hHS B2.s B2.h B2.sub) (Nat.le_refl _), k (.ref Dl) (.own acc) S2 H2 ρ1 F1 (Dl :: G) ?_ (iz acc (by simpa using iv))⟩
    have r : RepO C.K S2 H2 (.own acc) (.ref Dl) (Dl :: G) := by
      simp only [RepO]
      exact ⟨Dl, us, G, rfl, rfl, l6, l1, l2⟩
    have q : Po C.K true false F1 S1 H1 σ ρ1 S2 H2 ρ1 F1 (.ref Dl) (.own acc) (Dl :: G) := .quiet p.wd B2.s B2.h B2.sub B2.im B2.n r fun _ => ⟨List.nodup_cons.mpr ⟨l5, l3⟩, fun a ha => by
      rcases List.mem_cons.mp ha with rfl | z
      · exact hD
      · exact l4 a z⟩
    exact p.seq q (by simp)
theorem ex_comp2 {elt tg iter tg1 iter1 : Expr} {ifs ifs1 : List Expr} {scope : Scope} (own : List (Str × Nat)) (vs1 : List Nat) {pos : Pos} {m br : Bool} {ti ti1 : TXs} {ws ws1 : List Nat} {g g1 : TGx} {tt tt1 : TB} {te : TX} (hnd : C.N.Nodup) (hi : EI C br tg iter m ti) (hblk : blkC C.N C.sc scope own = true := by first | rfl | decide +kernel)
    (hg : EG (C.blk scope) tg ws g) (ht : ET (C.blk scope) ifs false tt) (hi1 : EI (C.blk scope) false tg1 iter1 false ti1) (hg1 : EG (C.blk scope) tg1 ws1 g1) (ht1 : ET (C.blk scope) ifs1 false tt1) (he : EX (C.blk scope) elt true false te) (hws : ∀ i ∈ ws, i ∈ own.map (·.2) := by decide) (hws1 : ∀ i ∈ ws1, i ∈ vs1 := by decide) (hv : ∀ i ∈ vs1, i ∈ own.map (·.2) := by decide)
    (hs : ∀ env x, foldedSetIterable iter env x = pure x := by intro _ _; rfl) (hs1 : ∀ env x, foldedSetIterable iter1 env x = pure x := by intro _ _; rfl) :
    EX C (.ListComp elt [⟨tg, iter, ifs, 0⟩, ⟨tg1, iter1, ifs1, 0⟩] scope pos) true m (xComp2 ti g tt ti1 g1 tt1 te (own.map (·.2)) vs1) := by
  obtain ⟨wi, a1, a2⟩ := hi
  obtain ⟨tv, c1, c2⟩ := hg
  obtain ⟨tt', d1, d2⟩ := ht
  obtain ⟨wi1, f1, f2⟩ := hi1
  obtain ⟨tv1, g1', g2⟩ := hg1
  obtain ⟨tt1', h1, h2⟩ := ht1
  obtain ⟨te', e1, e2⟩ := he
  exact ⟨tLc2 wi tv tt' wi1 tv1 tt1' te' (own.map (·.2)) vs1, fun X f => pe_lc2 f.calm (by rw [f.N]; exact hnd) (a1 X f) (by rw [f.N, f.sc]; exact blkOk_by hblk) hv (fun s H c cl fp => c1 _ (f.blk scope s H c cl fp)) (fun s H c cl fp => d1 _ (f.blk scope s H c cl fp)) (fun s H c cl fp => f1 _ (f.blk scope s H c cl fp)) (fun s H c cl fp => g1' _ (f.blk scope s H c cl fp)) (fun s H c cl fp => h1 _ (f.blk scope s H c cl fp)) (fun s H c cl fp => e1 _ (f.blk scope s H c cl fp)) (hs _) hs1,
    fun σ H S ρ F Q P w h k => xcomp2_sound a2 c2 d2 f2 g2 h2 e2 hws hws1 w h k⟩
/-! ### f(k = a, l = b): by keywords alone -/
structure KB (K : PySem.W.Frag) (fd : FuncData) (ps ks : List Str) (g : {α : Type} → List α → List α) : Prop where
  to : ∀ (s : Shared) (ws : List Value), ws.length = ks.length → BindsTo s fd ⟨[], ks.zip ws⟩ (ps.zip (g ws))
  rel : ∀ {zs : List V} {ws : List Value}, Vals zs ws → Vals (g zs) (g ws)
  len : ∀ {α : Type} (l : List α), l.length = ks.length → (g l).length = ps.length
theorem pe_callK0 {X : Cx} {CX : CXT} {k : Nat} {f : Addr} {fd : FuncData} {ps ks : List Str} {sp : Sp} {E : XK} {x : Str} {p pos : Pos} {kws : List Keyword} {tk : TA} {g : {α : Type} → List α → List α} (F : FnOk X.prog X.w X.K X.mg X.base CX k f fd ps sp) (hr : Room k X.A) (hg : Gl X x) (hm : X.mg x = some (.ref f)) (hk : PySem.W.keepIn X.K (.ref f) = true) (hb : KB X.K fd ps ks g) (hx : Passes CX X E)
    (hkw : PK X kws tk) (hall : (backToKw pos (keywordEach kws X.env)).all (·.1.isSome) = true) (hks : (backToKw pos (keywordEach kws X.env)).filterMap (·.1) = ks)
    (hdb : (x == ("__debug__" : Str)) = false) (hpl : ((backTo pos (starEach [] X.env)).any (·.1) || (backToKw pos (keywordEach kws X.env)).any (·.1.isNone)) = false) :
    PE X (.Call (.Name x p) [] kws pos) (fun σ H Q => tk σ H fun zs H1 => zs.length = ks.length ∧ sp (g zs) H1 Q E) := by
  refine ⟨fun pins s σ H Q I h => ?_⟩
  refine wpAny_Call_Name_kw (ld_glob I hg hm ?_ hdb)
  refine PySem.W.callWith_KW0 (h₀ := X.base) I.ok.mod.kin hk hall ?_ hpl
  refine thn (hkw.run pos pins s σ H _ I h) fun ws s2 ⟨zs, H2, I2, rz, hl, q2⟩ => ⟨I2.kIn, ?_⟩
  rw [hks]
  have r2 := hb.rel rz
  have hl' : ws.length = ks.length := by rw [← rz.length]; exact hl
  refine wpAny_call (codeAny_mono (F.run X.A X.stack s2 H2 ⟨[], ks.zip ws⟩ (g ws) (g zs) Q E hr I2.env0 (hb.to s2 ws hl') r2 q2) fun r s' hq => ?_)
  cases r with
  | error e => exact hx pins σ H2 s2 e s' I2 hq
  | ok fl =>
    cases fl with
    | ret u => exact I2.after hq
    | next => exact False.elim hq
    | brk => exact False.elim hq
    | cont => exact False.elim hq
/-- keywords' values -/
def EK (C : SC) (kws : List Keyword) (b m : Bool) (t : TXs) : Prop :=
  ∃ te : TA, (∀ X, Fits C X → PK X kws te) ∧ ∀ (σ : St) (H S : Hp) (ρ : En) (F : List Addr) (Q : List D → En → Prop) (P : List V → Hp → Prop), Wd C.K S H σ ρ F → t ρ Q →
    (∀ vs ds S' H' ρ' F' Fd, PoA C.K b m F S H σ ρ S' H' ρ' F' vs ds Fd → Q ds ρ' → P vs H') → te σ H P
theorem ek_nil : EK C [] true false xsN :=
  ⟨tNil, fun X f => pk_nil, fun σ H S ρ F Q P w h k => k [] [] S H ρ F [] ⟨.refl, w, by simp only [RepOs]; exact ⟨trivial, trivial⟩, fun _ => ⟨by simpa using w.nd, fun _ h => by cases h⟩, fun _ => ⟨rfl, rfl, .refl _, fun _ _ e => .inl e⟩⟩ h⟩
/-- no argument of these changes anything -/
theorem ek_cons {nm : Option Str} {e : Expr} {kpos : Pos} {kws : List Keyword} {b1 b2 : Bool} {t : TX} {u : TXs} (he : EX C e b1 false t) (hr : EK C kws b2 false u) : EK C (⟨nm, e, kpos⟩ :: kws) false false (xsC t u) := by
  obtain ⟨te, a1, a2⟩ := he
  obtain ⟨tr, c1, c2⟩ := hr
  refine ⟨tCons te tr, fun X f => pk_cons (a1 X f) (c1 X f), fun σ H S ρ F Q P w h k => ?_⟩
  refine a2 σ H S ρ F _ _ w h fun v d S1 H1 ρ1 F1 Fd1 p1 q1 => ?_
  refine c2 σ H1 S1 ρ1 F1 _ _ p1.wd q1 fun vs ds S2 H2 ρ2 F2 Fd2 p2 q2 => ?_
  have p2' := p2.tst
  have r1 := p1.first p2' (.inl (by cases b1 <;> rfl))
  refine k (v :: vs) (d :: ds) S2 H2 ρ2 F2 (Fd1 ++ Fd2) ⟨p1.step.trans p2.step, p2.wd, ?_, fun e => (by cases e), fun _ => ?_⟩ q2
  · simp only [RepOs]
    exact ⟨v, vs, Fd1, Fd2, rfl, rfl, r1, p2.rep⟩
  · obtain ⟨x1, x2, x3, x4⟩ := p1.un rfl
    obtain ⟨y1, y2, y3, y4⟩ := p2.un rfl
    refine ⟨y1.trans x1, y2.trans x2, x3.trans y3, fun a o z => ?_⟩
    rcases y4 a o z with w | w
    · exact x4 a o w
    · exact .inr (x3.free w)
theorem ex_callK {x : Str} {f : Addr} {fd : FuncData} {ps ks : List Str} {j n : Nat} {φ : Ph} {kws : List Keyword} {bs m : Bool} {t : TXs} {p pos : Pos} (g : {α : Type} → List α → List α) (G : FnOk C.P C.w C.K C.mg C.base CX0 j f fd ps (spD C.K n φ)) (hj : j ≤ C.lv)
    (hg : C.sc.names.lookup x = some .globalImplicit) (hm : C.mg x = some (.ref f)) (hk : PySem.W.keepIn C.K (.ref f) = true) (hb : KB C.K fd ps ks g) (ha : EK C kws bs m t)
    (hgd : ∀ (K : PySem.W.Frag) (S H : Hp) (ds : List D) (vs : List V) (F : List Addr), ds.length = ks.length → RepOs K S H ds vs F → ∃ G, RepOs K S H (g ds) (g vs) G)
    (hps : ps.length = n := by rfl)
    (hdb : (x == ("__debug__" : Str)) = false := by decide) (hall : ∀ env, (backToKw pos (keywordEach kws env)).all (·.1.isSome) = true := by intro _; rfl) (hks : ∀ env, (backToKw pos (keywordEach kws env)).filterMap (·.1) = ks := by intro _; rfl)
    (hpl : ∀ env, ((backTo pos (starEach [] env)).any (·.1) || (backToKw pos (keywordEach kws env)).any (·.1.isNone)) = false := by intro _; rfl) :
    EX C (.Call (.Name x p) [] kws pos) true m (fun ρ Q => t ρ fun ds ρ' => ds.length = ks.length ∧ φ (viewL (g ds)) fun d _ => d.lfo = true ∧ Q d ρ') := by
  obtain ⟨ta, a1, a2⟩ := ha
  refine ⟨fun σ H Q => ta σ H fun zs H1 => zs.length = ks.length ∧ spD C.K n φ (g zs) H1 Q E0, fun X f => ?_, fun σ H S ρ F Q P w hq k => ?_⟩
  · rcases C with ⟨_, _, _, _, _, _, _, _, _, _⟩
    obtain ⟨rfl, rfl, rfl, rfl, rfl, rfl, rfl, _, _, _, _⟩ := id f
    exact pe_callK0 (E := E0) G (f.room.mono hj) hg hm hk hb pass0 (a1 X f) (hall _) (hks _) hdb (hpl _)
  · refine a2 σ H S ρ F _ _ w hq fun vs ds S1 H1 ρ1 F1 Fd1 p1 ⟨hl, q1⟩ => ?_
    have hvl : vs.length = ks.length := by rw [p1.rep.length, hl]
    obtain ⟨G', r'⟩ := hgd _ _ _ _ _ _ hl p1.rep
    exact ⟨hvl, callP_sound (R := fun d => Q d ρ1) p1.wd.sub p1.wd.imm r' (by rw [hb.len vs hvl, hps]) q1 fun S' H' v d Fd t q => k v d S' H' ρ1 F1 Fd (p1.op t) q⟩
/-! ### calls, with the callee as one fact -/
def Cal (P : Program) (w : World) (K : PySem.W.Frag) (mg : Str → Option Value) (base : Heap) (x : Str) (ps : List Str) (j n : Nat) (φ : Ph) : Prop :=
  ∃ (f : Addr) (fd : FuncData), FnOk P w K mg base CX0 j f fd ps (spD K n φ) ∧ mg x = some (.ref f) ∧ PySem.W.keepIn K (.ref f) = true ∧ Binds K fd ps []
abbrev CalC (C : SC) (x : Str) (ps : List Str) (j n : Nat) (φ : Ph) : Prop := Cal C.P C.w C.K C.mg C.base x ps j n φ
theorem cx_P {x : Str} {ps : List Str} {j n : Nat} {φ : Ph} {e : Expr} {es : List Expr} {bs m : Bool} {t : TXs} {p pos : Pos} (c : CalC C x ps j n φ) (ha : EA C (e :: es) bs m t) (hj : j ≤ C.lv := by exact Nat.le_of_ble_eq_true rfl)
    (hg : C.sc.names.lookup x = some .globalImplicit := by rfl) (hdb : (x == ("__debug__" : Str)) = false := by decide)
    (he : ∀ env, starEach (e :: es) env = (false, eval e env) :: starEach es env := by intro _; rfl) (hpl : ∀ env, (backTo pos (starEach es env)).any (·.1) = false := by intro _; rfl) : EX C (.Call (.Name x p) (e :: es) [] pos) true m (xCallP n φ t) := by
  obtain ⟨f, fd, G, hm, hk, hb⟩ := c
  exact ex_callP G hj hg hm hk hb ha hdb he hpl
theorem cx_M {x : Str} {ps : List Str} {j n : Nat} {φ : Ph} {e : Expr} {es : List Expr} {as : List (Option Nat)} {t : TXs} {p pos : Pos} (c : CalC C x ps j n φ) (ha : EM C (e :: es) as t) (hj : j ≤ C.lv := by exact Nat.le_of_ble_eq_true rfl)
    (hg : C.sc.names.lookup x = some .globalImplicit := by rfl) (hdb : (x == ("__debug__" : Str)) = false := by decide)
    (he : ∀ env, starEach (e :: es) env = (false, eval e env) :: starEach es env := by intro _; rfl) (hpl : ∀ env, (backTo pos (starEach es env)).any (·.1) = false := by intro _; rfl) : EX C (.Call (.Name x p) (e :: es) [] pos) true true (xCallM n φ as t) := by
  obtain ⟨f, fd, G, hm, hk, hb⟩ := c
  exact ex_callM G hj hg hm hk hb ha hdb he hpl
/-- a def without parameters -/
def xCall0 (φ : Ph) : TX := fun ρ Q => φ [] fun d _ => d.lfo = true ∧ Q d ρ
theorem cx_0 {x : Str} {j : Nat} {φ : Ph} {p pos : Pos} (c : CalC C x [] j 0 φ) (hj : j ≤ C.lv := by exact Nat.le_of_ble_eq_true rfl) (hg : C.sc.names.lookup x = some .globalImplicit := by rfl) (hdb : (x == ("__debug__" : Str)) = false := by decide) : EX C (.Call (.Name x p) [] [] pos) true false (xCall0 φ) := by
  obtain ⟨f, fd, G, hm, hk, hb⟩ := c
  refine ⟨tCall (spD C.K 0 φ) [] E0 tNil, fun X f => ?_, fun σ H S ρ F Q P w hq k => ?_⟩
  · rcases C with ⟨_, _, _, _, _, _, _, _, _, _⟩
    obtain ⟨rfl, rfl, rfl, rfl, rfl, rfl, rfl, _, _, _, _⟩ := id f
    exact pe_call0 (ds := []) (dvs := []) G (f.room.mono hj) hg hm hk hb .nil pass0 hdb
  · exact callP_sound (E := E0) (R := fun d => Q d ρ) w.sub w.imm (ds := []) (vs := []) (Fs := []) (by simp only [RepOs]; exact ⟨trivial, trivial⟩) rfl hq fun S' H' v d Fd t q => k v d S' H' ρ F Fd (.quiet w t.s t.h t.sub t.im t.n t.rep t.fr) q
def CalK (P : Program) (w : World) (K : PySem.W.Frag) (mg : Str → Option Value) (base : Heap) (x : Str) (ps ks : List Str) (j n : Nat) (φ : Ph) (g : {α : Type} → List α → List α) : Prop :=
  ∃ (f : Addr) (fd : FuncData), FnOk P w K mg base CX0 j f fd ps (spD K n φ) ∧ mg x = some (.ref f) ∧ PySem.W.keepIn K (.ref f) = true ∧ KB K fd ps ks g
def xCallK (nk : Nat) (g : {α : Type} → List α → List α) (φ : Ph) (t : TXs) : TX := fun ρ Q => t ρ fun ds ρ' => ds.length = nk ∧ φ (viewL (g ds)) fun d _ => d.lfo = true ∧ Q d ρ'
theorem cx_K {x : Str} {ps ks : List Str} {j n : Nat} {φ : Ph} {kws : List Keyword} {bs m : Bool} {t : TXs} {p pos : Pos} {g : {α : Type} → List α → List α} (c : CalK C.P C.w C.K C.mg C.base x ps ks j n φ g) (ha : EK C kws bs m t)
    (hgd : ∀ (K : PySem.W.Frag) (S H : Hp) (ds : List D) (vs : List V) (F : List Addr), ds.length = ks.length → RepOs K S H ds vs F → ∃ G, RepOs K S H (g ds) (g vs) G)
    (hj : j ≤ C.lv := by exact Nat.le_of_ble_eq_true rfl) (hg : C.sc.names.lookup x = some .globalImplicit := by rfl) (hps : ps.length = n := by rfl)
    (hdb : (x == ("__debug__" : Str)) = false := by decide) (hall : ∀ env, (backToKw pos (keywordEach kws env)).all (·.1.isSome) = true := by intro _; rfl) (hks : ∀ env, (backToKw pos (keywordEach kws env)).filterMap (·.1) = ks := by intro _; rfl)
    (hpl : ∀ env, ((backTo pos (starEach [] env)).any (·.1) || (backToKw pos (keywordEach kws env)).any (·.1.isNone)) = false := by intro _; rfl) : EX C (.Call (.Name x p) [] kws pos) true m (xCallK ks.length g φ t) := by
  obtain ⟨f, fd, G, hm, hk, hb⟩ := c
  exact ex_callK g G hj hg hm hk hb ha hgd hps hdb hall hks hpl
/-- two keywords the other way round -/
def swap2 {α : Type} (l : List α) : List α := match l with
  | [a, b] => [b, a]
  | l => l
theorem swap2_rep (K : PySem.W.Frag) (S H : Hp) (ds : List D) (vs : List V) (F : List Addr) (hl : ds.length = 2) (r : RepOs K S H ds vs F) : ∃ G, RepOs K S H (swap2 ds) (swap2 vs) G := by
  match ds, hl with
  | [a, b], _ =>
    obtain ⟨v, v2, F1, F2, rfl, r1, r2⟩ := r.two
    exact ⟨F2 ++ (F1 ++ []), by simp only [swap2, RepOs]; exact ⟨v2, [v], F2, F1 ++ [], rfl, rfl, r2, v, [], F1, [], rfl, rfl, r1, rfl, rfl⟩⟩
/-! ### enumerate of a list -/
theorem its_enum {K : PySem.W.Frag} {HS S0 : Hp} {a : Addr} {vs : List V} {xs : List D} (h : SqL K HS a vs) (r : RepSs K S0 xs vs) : ItS K (Ite K a) HS S0 (xs.zipIdx.map fun p => .tup [.int p.2, p.1]) where
  go := fun H i s1 hi => by
    have : i < vs.length := by rw [r.length]; simpa using hi
    exact ⟨vs, vs[i], s1.seq h, by simp [this]⟩
  stop := fun H i s1 hi => ⟨vs, s1.seq h, by rw [r.length]; simpa using hi⟩
  yld := fun S H i x H' s1 s0 s2 im hi y => by
    obtain ⟨T, u, rfl, hT, rfl, e1⟩ := y
    obtain ⟨d1, g1, g2⟩ := r.getV (e1 vs (s1.seq h))
    obtain ⟨S', q1, q2⟩ := zip_qt (x := .int (i : Nat)) (dx := .int (i : Nat)) s2 im hT (by simp only [RepS]) (g2.mono s0)
    exact ⟨S', _, by rw [List.getElem?_map, List.getElem?_zipIdx, g1]; simp, q1, q2⟩
def iEn (t : TXs) : TXs := fun ρ Q => t ρ fun ds ρ' => ∃ xs, ds = [.lst xs] ∧ Q (xs.zipIdx.map fun p => .tup [.int p.2, p.1]) ρ'
theorem ei_enum {e : Expr} {p pos tpos : Pos} {elts : List Expr} {kk : _} {b m : Bool} {t : TXs} (ha : EA C [e] b m t) (hg : C.sc.names.lookup ("enumerate" : Str) = some .globalImplicit) (hm : C.mg "enumerate" = none)
    (hs : ∀ env, starEach [e] env = [(false, eval e env)] := by intro _; rfl) : EI C false (.Tuple elts kk tpos) (.Call (.Name "enumerate" p) [e] [] pos) m (iEn t) := by
  obtain ⟨te, a1, a2⟩ := ha
  refine ⟨iEnum C.K te, fun X f => by rw [← f.K]; exact pi_enum (by show X.env.scope.names.lookup _ = _; rw [f.sc]; exact hg) (by rw [f.mg]; exact hm) (a1 X f) (hs _), fun σ H S ρ F Q R w q k => ?_⟩
  refine a2 σ H S ρ F _ _ w q fun vs ds S1 H1 ρ1 F1 Fd p ⟨xs, hd, q1⟩ => ?_
  subst hd
  obtain ⟨v, rfl, r1⟩ := p.rep.one
  simp only [RepO, RepS] at r1
  obtain ⟨⟨a, ws, rfl, h1, h2⟩, _⟩ := r1
  exact ⟨a, ws, rfl, p.wd.sub.seq h1, k _ _ S1 H1 ρ1 F1 p.tst (its_enum h1 h2) q1⟩
/-! ### x[i][j] = v: a list in a list -/
theorem RepOs.inner {K : PySem.W.Frag} {S H : Hp} : ∀ {l : List D} {vs : List V} {G : List Addr} {j : Nat} {row : List D}, RepOs K S H l vs G → G.Nodup → l[j]? = some (.own row) → pureL row = true →
    ∃ b rv, vs[j]? = some (.ref b) ∧ b ∈ G ∧ H b = some (.lst rv) ∧ RepSs K S row rv ∧ ∀ row' rv', RepSs K S row' rv' → RepOs K S (upd H b (.lst rv')) (l.set j (.own row')) vs G
  | [], vs, G, j, row, h, nd, e, hp => by simp at e
  | x :: l, vs, G, 0, row, h, nd, e, hp => by
    simp at e; subst e
    simp only [RepOs] at h
    obtain ⟨v, ws, F1, F2, rfl, rfl, h1, h2⟩ := h
    simp only [RepO] at h1
    obtain ⟨b, rv, G1, rfl, rfl, h0, hb, h3⟩ := h1
    obtain ⟨h4, rfl⟩ := h3.to_pure hp
    refine ⟨b, rv, rfl, by simp, hb, h4, fun row' rv' r' => ?_⟩
    simp only [List.set_cons_zero, RepOs]
    refine ⟨.ref b, ws, [b], F2, rfl, rfl, ?_, h2.mono (.refl _) (fun a ha o e => ?_) fun _ _ e => e⟩
    · simp only [RepO]; exact ⟨b, rv', [], rfl, rfl, h0, upd_same, .of_pure r'⟩
    · rw [upd_ne]
      · exact e
      · rintro rfl
        exact (List.nodup_append.mp nd).2.2 a (by simp) a ha rfl
  | x :: l, vs, G, j + 1, row, h, nd, e, hp => by
    simp only [RepOs] at h
    obtain ⟨v, ws, F1, F2, rfl, rfl, h1, h2⟩ := h
    obtain ⟨n1, n2, n3⟩ := List.nodup_append.mp nd
    obtain ⟨b, rv, g1, g2, g3, g4, g5⟩ := RepOs.inner (j := j) h2 n2 (by simpa using e) hp
    refine ⟨b, rv, by simpa using g1, by simp [g2], g3, g4, fun row' rv' r' => ?_⟩
    simp only [List.set_cons_succ, RepOs]
    refine ⟨v, ws, F1, F2, rfl, rfl, h1.mono (.refl _) (fun a ha o e => ?_) fun _ _ e => e, g5 row' rv' r'⟩
    rw [upd_ne]
    · exact e
    · rintro rfl
      exact n3 a ha a g2 rfl
def sSt2 (i : Nat) (tv ti tj : TX) : TSx := fun D' ρ => tv ρ fun d ρ1 => d.pure = true ∧ (∃ d0, ρ1[i]? = some (some d0)) ∧ ti ρ1 fun y ρ2 => ∃ l k j row, ρ2[i]? = some (some (.own l)) ∧ y = .int k ∧ ixN l.length k = some j ∧ l[j]? = some (.own row) ∧ pureL row = true ∧
  tj ρ2 fun z ρ3 => ∃ row' kz, z = .int kz ∧ setAt row kz d = some row' ∧ D'.nx (ρ3.set i (some (.own (l.set j (.own row')))))
theorem sx_store2 (i : Nat) {x : Str} {p isp spos pos : Pos} {e ix jx : Expr} {m b2 b3 : Bool} {tv ti tj : TX} (he : EX C e true m tv) (hi : EX C ix b2 false ti) (hj : EX C jx b3 false tj) (hN : C.N[i]? = some x := by rfl) (hv : Vis C.sc x := by first | exact Or.inl rfl | exact Or.inr (Or.inl rfl) | exact Or.inr (Or.inr rfl))
    (hd : (x == ("__debug__" : Str)) = false := by decide) (hcd : (x == ("__classdict__" : Str)) = false := by decide) (hp : PlainIx ix := by exact fun _ _ => rfl)
    (hpg : ∀ X, ∀ to tix t, PE X (.Subscript (.Name x p) ix isp) to → PE X jx tix → PSet X t → PG X (.Subscript (.Subscript (.Name x p) ix isp) jx spos) (gSub to tix t) := by intro X to tix t h1 h2 h3; exact pg_sub h1 h2 h3)
    (hs : ∀ env, swapsWithSole [.Subscript (.Subscript (.Name x p) ix isp) jx spos] e pos.line env = pure false := by intro _; rfl) (hw : ∀ env, swappedStores [.Subscript (.Subscript (.Name x p) ix isp) jx spos] e env = pure none := by intro _; rfl)
    (h1 : ∀ env, (assignEach [.Subscript (.Subscript (.Name x p) ix isp) jx spos] env).map (·.2) = [assign (.Subscript (.Subscript (.Name x p) ix isp) jx spos) env] := by intro _; rfl) :
    SX C (.Assign [.Subscript (.Subscript (.Name x p) ix isp) jx spos] e pos) (sSt2 i tv ti tj) := by
  obtain ⟨te, a1, a2⟩ := he
  obtain ⟨tix, c1, c2⟩ := hi
  obtain ⟨tjx, d1, d2⟩ := hj
  refine ⟨tAsg te (gSub (tOp (rIx C.K) (tVar i) tix) tjx rSetL), fun X f => ps_asg (a1 X f) (hpg X _ _ _ (by
    have := pe_ix (pos := isp) (ix_any (X := X)) (pe_var (X := X) (pos := p) (by rw [f.N]; exact hN) (by rw [f.sc]; exact hv) hd hcd) (c1 X f) hp
    rwa [f.K] at this) (d1 X f) set_list) (hs _) (hw _) (h1 _), fun σ H S ρ F D P w h k1 k2 k3 k4 => ?_⟩
  refine a2 σ H S ρ F _ _ w h fun v d S1 H1 ρ1 F1 Fd p1 ⟨dp, ⟨d0, h0⟩, q1⟩ => ?_
  obtain ⟨rd, rfl⟩ := p1.rep.to_pure dp
  obtain ⟨A1, Ai, A2, hF, a, _⟩ := p1.wd.sl.at i
  obtain ⟨v0, hv0, r0⟩ := a _ h0
  refine ⟨v0, hv0, c2 σ H1 S1 ρ1 F1 _ _ p1.wd q1 fun u y S2 H2 ρ2 F2 Fd2 p2 q2 => ?_⟩
  obtain ⟨u1, u2, u3, u4⟩ := p2.un rfl
  · obtain ⟨l, kk, j, row, e1, ey, hj', hrow, hpr, q2⟩ := q2
    subst ey
    obtain ⟨B1, Bi, B2, hB, b1, b2'⟩ := p2.wd.sl.at i
    obtain ⟨vb, hvb, rb⟩ := b1 _ e1
    obtain rfl : v0 = vb := by rw [hv0] at hvb; cases hvb; rfl
    simp only [RepO] at rb
    obtain ⟨a0, vs, G, rfl, rfl, hS0, ha0, rG⟩ := rb
    have ndF := p2.wd.nd
    rw [hB] at ndF
    have ndm := nodup_mid ndF
    obtain ⟨m1, m2, m3⟩ := List.nodup_append.mp ndm
    have ndG := (List.nodup_cons.mp m2).2
    obtain ⟨bb, rv, g1, g2, g3, g4, g5⟩ := rG.inner ndG hrow hpr
    refine .inl ⟨a0, vs, kk, .ref bb, rfl, p2.rep.int_inv, .inl (.inl ha0), ?_, ?_⟩
    · unfold atI; rw [rG.length, hj']; exact g1
    · refine d2 σ H2 S2 ρ2 F2 _ _ p2.wd q2 fun w3 z S3 H3 ρ3 F3 Fd3 p3 q3 => ?_
      obtain ⟨w1, w2, w3', w4⟩ := p3.un rfl
      obtain ⟨row', kz, f3, f7, q4⟩ := q3
      subst f3
      unfold setAt at f7
      rw [Option.map_eq_some_iff] at f7
      obtain ⟨jz, hjz, rfl⟩ := f7
      refine ⟨bb, rv, kz, jz, rfl, p3.rep.int_inv, w3' _ _ g3, by rw [g4.length]; exact hjz, ?_⟩
      -- the new world
      have rG3 : RepOs C.K S3 H3 l vs G := rG.same p3.step.s w3' w4
      obtain ⟨bb2, rv2, k1', k2', k3', k4', k5'⟩ := rG3.inner ndG hrow hpr
      obtain rfl : bb = bb2 := by rw [g1] at k1'; cases k1'; rfl
      obtain rfl : rv = rv2 := by rw [w3' _ _ g3] at k3'; cases k3'; rfl
      have rd3 : RepS C.K S3 d v := (rd.mono p2.step.s).mono p3.step.s
      have rN := k5' (row.set jz d) (rv.set jz v) (k4'.set jz rd3)
      obtain ⟨D1, Di, D2, hD, dd1, dd2⟩ := p3.wd.sl.at i
      have eF : F3 = B1 ++ (a0 :: G ++ B2) := by rw [w2]; exact hB
      have bne : ∀ x, x ∈ B1 ++ B2 → x ≠ bb := fun x hx e => m3 x hx bb (by simp [g2]) e
      have a0b : a0 ≠ bb := fun e => (List.nodup_cons.mp m2).1 (e ▸ g2)
      -- the slot's split at the later state is the same one
      obtain ⟨C1, Ci, C2, hC, cc1, cc2⟩ := Slots.at (K := C.K) (S := S2) (H := H2) i p2.wd.sl
      have sl3 := (b2' S3 (upd H3 bb (.lst (rv.set jz v))) (some (.ref a0)) p3.step.s (fun x hx o e => by rw [upd_ne (bne x hx)]; exact w3' _ _ e) fun x hx e => by
        cases q : S3 x with
        | none => rfl
        | some o =>
          rcases w4 x o q with z | z
          · rw [e] at z; cases z
          · obtain ⟨_, zs, qq⟩ := p2.wd.sl.there x (by rw [hB]; rcases List.mem_append.mp hx with z | z <;> simp [z])
            rw [z] at qq; cases qq).2.2 (.ref a0) (.own (l.set j (.own (row.set jz d)))) (a0 :: G) rfl (by
        simp only [RepO]
        refine ⟨a0, vs, G, rfl, rfl, ?_, ?_, rN⟩
        · cases q : S3 a0 with
          | none => rfl
          | some o =>
            rcases w4 a0 o q with z | z
            · rw [hS0] at z; cases z
            · rw [ha0] at z; cases z
        · rw [upd_ne a0b]; exact w3' _ _ ha0) (List.getElem?_eq_some_iff.mp e1).1
      rw [set_same hv0] at sl3
      rw [w1] at q4
      have sN : S3 bb = none := by
        obtain ⟨q, _⟩ := rG3.there bb g2
        exact q
      refine k1 _ _ _ _ _ ⟨?_, ⟨same_updR p3.wd.sub sN, p3.wd.imm.updM trivial, sl3, ndF⟩, .refl⟩ q4
      have P2 : Po C.K true m F S H σ ρ S1 H1 ρ1 F1 .non .non [] := p1.tst
      refine ((P2.step.trans p2.step).trans p3.step).trans ?_
      rw [eF]
      exact step_upd (by simp [g2]) fun _ h => h
end
end VL

set_option Elab.async false
set_option linter.all false
set_option maxRecDepth 100000
/-! VO: built-ins over the static context. -/
namespace VL
open PySem L2
section
variable {C : SC}
theorem eb_cmp {a e : Expr} {op : CmpOp} {b b1 b2 m1 m2 : Bool} {f : D → D → Option D} {ta tb : TX} {pos : Pos} (ho : COp C op b f) (ha : EX C a b1 m1 ta) (hb : EX C e b2 m2 tb) (hs : (b1 || !m2) = true := by rfl) (hm : behindInMarks op e = false := by first | rfl | exact nomark _) :
    EB C (.Compare a [op] [e] pos) (m1 || m2) (bV (xBin f ta tb)) := by
  obtain ⟨r, o1, o2⟩ := ho
  obtain ⟨tea, a1, a2⟩ := ha
  obtain ⟨teb, c1, c2⟩ := hb
  refine ⟨tTest (tOp r tea teb), fun X fX => pt_cmpR (o1 X fX) (a1 X fX) (c1 X fX) hm, fun σ H S ρ F Q P w h k => ?_⟩
  refine op2_sound (a := a) (e := e) o2 a2 c2 hs w h fun v d S' H' ρ' F' Fd p ⟨c, ec, q⟩ => ?_
  subst ec
  exact ⟨c, p.rep.bl_inv, k c S' H' ρ' F' p.tst q⟩
end
section
variable {C : SC} {X : Cx}
theorem call_lenF (f : Fits C X) : CallR X (.builtin "len") (fun xs H Q => ∃ x n, xs = [x] ∧ LenV C.K x H n ∧ Q (.int n) H) := by rw [← f.K]; exact call_len
theorem call_tupleF (f : Fits C X) : CallR X (.type "tuple") (fun xs H Q => ∃ p ys, xs = [.ref p] ∧ ((SqL C.K H p ys ∧ ∀ l, H l = none → Q (.ref l) (upd H l (.tup ys))) ∨ (SqT C.K H p ys ∧ Q (.ref p) H))) := by rw [← f.K]; exact call_tuple_of
theorem call_listF (f : Fits C X) : CallR X (.type "list") (fun xs H Q => ∃ p ys, xs = [.ref p] ∧ (SqL C.K H p ys ∨ SqT C.K H p ys) ∧ ∀ l, H l = none → Q (.ref l) (upd H l (.lst ys))) := by rw [← f.K]; exact call_list_of
theorem call_isiF (f : Fits C X) : CallR X (.builtin "isinstance") (rIsi C.K) := by rw [← f.K]; exact call_isi
end
def idK {α : Type} (l : List α) : List α := l
theorem idK_rep (K : PySem.W.Frag) (S H : Hp) (ds : List D) (vs : List V) (F : List Addr) (hl : ds.length = 2) (r : RepOs K S H ds vs F) : ∃ G, RepOs K S H (idK ds) (idK vs) G := ⟨F, r⟩
end VL

set_option Elab.async false
set_option linter.all false
set_option maxRecDepth 100000
/-! VP: running readings over typed data. -/
namespace VL
open PySem L2
theorem map_split {α : Type} {enc : α → D} {xs : List α} {pre post : List D} {x : D} (h : xs.map enc = pre ++ x :: post) :
    ∃ a, xs = xs.take pre.length ++ a :: xs.drop (pre.length + 1) ∧ x = enc a ∧ xs.take (pre.length + 1) = xs.take pre.length ++ [a] := by
  have hl : pre.length < xs.length := by
    have := congrArg List.length h
    simp at this; omega
  refine ⟨xs[pre.length], by rw [List.getElem_cons_drop, List.take_append_drop], ?_, List.take_succ_eq_append_getElem hl⟩
  have := congrArg (fun l => l[pre.length]?) h
  simp at this
  obtain ⟨a, ha, rfl⟩ := this
  rw [List.getElem?_eq_getElem hl] at ha
  cases ha; rfl
theorem sFor_run {α : Type} {ti : TXs} {g : TGx} {tb : TSx} {D' : DE} {ρ : En} (enc : α → D) (xs : List α) (ρ1 : En) (hi : ∀ R : List D → En → Prop, R (xs.map enc) ρ1 → ti ρ R) (I : List α → En → Prop) (h0 : I [] ρ1)
    (hs : ∀ (pre : List α) (x : α) (post : List α) (ρ : En), xs = pre ++ x :: post → I pre ρ → g (enc x) ρ fun ρ' => tb { D' with nx := I (pre ++ [x]), ct := I (pre ++ [x]), bk := D'.nx } ρ') (hd : ∀ ρ, I xs ρ → D'.nx ρ) : sFor ti g tb D' ρ := by
  refine hi _ ⟨fun ys ρ => I (xs.take ys.length) ρ, by simpa using h0, fun pre x post ρ e iv => ?_, fun ρ iv => hd ρ (by simpa using iv)⟩
  obtain ⟨a, e1, rfl, e2⟩ := map_split e
  have := hs _ a _ ρ e1 iv
  simp only [List.length_append, List.length_singleton]
  rw [e2]
  exact this
theorem xComp_run {α : Type} {ti : TXs} {g : TGx} {tt : TB} {te : TX} {vs : List Nat} {ρ : En} {Q : D → En → Prop} (enc : α → D) (xs : List α) (h : α → Option D) (ρ1 : En) (hi : ∀ R : List D → En → Prop, R (xs.map enc) ρ1 → ti ρ R) (hlen : xs.length ≤ 1000000)
    (hb : ∀ x ∈ xs, ∀ N : Option D → Prop, N (h x) → g (enc x) (wipeE ρ1 vs) fun ρ2 => tt ρ2 fun k ρ3 => if k = true then te ρ3 (fun d _ => N (some d)) else N none) (hq : Q (.own (xs.filterMap h)) ρ1) : xComp ti g tt te vs ρ Q := by
  refine hi _ ⟨fun ys acc => acc = (xs.take ys.length).filterMap h, by simp, fun pre x post acc e ia => ?_, fun acc ia => by rw [ia]; simpa using hq⟩
  obtain ⟨a, e1, rfl, e2⟩ := map_split e
  have hal : acc.length < 1000000 := by
    have h1 := List.length_filterMap_le h (xs.take pre.length)
    have h2 : pre.length < xs.length := by
      have := congrArg List.length e
      simp at this; omega
    rw [ia]
    have h3 : (xs.take pre.length).length ≤ pre.length := by simp; omega
    omega
  have := hb a (by rw [e1]; simp) (fun o => match o with
    | some d => acc.length < 1000000 ∧ acc ++ [d] = (xs.take (pre ++ [enc a]).length).filterMap h
    | none => acc = (xs.take (pre ++ [enc a]).length).filterMap h) (by
      simp only [List.length_append, List.length_singleton, e2, List.filterMap_append, ia]
      cases e3 : h a with
      | some d => simp [e3]; rw [ia] at hal; exact hal
      | none => simp [e3])
  exact this
theorem xComp2_run {α β : Type} {ti ti1 : TXs} {g g1 : TGx} {tt tt1 : TB} {te : TX} {vs vs1 : List Nat} {ρ : En} {Q : D → En → Prop} (enc : α → D) (enc1 : β → D) (xs : List α) (ys : α → List β) (h : α → β → Option D) (ρ1 : En) (ρ4 : α → En) (hi : ∀ R : List D → En → Prop, R (xs.map enc) ρ1 → ti ρ R)
    (hlen : (xs.flatMap ys).length ≤ 1000000)
    (hb : ∀ x ∈ xs, ∀ (N : List D → En → Prop) (M : Prop), N ((ys x).map enc1) (ρ4 x) → g (enc x) (wipeE ρ1 vs) fun ρ2 => tt ρ2 fun k ρ3 => if k = true then ti1 ρ3 N else M)
    (hb2 : ∀ x ∈ xs, ∀ y ∈ ys x, ∀ N : Option D → Prop, N (h x y) → g1 (enc1 y) (wipeE (ρ4 x) vs1) fun ρ5 => tt1 ρ5 fun k ρ6 => if k = true then te ρ6 (fun d _ => N (some d)) else N none)
    (hq : Q (.own (xs.flatMap fun x => (ys x).filterMap (h x))) ρ1) : xComp2 ti g tt ti1 g1 tt1 te vs vs1 ρ Q := by
  let F : List α → List D := fun l => l.flatMap fun x => (ys x).filterMap (h x)
  have hF : ∀ l : List α, (F l).length ≤ (l.flatMap ys).length := fun l => by
    induction l with
    | nil => simp [F]
    | cons a l ih =>
      simp only [F, List.flatMap_cons, List.length_append] at ih ⊢
      have := List.length_filterMap_le (h a) (ys a)
      omega
  refine hi _ ⟨fun zs acc => acc = F (xs.take zs.length), by simp [F], fun pre x post acc e ia => ?_, fun acc ia => by rw [ia]; simpa [F] using hq⟩
  obtain ⟨a, e1, rfl, e2⟩ := map_split e
  have ha : a ∈ xs := by rw [e1]; simp
  have hpl : acc.length + (ys a).length ≤ 1000000 := by
    have h1 := hF (xs.take pre.length)
    have h2 : ((xs.take pre.length ++ [a]).flatMap ys).length ≤ (xs.flatMap ys).length := by
      conv => rhs; rw [e1]
      simp only [List.flatMap_append, List.flatMap_cons, List.flatMap_nil, List.length_append, List.length_nil]
      omega
    simp only [List.flatMap_append, List.flatMap_cons, List.flatMap_nil, List.length_append, List.length_nil] at h2
    rw [ia]; omega
  refine hb a ha _ _ ⟨fun zs acc1 => acc1 = acc ++ ((ys a).take zs.length).filterMap (h a), by simp, fun pre1 y post1 acc1 ey ia1 => ?_, fun acc1 ia1 => ?_⟩
  · obtain ⟨b, f1, rfl, f2⟩ := map_split ey
    have hal : acc1.length < 1000000 := by
      have h1 := List.length_filterMap_le (h a) ((ys a).take pre1.length)
      have h2 : pre1.length < (ys a).length := by
        have := congrArg List.length ey
        simp at this; omega
      have h3 : ((ys a).take pre1.length).length ≤ pre1.length := by simp; omega
      rw [ia1, List.length_append]; omega
    have := hb2 a ha b (by rw [f1]; simp) (fun o => match o with
      | some d => acc1.length < 1000000 ∧ acc1 ++ [d] = acc ++ ((ys a).take (pre1 ++ [enc1 b]).length).filterMap (h a)
      | none => acc1 = acc ++ ((ys a).take (pre1 ++ [enc1 b]).length).filterMap (h a)) (by
        simp only [List.length_append, List.length_singleton, f2, List.filterMap_append, ia1]
        cases e3 : h a b with
        | some d => simp [e3]; rw [ia1] at hal; simpa using hal
        | none => simp [e3])
    exact this
  · simp only [List.length_append, List.length_singleton, e2]
    rw [ia1, ia]
    simp [F]
/-- a comprehension that changes what is told by I; each item gives one thing -/
theorem xCompM_run {α : Type} {ti : TXs} {g : TGx} {tt : TB} {te : TX} {vs : List Nat} {ρ : En} {Q : D → En → Prop} (enc : α → D) (xs : List α) (ρ1 : En) (hi : ∀ R : List D → En → Prop, R (xs.map enc) ρ1 → ti ρ R) (hlen : xs.length ≤ 1000000) (I : List α → List D → En → Prop) (h0 : I [] [] (wipeE ρ1 vs))
    (hb : ∀ (pre : List α) (x : α) (post : List α) (acc : List D) (ρ2 : En), xs = pre ++ x :: post → acc.length = pre.length → I pre acc ρ2 → g (enc x) ρ2 fun ρ3 => tt ρ3 fun k ρ4 => k = true ∧ te ρ4 fun d ρ5 => I (pre ++ [x]) (acc ++ [d]) (wipeE ρ5 vs))
    (hmono : ∀ (x : D) (ρ2 : En) (P1 P2 : Bool → En → Prop), (∀ k ρ, P1 k ρ → P2 k ρ) → (g x ρ2 fun ρ3 => tt ρ3 P1) → g x ρ2 fun ρ3 => tt ρ3 P2)
    (hmono2 : ∀ (ρ2 : En) (P1 P2 : D → En → Prop), (∀ k ρ, P1 k ρ → P2 k ρ) → te ρ2 P1 → te ρ2 P2)
    (hq : ∀ acc ρ2, acc.length = xs.length → I xs acc ρ2 → Q (.own acc) (backE ρ1 ρ2 vs)) : xCompM ti g tt te vs ρ Q := by
  refine hi _ ⟨fun ys acc ρ2 => acc.length = ys.length ∧ I (xs.take ys.length) acc ρ2, ⟨rfl, by simpa using h0⟩, fun pre x post acc ρ2 e ia => ?_, fun acc ρ2 ia => hq acc ρ2 (by simpa using ia.1) (by simpa using ia.2)⟩
  obtain ⟨a, e1, rfl, e2⟩ := map_split e
  have hl : pre.length < xs.length := by
    have := congrArg List.length e
    simp at this; omega
  refine hmono _ _ _ _ (fun k ρ ⟨hk, q⟩ => ?_) (hb _ a _ acc ρ2 e1 (by rw [ia.1]; simp; omega) ia.2)
  subst hk
  rw [if_pos rfl]
  refine hmono2 _ _ _ (fun d ρ5 q => ⟨by rw [ia.1]; omega, by simp [ia.1], ?_⟩) q
  simp only [List.length_append, List.length_singleton, e2]
  exact q
/-! ### what a step tells, put so that simp can use it -/
theorem z_fAdd {i j : Int} : fAdd (.int i) (.int j) = some (.int (i + j)) := rfl
theorem z_fSub {i j : Int} : fSub (.int i) (.int j) = some (.int (i - j)) := rfl
theorem z_fLt {i j : Int} : fLt (.int i) (.int j) = some (.bl (decide (i < j))) := rfl
theorem z_fLe {i j : Int} : fLe (.int i) (.int j) = some (.bl (decide (i ≤ j))) := rfl
theorem z_fGt {i j : Int} : fGt (.int i) (.int j) = some (.bl (decide (j < i))) := rfl
theorem z_fGe {i j : Int} : fGe (.int i) (.int j) = some (.bl (decide (j ≤ i))) := rfl
theorem z_fEqI {i j : Int} : fEqI (.int i) (.int j) = some (.bl (decide (i = j))) := rfl
theorem z_fNeI {i j : Int} : fNeI (.int i) (.int j) = some (.bl (!decide (i = j))) := rfl
theorem z_if {c : Prop} [Decidable c] {d z : D} : (if c then some d else none) = some z ↔ c ∧ d = z := by
  by_cases h : c <;> simp [h]
theorem z_fMul {i j : Int} {Q : D → Prop} : (∃ z, fMul (.int i) (.int j) = some z ∧ Q z) ↔ ((-(2 ^ 64) < i ∧ i < 2 ^ 64) ∨ (-(2 ^ 64) < j ∧ j < 2 ^ 64)) ∧ Q (.int (i * j)) := by
  unfold fMul fI
  simp only [z_if]
  constructor
  · rintro ⟨z, ⟨h, rfl⟩, q⟩; exact ⟨h, q⟩
  · rintro ⟨h, q⟩; exact ⟨_, ⟨h, rfl⟩, q⟩
theorem z_fDiv {i j : Int} {Q : D → Prop} : (∃ z, fDiv (.int i) (.int j) = some z ∧ Q z) ↔ (0 < j ∧ j < 1073741824) ∧ Q (.int (i / j)) := by
  unfold fDiv fI
  simp only [z_if]
  constructor
  · rintro ⟨z, ⟨h, rfl⟩, q⟩; exact ⟨h, q⟩
  · rintro ⟨h, q⟩; exact ⟨_, ⟨h, rfl⟩, q⟩
theorem z_fMod {i j : Int} {Q : D → Prop} : (∃ z, fMod (.int i) (.int j) = some z ∧ Q z) ↔ 0 < j ∧ Q (.int (i % j)) := by
  unfold fMod fI
  simp only [z_if]
  constructor
  · rintro ⟨z, ⟨h, rfl⟩, q⟩; exact ⟨h, q⟩
  · rintro ⟨h, q⟩; exact ⟨_, ⟨h, rfl⟩, q⟩
theorem z_fPow {i j : Int} {Q : D → Prop} : (∃ z, fPow (.int i) (.int j) = some z ∧ Q z) ↔ (0 ≤ j ∧ j ≤ 1000000 ∧ i.natAbs < 2 ^ 64) ∧ Q (.int (i ^ j.toNat)) := by
  unfold fPow fI
  simp only [z_if]
  constructor
  · rintro ⟨z, ⟨h, rfl⟩, q⟩; exact ⟨h, q⟩
  · rintro ⟨h, q⟩; exact ⟨_, ⟨h, rfl⟩, q⟩
theorem ixN_nat {n j : Nat} (h : j < n) : ixN n (j : Int) = some j := by
  unfold ixN
  rw [if_pos (by omega), if_pos (by omega)]
  simp
theorem atI_map {α : Type} {enc : α → D} {l : List α} {j : Nat} {a : α} (h : l[j]? = some a) : atI (l.map enc) (j : Int) = some (enc a) := atI_nat (by rw [List.getElem?_map, h]; rfl)
/-- walking a tuple, a list at a name -/
theorem it_var {α : Type} {i : Nat} {ρ : En} {xs : List α} {enc : α → D} (h : ρ[i]? = some (some (.tup (xs.map enc))) ∨ ρ[i]? = some (some (.lst (xs.map enc)))) (hl : ∀ x, (enc x).lf = true) : ∀ R : List D → En → Prop, R (xs.map enc) ρ → iSqx (xP (xV i)) ρ R := fun R hR => by
  have hp : pureL (xs.map enc) = true := pureL_lf _ (lfL_iff.mpr fun d hd => by obtain ⟨a, _, rfl⟩ := List.mem_map.mp hd; exact hl a)
  rcases h with h | h
  · exact ⟨_, h, by simpa [D.pure] using hp, _, rfl, hp, hR⟩
  · exact ⟨_, h, by simpa [D.pure] using hp, _, rfl, hp, hR⟩
theorem it_varB {α : Type} {i : Nat} {ρ : En} {xs : List α} {enc : α → D} (h : ρ[i]? = some (some (.tup (xs.map enc))) ∨ ρ[i]? = some (some (.lst (xs.map enc))) ∨ ρ[i]? = some (some (.own (xs.map enc)))) (hl : ∀ x, (enc x).lf = true) : ∀ R : List D → En → Prop, R (xs.map enc) ρ → iSqx (xV i) ρ R := fun R hR => by
  have hp : pureL (xs.map enc) = true := pureL_lf _ (lfL_iff.mpr fun d hd => by obtain ⟨a, _, rfl⟩ := List.mem_map.mp hd; exact hl a)
  rcases h with h | h | h
  · exact ⟨_, h, _, rfl, hp, hR⟩
  · exact ⟨_, h, _, rfl, hp, hR⟩
  · exact ⟨_, h, _, rfl, hp, hR⟩
/-- walking range(n) -/
theorem rangeD_eq (n : Nat) : rangeD 0 ((n : Int)).toNat = (List.range n).map fun (i : Nat) => D.int (i : Int) := by
  simp [rangeD]
end VL

set_option Elab.async false
set_option linter.all false
set_option maxRecDepth 100000
/-! VQ: more of what simp can use. -/
namespace VL
open PySem L2
theorem z_fTuple_own {l : List D} {Q : D → Prop} : (∃ z, fTuple [.own l] = some z ∧ Q z) ↔ pureL l = true ∧ Q (.tup l) := by
  simp only [fTuple]
  by_cases h : pureL l = true <;> simp [h]
theorem z_fTuple_tup {l : List D} : fTuple [.tup l] = some (.tup l) := rfl
theorem z_fTuple_lst {l : List D} : fTuple [.lst l] = some (.tup l) := rfl
theorem z_fLen_tup {l : List D} : fLen [.tup l] = some (.int l.length) := rfl
theorem z_fLen_lst {l : List D} : fLen [.lst l] = some (.int l.length) := rfl
theorem z_fLen_own {l : List D} : fLen [.own l] = some (.int l.length) := rfl
theorem z_fInt1 {i : Int} : fInt1 [.int i] = some (.int i) := rfl
theorem z_fAbs {i : Int} : fAbs [.int i] = some (.int (if i < 0 then -i else i)) := rfl
theorem z_fMax2 {i j : Int} : fMax2 [.int i, .int j] = some (.int (if j > i then j else i)) := rfl
theorem z_fMin2 {i j : Int} : fMin2 [.int i, .int j] = some (.int (if j < i then j else i)) := rfl
theorem z_fList_tup {l : List D} {Q : D → Prop} : (∃ z, fList [.tup l] = some z ∧ Q z) ↔ pureL l = true ∧ Q (.own l) := by
  simp only [fList, D.items, Option.bind_some]
  by_cases h : pureL l = true <;> simp [h]
theorem z_fList_lst {l : List D} {Q : D → Prop} : (∃ z, fList [.lst l] = some z ∧ Q z) ↔ pureL l = true ∧ Q (.own l) := by
  simp only [fList, D.items, Option.bind_some]
  by_cases h : pureL l = true <;> simp [h]
theorem z_fCatL {a b : List D} {Q : D → Prop} : (∃ z, fCatL (.own a) (.own b) = some z ∧ Q z) ↔ (pureL a = true ∧ pureL b = true ∧ a.length + b.length ≤ 1000000) ∧ Q (.own (a ++ b)) := by
  simp only [fCatL]
  split <;> rename_i h <;> simp [h]
theorem z_fRepT {a : List D} {k : Int} {Q : D → Prop} : (∃ z, fRepT (.tup a) (.int k) = some z ∧ Q z) ↔ (a ≠ [] ∧ 1 ≤ k ∧ k ≤ 1000 ∧ a.length ≤ 1000) ∧ Q (.tup (List.replicate k.toNat a).flatten) := by
  simp only [fRepT]
  split <;> rename_i h
  · simp [h]
  · simp only [reduceCtorEq, false_and, exists_false, false_iff]; rintro ⟨h1, _⟩; exact h h1
theorem z_dIx_tup {l : List D} {i : Int} : dIx (.tup l) (.int i) = atI l i := rfl
theorem z_dIx_lst {l : List D} {i : Int} : dIx (.lst l) (.int i) = atI l i := rfl
theorem z_dIx_own {l : List D} {i : Int} : dIx (.own l) (.int i) = atI l i := rfl
theorem z_at0 {α : Type} {a : α} {l : List α} : atI (a :: l) 0 = some a := by unfold atI ixN; simp
theorem z_at1 {α : Type} {a b : α} {l : List α} : atI (a :: b :: l) 1 = some b := by
  show atI (a :: b :: l) ((1 : Nat) : Int) = some b
  exact atI_nat rfl
theorem z_at2 {α : Type} {a b c : α} {l : List α} : atI (a :: b :: c :: l) 2 = some c := by
  show atI (a :: b :: c :: l) ((2 : Nat) : Int) = some c
  exact atI_nat rfl
theorem z_isN_non : fIsN .non .non = some (.bl true) := rfl
theorem z_isN_int {i : Int} : fIsN (.int i) .non = some (.bl false) := rfl
theorem z_isN_tup {l : List D} : fIsN (.tup l) .non = some (.bl false) := rfl
theorem z_notN_non : fNotN .non .non = some (.bl false) := rfl
theorem z_notN_int {i : Int} : fNotN (.int i) .non = some (.bl true) := rfl
theorem z_notN_tup {l : List D} : fNotN (.tup l) .non = some (.bl true) := rfl
theorem pureL_maplf {α : Type} {f : α → D} (h : ∀ x, (f x).lf = true) (l : List α) : pureL (l.map f) = true := pureL_lf _ (lfL_iff.mpr fun d hd => by
  obtain ⟨a, _, rfl⟩ := List.mem_map.mp hd
  exact h a)
theorem pureL_int (l : List Int) : pureL (l.map D.int) = true := pureL_maplf (fun _ => rfl) l
theorem pureL_app {a b : List D} : pureL (a ++ b) = (pureL a && pureL b) := by
  induction a with
  | nil => rfl
  | cons x a ih => simp only [List.cons_append, pureL, ih, Bool.and_assoc]
theorem pureL_ints (n : Nat) : pureL ((List.range n).map fun (i : Nat) => D.int (i : Int)) = true := pureL_maplf (fun _ => rfl) _
theorem t_items_tup {l : List D} : (D.tup l).items = some l := rfl
theorem t_items_lst {l : List D} : (D.lst l).items = some l := rfl
theorem t_items_own {l : List D} : (D.own l).items = some l := rfl
theorem t_lfo_own {l : List D} : (D.own l).lfo = lfL l := rfl
theorem t_lfo_tup {l : List D} : (D.tup l).lfo = lfL l := rfl
theorem t_lfo_int {i : Int} : (D.int i).lfo = true := rfl
theorem t_lfo_bl {i : Bool} : (D.bl i).lfo = true := rfl
theorem t_D_view_int {i : Int} : D.view (.int i) = .int i := rfl
theorem flat_map {α β : Type} (l : List α) (f : α → List β) (g : β → D) : (l.flatMap fun x => (f x).map g) = (l.flatMap f).map g := by
  induction l with
  | nil => rfl
  | cons a l ih => simp [ih]
theorem sFor_inv {α : Type} {ti : TXs} {g : TGx} {tb : TSx} {D' : DE} {ρ : En} (enc : α → D) (xs : List α) (ρ1 : En) (hi : ∀ R : List D → En → Prop, R (xs.map enc) ρ1 → ti ρ R) (J : List α → En → Prop) (h0 : J [] ρ1)
    (hs : ∀ (I : List α → En → Prop), (∀ pre ρ, J pre ρ → I pre ρ) → ∀ (pre : List α) (x : α) (post : List α) (ρ : En), xs = pre ++ x :: post → J pre ρ → g (enc x) ρ fun ρ' => tb { D' with nx := I (pre ++ [x]), ct := I (pre ++ [x]), bk := D'.nx } ρ') (hd : ∀ ρ, J xs ρ → D'.nx ρ) : sFor ti g tb D' ρ :=
  sFor_run enc xs ρ1 hi J h0 (fun pre x post ρ e h => hs J (fun _ _ h => h) pre x post ρ e h) hd
theorem xIxV_w (i : Nat) (tb : TX) : xIxV i tb = fun ρ Q => (∃ d, ρ[i]? = some (some d)) ∧ tb ρ fun y ρ2 => ∃ x, ρ2[i]? = some (some x) ∧ ∃ z, dIx x y = some z ∧ Q z ρ2 := by
  funext ρ Q; simp only [xIxV, exists_and_left]
theorem sAug_w (i : Nat) (f : D → D → Option D) (t : TX) : sAug i f t = fun D' ρ => (∃ x, ρ[i]? = some (some (.int x))) ∧ t ρ fun y ρ' => ∃ x, ρ'[i]? = some (some x) ∧ ∃ z, f x y = some z ∧ z.pure = true ∧ i < ρ'.length ∧ D'.nx (ρ'.set i (some z)) := by
  funext D' ρ; simp only [sAug, exists_and_left]
theorem sSt_w (i : Nat) (tv ti : TX) : sSt i tv ti = fun D' ρ => tv ρ fun d ρ1 => (∃ d0, ρ1[i]? = some (some d0)) ∧ ti ρ1 fun y ρ2 => ∃ l, ρ2[i]? = some (some (.own l)) ∧ ∃ k, y = .int k ∧ pureL l = true ∧ ∃ l', setAt l k d = some l' ∧ D'.nx (ρ2.set i (some (.own l'))) := by
  funext D' ρ; simp only [sSt, exists_and_left]
theorem xCallM_w (n : Nat) (φ : Ph) (as : List (Option Nat)) (u : TXs) : xCallM n φ as u = fun ρ Q => u ρ fun ds ρ' => ∃ p, takeIO as ds ρ' = some p ∧ p.1.length = n ∧ φ p.1 fun d ds' => Q d (putIO as ds' p.2) := by
  funext ρ Q; simp only [xCallM, Prod.exists]
theorem takeIO_0 (ρ : En) : takeIO [] [] ρ = some ([], ρ) := rfl
theorem takeIO_n (as : List (Option Nat)) (d : D) (ds : List D) (ρ : En) : takeIO (none :: as) (d :: ds) ρ = (takeIO as ds ρ).map fun p => (d :: p.1, p.2) := rfl
theorem takeIO_s (i : Nat) (as : List (Option Nat)) (d x : D) (ds : List D) (ρ : En) (h : ρ[i]? = some (some x)) : takeIO (some i :: as) (d :: ds) ρ = (takeIO as ds (ρ.set i none)).map fun p => (x :: p.1, p.2) := by simp only [takeIO, h]
theorem putIO_s (i : Nat) (as : List (Option Nat)) (d : D) (r ρ : En) : putIO (some i :: as) (some d :: r) ρ = putIO as r (ρ.set i (some d)) := rfl
theorem putIO_n (as : List (Option Nat)) (d : Option D) (r ρ : En) : putIO (none :: as) (d :: r) ρ = putIO as r ρ := by cases d <;> rfl
theorem putIO_0 (ρ : En) : putIO [] [] ρ = ρ := rfl
theorem gsC_c (g : TGx) (h : TGsx) (d : D) (r : List D) (ρ : En) (Q : En → Prop) : gsC g h (d :: r) ρ Q = g d ρ fun ρ' => h r ρ' Q := by
  apply propext
  constructor
  · rintro ⟨d', r', e, q⟩; cases e; exact q
  · intro q; exact ⟨_, _, rfl, q⟩
theorem gsN_0 (ρ : En) (Q : En → Prop) : gsN [] ρ Q = Q ρ := by simp [gsN]
theorem gT_c (h : TGsx) (n : Nat) (l : List D) (ρ : En) (Q : En → Prop) : gT h n (.tup l) ρ Q = (l.length = n ∧ h l ρ Q) := by
  apply propext
  constructor
  · rintro ⟨l', e, q⟩; cases e; exact q
  · intro q; exact ⟨_, rfl, q⟩
theorem xCompM_inv {α : Type} {ti : TXs} {g : TGx} {tt : TB} {te : TX} {vs : List Nat} {ρ : En} {Q : D → En → Prop} (enc : α → D) (xs : List α) (ρ1 : En) (hi : ∀ R : List D → En → Prop, R (xs.map enc) ρ1 → ti ρ R) (J : List α → List D → En → Prop) (h0 : J [] [] (wipeE ρ1 vs))
    (hs : ∀ (I : List α → List D → En → Prop), (∀ pre acc ρ, J pre acc ρ → I pre acc ρ) → ∀ (pre : List α) (x : α) (post : List α) (acc : List D) (ρ2 : En), xs = pre ++ x :: post → J pre acc ρ2 → g (enc x) ρ2 fun ρ3 => tt ρ3 fun k ρ4 => if k = true then te ρ4 fun d ρ5 => acc.length < 1000000 ∧ I (pre ++ [x]) (acc ++ [d]) (wipeE ρ5 vs) else I (pre ++ [x]) acc (wipeE ρ4 vs))
    (hq : ∀ acc ρ2, J xs acc ρ2 → Q (.own acc) (backE ρ1 ρ2 vs)) : xCompM ti g tt te vs ρ Q := by
  refine hi _ ⟨fun ys acc ρ2 => J (xs.take ys.length) acc ρ2, by simpa using h0, fun pre x post acc ρ2 e ia => ?_, fun acc ρ2 ia => hq acc ρ2 (by simpa using ia)⟩
  obtain ⟨a, e1, rfl, e2⟩ := map_split e
  have := hs J (fun _ _ _ h => h) _ a _ acc ρ2 e1 ia
  simp only [List.length_append, List.length_singleton]
  rw [e2]
  exact this
theorem noqs_of {l : List D} (h : ∀ d ∈ l, d.noq = true) : noqs l = true := by
  induction l with
  | nil => rfl
  | cons a l ih => simp only [noqs, Bool.and_eq_true]; exact ⟨h a (by simp), ih fun d hd => h d (by simp [hd])⟩
theorem lays_of {l : List D} (h : ∀ d ∈ l, d.toP.canLay0 = true) : PyData.canLayAll0 (toPs l) = true := by
  induction l with
  | nil => simp [toPs, PyData.canLayAll0]
  | cons a l ih => simp only [toPs, PyData.canLayAll0, Bool.and_eq_true]; exact ⟨h a (by simp), ih fun d hd => h d (by simp [hd])⟩
theorem deps_of {l : List D} {n : Nat} (h : ∀ d ∈ l, d.toP.depth ≤ n) : PyData.depthAll (toPs l) ≤ n := by
  induction l with
  | nil => simp [toPs, PyData.depthAll]
  | cons a l ih =>
    have h1 := h a (by simp)
    have h2 := ih fun d hd => h d (by simp [hd])
    simp only [toPs, PyData.depthAll]
    omega
theorem eqNil {l : List D} (h : ∀ d ∈ l, d.noq = true ∧ d.toP.canLay0 = true ∧ d.toP.depth ≤ 8) : ∃ k, fEqD (.own l) (.own []) = some (.bl k) := by
  have h1 := noqs_of fun d hd => (h d hd).1
  have h2 := lays_of fun d hd => (h d hd).2.1
  have h3 := deps_of fun d hd => (h d hd).2.2
  have hs : SeqAt.shaped (D.own l).toP = true := by
    have hd : PyData.depth (.list (toPs l)) ≤ 64 := by
      simp only [PyData.depth]
      omega
    show (PyData.canLay0 (.list (toPs l)) && decide (PyData.depth (.list (toPs l)) ≤ 64)) = true
    rw [Bool.and_eq_true]
    exact ⟨by simp only [PyData.canLay0]; exact h2, decide_eq_true hd⟩
  have hs0 : SeqAt.shaped (D.own []).toP = true := by
    show (PyData.canLay0 (.list []) && decide (PyData.depth (.list []) ≤ 64)) = true
    simp [PyData.canLay0, PyData.canLayAll0, PyData.depth, PyData.depthAll]
  refine ⟨_, by unfold fEqD; rw [if_pos ⟨by simpa [D.noq] using h1, rfl, hs, hs0⟩]⟩
theorem setAt_map {α : Type} {enc : α → D} {l : List α} {i : Nat} {a : α} (h : i < l.length) : setAt (l.map enc) (i : Int) (enc a) = some ((l.set i a).map enc) := by
  unfold setAt
  rw [List.length_map, ixN_nat h]
  simp [List.map_set]
theorem s_at0 {a b d : D} : setAt [a, b] 0 d = some [d, b] := by unfold setAt ixN; simp
theorem s_at1 {a b d : D} : setAt [a, b] 1 d = some [a, d] := by unfold setAt ixN; simp
theorem y_int_tup {i : Int} : fIsi [.int i, .opq (.ty "tuple")] = some (.bl false) := by simp [fIsi, D.tyN, isiB]
theorem y_non_tup : fIsi [.non, .opq (.ty "tuple")] = some (.bl false) := by simp [fIsi, D.tyN, isiB]
theorem y_tup_tup {l : List D} : fIsi [.tup l, .opq (.ty "tuple")] = some (.bl true) := by simp [fIsi, D.tyN, isiB]
theorem y_int_int {i : Int} : fIsi [.int i, .opq (.ty "int")] = some (.bl true) := by simp [fIsi, D.tyN, isiB]
theorem y_int_bool {i : Int} : fIsi [.int i, .opq (.ty "bool")] = some (.bl false) := by simp [fIsi, D.tyN, isiB]
theorem y_isB {i : Int} {k : Bool} : fIsB (.int i) (.bl k) = some (.bl false) := rfl
theorem zip_same (l : List D) : List.zipWith (fun x y => D.tup [x, y]) l l = l.map fun x => .tup [x, x] := by
  induction l with
  | nil => rfl
  | cons a l ih => simp [ih]
end VL

set_option Elab.async false
set_option linter.all false
set_option maxRecDepth 100000
/-! D75: data of k75, promises. -/
namespace VL
open PySem L2
structure Sv where
  pr : List (List Int)
  co : List (List (Option Int))
abbrev Stp := Option (Int × Int × Int)
abbrev Bk := List (List Stp)
structure Cs where
  m : Sv
  t : Sv
  b : Bk
def eO : Option Int → D
  | none => .non
  | some i => .int i
def eSt : Stp → D
  | none => .non
  | some (a, b, c) => .tup [.int a, .int b, .int c]
def eRow (r : List Int) : D := .tup (r.map .int)
def ePr (p : List (List Int)) : D := .tup (p.map eRow)
def eCoR (r : List (Option Int)) : D := .tup (r.map eO)
def eCo (c : List (List (Option Int))) : D := .tup (c.map eCoR)
def eSv (s : Sv) : D := .tup [ePr s.pr, eCo s.co]
def eRm (r : List Stp) : D := .tup (r.map eSt)
def eBk (b : Bk) : D := .tup (b.map eRm)
def eCs (c : Cs) : D := .tup [eSv c.m, eSv c.t, eBk c.b]
theorem lfL_map {α : Type} {f : α → D} (h : ∀ x, (f x).lf = true) (l : List α) : lfL (l.map f) = true := lfL_iff.mpr fun d hd => by
  obtain ⟨a, _, rfl⟩ := List.mem_map.mp hd
  exact h a
theorem lf_eO (x : Option Int) : (eO x).lf = true := by cases x <;> rfl
theorem lf_eSt (x : Stp) : (eSt x).lf = true := by cases x <;> rfl
theorem lf_eRow (r : List Int) : (eRow r).lf = true := by simp only [eRow, D.lf]; exact lfL_map (fun _ => rfl) r
theorem lf_ePr (r : List (List Int)) : (ePr r).lf = true := by simp only [ePr, D.lf]; exact lfL_map lf_eRow r
theorem lf_eCoR (r : List (Option Int)) : (eCoR r).lf = true := by simp only [eCoR, D.lf]; exact lfL_map lf_eO r
theorem lf_eCo (r : List (List (Option Int))) : (eCo r).lf = true := by simp only [eCo, D.lf]; exact lfL_map lf_eCoR r
theorem lf_eSv (s : Sv) : (eSv s).lf = true := by simp [eSv, D.lf, lfL, lf_ePr, lf_eCo]
theorem lf_eRm (r : List Stp) : (eRm r).lf = true := by simp only [eRm, D.lf]; exact lfL_map lf_eSt r
theorem lf_eBk (r : Bk) : (eBk r).lf = true := by simp only [eBk, D.lf]; exact lfL_map lf_eRm r
theorem lf_eCs (c : Cs) : (eCs c).lf = true := by simp [eCs, D.lf, lfL, lf_eSv, lf_eBk]
theorem pure_eO (x) : (eO x).pure = true := D.pure_lf _ (lf_eO x)
theorem pure_eSt (x) : (eSt x).pure = true := D.pure_lf _ (lf_eSt x)
theorem pure_eRow (x) : (eRow x).pure = true := D.pure_lf _ (lf_eRow x)
theorem pure_ePr (x) : (ePr x).pure = true := D.pure_lf _ (lf_ePr x)
theorem pure_eCoR (x) : (eCoR x).pure = true := D.pure_lf _ (lf_eCoR x)
theorem pure_eCo (x) : (eCo x).pure = true := D.pure_lf _ (lf_eCo x)
theorem pure_eSv (x) : (eSv x).pure = true := D.pure_lf _ (lf_eSv x)
theorem pure_eRm (x) : (eRm x).pure = true := D.pure_lf _ (lf_eRm x)
theorem pure_eBk (x) : (eBk x).pure = true := D.pure_lf _ (lf_eBk x)
theorem pure_eCs (x) : (eCs x).pure = true := D.pure_lf _ (lf_eCs x)
/-! well-formed, to so much -/
structure WfS (B : Nat) (s : Sv) : Prop where
  n1 : 1 ≤ s.pr.length
  nB : s.pr.length ≤ B
  sq : ∀ r ∈ s.pr, r.length = s.pr.length
  cB : s.co.length ≤ B
  cw : ∀ r ∈ s.co, r.length = s.pr.length
structure WfB (B : Nat) (b : Bk) : Prop where
  n1 : 1 ≤ b.length
  nB : b.length ≤ B
  rB : ∀ r ∈ b, r.length ≤ B
structure WfC (B : Nat) (c : Cs) : Prop where
  m : WfS B c.m
  t : WfS B c.t
  b : WfB B c.b
/-! the program's functions over the data -/
def pairPrices (one two : List (List Int)) : List (List Int) := one.flatMap fun row => two.map fun other => row.flatMap fun p => other.map fun m => p + m
def pairCosts (one two : Sv) : List (List (Option Int)) :=
  (one.co.map fun row => row.flatMap fun c => (List.range two.pr.length).map fun _ => c) ++ two.co.map fun row => (List.replicate one.pr.length row).flatten
def pairSv (one two : Sv) : Sv := ⟨pairPrices one.pr two.pr, pairCosts one two⟩
def pairRoom (first second : Nat) (one two : Bk) (tasks : Int) : List Stp :=
  ((one.getD first []).map fun s => s.map fun (a, b, c) => (a, b, c * (two.length : Int) + second)) ++ (two.getD second []).map fun s => s.map fun (a, b, c) => (tasks + a, b, (first : Int) * two.length + c)
def pairBook (one two : Bk) (tasks : Int) : Bk := (List.range one.length).flatMap fun i => (List.range two.length).map fun j => pairRoom i j one two tasks
def bothCs (a b : Cs) : Cs := ⟨pairSv a.m b.m, pairSv a.t b.t, pairBook a.b b.b a.m.co.length⟩
/-! the law's own -/
def lawPairs (n m : Nat) : List (Nat × Nat) := (List.range n).flatMap fun i => (List.range m).map fun j => (i, j)
def lawPaired (one two : Sv) : Sv :=
  let ps := lawPairs one.pr.length two.pr.length
  ⟨ps.map fun p => ps.map fun g => ((one.pr.getD p.1 []).getD g.1 0) + ((two.pr.getD p.2 []).getD g.2 0),
   (one.co.map fun row => ps.map fun p => row.getD p.1 none) ++ two.co.map fun row => ps.map fun p => row.getD p.2 none⟩
def lawBook (one two : Bk) (tasks : Int) : Bk := (List.range (one.length * two.length)).map fun i => pairRoom (i / two.length) (i % two.length) one two tasks
def lawBeside (a b : Cs) : Cs := ⟨lawPaired a.m b.m, lawPaired a.t b.t, lawBook a.b b.b a.m.co.length⟩
/-! promises -/
def ph_pair_prices : Ph := fun ds R => ∃ one two : Sv, ds = [ePr one.pr, ePr two.pr] ∧ WfS 10 one ∧ WfS 10 two ∧ R (ePr (pairPrices one.pr two.pr)) [none, none]
def ph_pair_costs : Ph := fun ds R => ∃ one two : Sv, ds = [eSv one, eSv two] ∧ WfS 10 one ∧ WfS 10 two ∧ R (eCo (pairCosts one two)) [none, none]
def ph_pair_service : Ph := fun ds R => ∃ one two : Sv, ds = [eSv one, eSv two] ∧ WfS 10 one ∧ WfS 10 two ∧ R (eSv (pairSv one two)) [none, none]
def ph_pair_room : Ph := fun ds R => ∃ (i j : Nat) (one two : Bk) (tasks : Int), ds = [.int i, .int j, eBk one, eBk two, .int tasks] ∧ i < one.length ∧ j < two.length ∧ WfB 10 one ∧ WfB 10 two ∧ R (eRm (pairRoom i j one two tasks)) [none, none, none, none, none]
def ph_pair_book : Ph := fun ds R => ∃ (one two : Bk) (tasks : Int), ds = [eBk one, eBk two, .int tasks] ∧ WfB 10 one ∧ WfB 10 two ∧ R (eBk (pairBook one two tasks)) [none, none, none]
def ph_both_case : Ph := fun ds R => ∃ a b : Cs, ds = [eCs a, eCs b] ∧ WfC 10 a ∧ WfC 10 b ∧ R (eCs (bothCs a b)) [none, none]
def bx (g r : Int) : D := .own [.int g, .int r]
def ph_law_take : Ph := fun ds R => ∃ g r many : Int, ds = [bx g r, .int many] ∧ 0 < many ∧ many < 1073741824 ∧ ∀ i g' r' : Int, 0 ≤ i → i < many → R (.int i) [some (bx g' r'), none]
def ph_law_pick : Ph := fun ds R => ∃ (g r : Int) (l : List Int), ds = [bx g r, .own (l.map .int)] ∧ l ≠ [] ∧ l.length ≤ 1000 ∧ ∀ (i : Int) (g' r' : Int), i ∈ l → R (.int i) [some (bx g' r'), none]
def plain : Nat → D → Prop
  | _, .int _ => True
  | _, .non => True
  | k + 1, .tup l => l.length ≤ 1000 ∧ ∀ d ∈ l, plain k d
  | _, _ => False
def ph_same (k : Nat) : Ph := fun ds R => ∃ x, ds = [x, x] ∧ plain k x ∧ x.lf = true ∧ R (.bl true) [none, none]
def ph_law_same : Ph := ph_same 4
def ph_law_closed : Ph := fun ds R => ∃ p : List (List Int), ds = [.lst (p.map eRow)] ∧ p.length ≤ 10 ∧ (∀ r ∈ p, r.length = p.length) ∧ ∀ p' : List (List Int), p'.length = p.length → (∀ r ∈ p', r.length = p.length) → R (ePr p') [none]
def ph_law_service : Ph := fun ds R => ∃ (g r : Int) (st tk : Nat) (dear bars : Int), ds = [bx g r, .int st, .int tk, .int dear, .int bars] ∧ 1 ≤ st ∧ st ≤ 10 ∧ tk ≤ 10 ∧ 0 ≤ dear ∧ dear ≤ 1000 ∧ 0 < bars ∧ bars ≤ 1000 ∧
  ∀ (s : Sv) (g' r' : Int), s.pr.length = st → (∀ x ∈ s.pr, x.length = st) → s.co.length = tk → (∀ x ∈ s.co, x.length = st) → R (eSv s) [some (bx g' r'), none, none, none, none]
def ph_law_book : Ph := fun ds R => ∃ (g r : Int) (rooms signs : Nat) (tasks worst : Int), ds = [bx g r, .int rooms, .int signs, .int tasks, .int worst] ∧ 1 ≤ rooms ∧ rooms ≤ 10 ∧ 1 ≤ signs ∧ signs ≤ 10 ∧ 0 < tasks ∧ tasks ≤ 10 ∧ 0 ≤ worst ∧ worst ≤ 10 ∧
  ∀ (b : Bk) (g' r' : Int), b.length = rooms → (∀ x ∈ b, x.length = signs) → R (eBk b) [some (bx g' r'), none, none, none, none]
def ph_law_case : Ph := fun ds R => ∃ (g r : Int) (B : Nat) (st rooms signs : Nat) (dear : Int), ds = [bx g r, .int st, .int rooms, .int signs, .int dear] ∧ 1 ≤ st ∧ st ≤ B ∧ 1 ≤ rooms ∧ rooms ≤ B ∧ 1 ≤ signs ∧ signs ≤ B ∧ 3 ≤ B ∧ B ≤ 10 ∧ 0 ≤ dear ∧ dear ≤ 1000 ∧
  ∀ (c : Cs) (g' r' : Int), WfC B c → R (eCs c) [some (bx g' r'), none, none, none, none]
def ph_law_wide : Ph := fun ds R => ∃ (g r : Int) (st : Nat), ds = [bx g r, .int st] ∧ 1 ≤ st ∧ st ≤ 10 ∧ ∀ (c : Cs) (g' r' : Int), WfC 10 c → R (eCs c) [some (bx g' r'), none]
def e3 (p : Int × Int × Int) : D := .tup [.int p.1, .int p.2.1, .int p.2.2]
def lawRing (l : List (Int × Int × Int)) : Cs := ⟨⟨[[0]], l.map fun p => [some p.1]⟩, ⟨[[0]], l.map fun p => [some p.2.1]⟩, [l.zipIdx.map fun q => some ((q.2 : Int), q.1.2.2, 0)]⟩
def ph_law_ring : Ph := fun ds R => ∃ l : List (Int × Int × Int), ds = [.lst (l.map e3)] ∧ l.length ≤ 3 ∧ R (eCs (lawRing l)) [none]
def ph_law_paired : Ph := fun ds R => ∃ one two : Sv, ds = [eSv one, eSv two] ∧ WfS 10 one ∧ WfS 10 two ∧ R (eSv (lawPaired one two)) [none, none]
def ph_law_beside : Ph := fun ds R => ∃ a b : Cs, ds = [eCs a, eCs b] ∧ WfC 10 a ∧ WfC 10 b ∧ R (eCs (lawBeside a b)) [none, none]
def ph_law_box : Ph := fun ds R => ∃ (ns : List Int) (k : Nat), ds = [.lst (ns.map .int), .int k] ∧ ns.length ≤ 63 ∧ k ≤ 100 ∧ ∀ g r : Int, R (bx g r) [none, none]
def ph_law_fixed : Ph := fun ds R => ds = [] ∧ R (.bl true) []
def ph_law : Ph := fun ds R => ∃ ns : List Int, ds = [.lst (ns.map .int)] ∧ ns.length ≤ 63 ∧ R (.bl true) [none]
end VL

set_option Elab.async false
set_option linter.all false
set_option maxRecDepth 100000
set_option maxHeartbeats 4000000
namespace VL
open PySem L2
def N_pair_prices : List Str := ["one", "two", "rows", "row", "other", "price", "more"]
def t_pair_prices : TSx :=
  (sC (sSet (xLst xsN) (gN 2))
    (sC (sFor (iSqx (xP (xV 0))) (gN 3) (sC (sFor (iSqx (xP (xV 1))) (gN 4) (sC (sApp 2 (xCall fTuple (xsC (xComp2 (iSqx (xV 3)) (gN 5) bYes (iSqx (xP (xV 4))) (gN 6) bYes (xBin fAdd (xV 5) (xV 6)) [5, 6] [6]) xsN)))
    sN))
    sN))
    (sC (sRet (xCall fTuple (xsC (xV 2) xsN)))
    sN)))
def N_pair_costs : List Str := ["one", "two", "many", "others", "costs", "row", "cost", "other"]
def t_pair_costs : TSx :=
  (sC (sPar (xsC (xCall fLen (xsC (xIxV 0 (xC (.int 0))) xsN)) (xsC (xCall fLen (xsC (xIxV 1 (xC (.int 0))) xsN)) xsN)) fun ds ρ Q => ds.length = 2 ∧ (gsC (gN 2) (gsC (gN 3) gsN)) ds ρ Q)
    (sC (sSet (xComp (iSqx (xIxV 0 (xC (.int 1)))) (gN 5) bYes (xCall fTuple (xsC (xComp2 (iSqx (xV 5)) (gN 6) bYes (iRg1 (xsC (xV 3) xsN)) (gN 7) bYes (xP (xV 6)) [6, 7] [7]) xsN)) [5]) (gN 4))
    (sC (sFor (iSqx (xP (xIxV 1 (xC (.int 1))))) (gN 5) (sC (sApp 4 (xBin fRepT (xV 5) (xV 2)))
    sN))
    (sC (sRet (xCall fTuple (xsC (xV 4) xsN)))
    sN))))
def N_pair_room : List Str := ["first", "second", "one", "two", "tasks", "others", "row", "step"]
def t_pair_room : TSx :=
  (sC (sPar (xsC (xCall fLen (xsC (xV 3) xsN)) (xsC (xLst xsN) xsN)) (gsL [5, 6]))
    (sC (sFor (iSqx (xP (xIxV 2 (xV 0)))) (gN 7) (sC (sApp 6 (xIf (bV (xBin fIsN (xV 7) (xC .non))) (xC .non) (xTup (xsC (xIxV 7 (xC (.int 0))) (xsC (xIxV 7 (xC (.int 1))) (xsC (xBin fAdd (xBin fMul (xIxV 7 (xC (.int 2))) (xV 5)) (xV 1)) xsN))))))
    sN))
    (sC (sFor (iSqx (xP (xIxV 3 (xV 1)))) (gN 7) (sC (sApp 6 (xIf (bV (xBin fIsN (xV 7) (xC .non))) (xC .non) (xTup (xsC (xBin fAdd (xV 4) (xIxV 7 (xC (.int 0)))) (xsC (xIxV 7 (xC (.int 1))) (xsC (xBin fAdd (xBin fMul (xV 0) (xV 5)) (xIxV 7 (xC (.int 2)))) xsN))))))
    sN))
    (sC (sRet (xCall fTuple (xsC (xV 6) xsN)))
    sN))))
def N_law_take : List Str := ["box", "many", "digit", "raw"]
def t_law_take : TSx :=
  (sC (sIf (bV (xBin fGt (xIxV 0 (xC (.int 0))) (xC (.int 0)))) (sC (sSet (xBin fMod (xCall fInt1 (xsC (xIxV 0 (xC (.int 0))) xsN)) (xV 1)) (gN 2))
    (sC (sSt 0 (xP (xBin fDiv (xIxV 0 (xC (.int 0))) (xV 1))) (xC (.int 0)))
    (sC (sRet (xP (xV 2)))
    sN))) sN)
    (sC (sSet (xBin fMod (xCall fInt1 (xsC (xBin fAdd (xBin fMul (xIxV 0 (xC (.int 1))) (xC (.int 39373))) (xC (.int 211))) xsN)) (xC (.int 2147483647))) (gN 3))
    (sC (sSt 0 (xP (xBin fAdd (xBin fMod (xCall fInt1 (xsC (xBin fAdd (xBin fMul (xV 3) (xC (.int 40692))) (xC (.int 97))) xsN)) (xC (.int 2147483563))) (xC (.int 1)))) (xC (.int 1)))
    (sC (sRet (xBin fMod (xCall fInt1 (xsC (xBin fDiv (xBin fAdd (xBin fMul (xV 3) (xC (.int 2147483629))) (xIxV 0 (xC (.int 1)))) (xC (.int 8233))) xsN)) (xV 1)))
    sN))))
def N_law_closed : List Str := ["prices", "many", "found", "stop", "one", "two", "row"]
def t_law_closed : TSx :=
  (sC (sPar (xsC (xCall fLen (xsC (xV 0) xsN)) (xsC (xComp (iSqx (xV 0)) (gN 6) bYes (xCall fList (xsC (xV 6) xsN)) [6]) xsN)) (gsL [1, 2]))
    (sC (sFor (iRg1 (xsC (xV 1) xsN)) (gN 3) (sC (sFor (iRg1 (xsC (xV 1) xsN)) (gN 4) (sC (sFor (iRg1 (xsC (xV 1) xsN)) (gN 5) (sC (sSt2 2 (xCall fMin2 (xsC (xBin dIx (xIxV 2 (xV 4)) (xV 5)) (xsC (xBin fAdd (xBin dIx (xIxV 2 (xV 4)) (xV 3)) (xBin dIx (xIxV 2 (xV 3)) (xV 5))) xsN))) (xV 4) (xV 5))
    sN))
    sN))
    sN))
    (sFz 2 (sC (sRet (xCall fTuple (xsC (xComp (iSqx (xV 2)) (gN 6) bYes (xCall fTuple (xsC (xV 6) xsN)) [6]) xsN)))
    sN))))
def N_law_ring : List Str := ["signs", "mine", "theirs", "one", "task"]
def t_law_ring : TSx :=
  (sC (sPar (xsC (xTup (xsC (xTup (xsC (xTup (xsC (xC (.int 0)) xsN)) xsN)) (xsC (xCall fTuple (xsC (xComp (iSqx (xV 0)) (gN 3) bYes (xTup (xsC (xIxV 3 (xC (.int 0))) xsN)) [3]) xsN)) xsN))) (xsC (xTup (xsC (xTup (xsC (xTup (xsC (xC (.int 0)) xsN)) xsN)) (xsC (xCall fTuple (xsC (xComp (iSqx (xV 0)) (gN 3) bYes (xTup (xsC (xIxV 3 (xC (.int 1))) xsN)) [3]) xsN)) xsN))) xsN)) (gsL [1, 2]))
    (sC (sRet (xTup (xsC (xV 1) (xsC (xV 2) (xsC (xTup (xsC (xCall fTuple (xsC (xComp (iEn (xsC (xV 0) xsN)) (gT (gsC (gN 4) (gsC (gN 3) gsN)) 2) bYes (xTup (xsC (xV 4) (xsC (xIxV 3 (xC (.int 2))) (xsC (xC (.int 0)) xsN)))) [4, 3]) xsN)) xsN)) xsN)))))
    sN))
def N_law_paired : List Str := ["one", "two", "pairs", "first", "second", "prices", "pair", "costs", "row", "goal"]
def t_law_paired : TSx :=
  (sC (sSet (xLst xsN) (gN 2))
    (sC (sFor (iRg1 (xsC (xCall fLen (xsC (xIxV 0 (xC (.int 0))) xsN)) xsN)) (gN 3) (sC (sFor (iRg1 (xsC (xCall fLen (xsC (xIxV 1 (xC (.int 0))) xsN)) xsN)) (gN 4) (sC (sApp 2 (xTup (xsC (xV 3) (xsC (xV 4) xsN))))
    sN))
    sN))
    (sFz 2 (sC (sSet (xLst xsN) (gN 5))
    (sC (sFor (iSqx (xP (xV 2))) (gN 6) (sC (sApp 5 (xCall fTuple (xsC (xComp (iSqx (xV 2)) (gN 9) bYes (xBin fAdd (xBin dIx (xBin dIx (xIxV 0 (xC (.int 0))) (xIxV 6 (xC (.int 0)))) (xIxV 9 (xC (.int 0)))) (xBin dIx (xBin dIx (xIxV 1 (xC (.int 0))) (xIxV 6 (xC (.int 1)))) (xIxV 9 (xC (.int 1))))) [9]) xsN)))
    sN))
    (sC (sSet (xComp (iSqx (xIxV 0 (xC (.int 1)))) (gN 8) bYes (xCall fTuple (xsC (xComp (iSqx (xV 2)) (gN 6) bYes (xP (xIxV 8 (xIxV 6 (xC (.int 0))))) [6]) xsN)) [8]) (gN 7))
    (sC (sSet (xBin fCatL (xV 7) (xComp (iSqx (xIxV 1 (xC (.int 1)))) (gN 8) bYes (xCall fTuple (xsC (xComp (iSqx (xV 2)) (gN 6) bYes (xP (xIxV 8 (xIxV 6 (xC (.int 1))))) [6]) xsN)) [8])) (gN 7))
    (sC (sRet (xTup (xsC (xCall fTuple (xsC (xV 5) xsN)) (xsC (xCall fTuple (xsC (xV 7) xsN)) xsN))))
    sN))))))))
def N_law_box : List Str := ["script", "k", "cell", "great"]
def t_law_box : TSx :=
  (sC (sSet (xBin fAdd (xBin fMul (xC (.int 17507)) (xV 1)) (xC (.int 9551))) (gN 2))
    (sC (sIf (bV (xBin fLt (xV 1) (xCall fLen (xsC (xV 0) xsN)))) (sC (sSet (xCall fAbs (xsC (xCall fInt1 (xsC (xIxV 0 (xV 1)) xsN)) xsN)) (gN 2))
    sN) (sC (sIf (bV (xBin fGt (xCall fLen (xsC (xV 0) xsN)) (xC (.int 0)))) (sC (sSet (xBin fAdd (xV 2) (xBin fMul (xBin fMod (xCall fInt1 (xsC (xCall fAbs (xsC (xCall fInt1 (xsC (xIxV 0 (xBin fMod (xCall fInt1 (xsC (xV 1) xsN)) (xCall fLen (xsC (xV 0) xsN)))) xsN)) xsN)) xsN)) (xC (.int 2147483563))) (xC (.int 88667)))) (gN 2))
    sN) sN)
    sN))
    (sC (sSet (xIf (bV (xBin fGe (xV 2) (xBin fPow (xC (.int 10)) (xC (.int 18))))) (xP (xV 2)) (xC (.int 0))) (gN 3))
    (sC (sRet (xLst (xsC (xP (xV 3)) (xsC (xBin fAdd (xBin fMod (xCall fInt1 (xsC (xBin fAdd (xBin fMul (xBin fMod (xCall fInt1 (xsC (xV 2) xsN)) (xC (.int 2147483563))) (xC (.int 54250003))) (xBin fMul (xC (.int 9551)) (xV 1))) xsN)) (xC (.int 2147483563))) (xC (.int 1))) xsN))))
    sN))))
def N_pair_service : List Str := ["one", "two"]
def t_pair_service : TSx :=
  (sC (sRet (xTup (xsC (xCallP 2 ph_pair_prices (xsC (xIxV 0 (xC (.int 0))) (xsC (xIxV 1 (xC (.int 0))) xsN))) (xsC (xCallP 2 ph_pair_costs (xsC (xV 0) (xsC (xV 1) xsN))) xsN))))
    sN)
def N_pair_book : List Str := ["one", "two", "tasks", "rooms", "first", "second"]
def t_pair_book : TSx :=
  (sC (sSet (xLst xsN) (gN 3))
    (sC (sFor (iRg1 (xsC (xCall fLen (xsC (xV 0) xsN)) xsN)) (gN 4) (sC (sFor (iRg1 (xsC (xCall fLen (xsC (xV 1) xsN)) xsN)) (gN 5) (sC (sApp 3 (xCallP 5 ph_pair_room (xsC (xV 4) (xsC (xV 5) (xsC (xV 0) (xsC (xV 1) (xsC (xV 2) xsN)))))))
    sN))
    sN))
    (sC (sRet (xCall fTuple (xsC (xV 3) xsN)))
    sN)))
def N_law_pick : List Str := ["box", "some"]
def t_law_pick : TSx :=
  (sC (sRet (xP (xIxV 1 (xCallM 2 ph_law_take [some 0, none] (xsI 0 (xsC (xCall fLen (xsC (xV 1) xsN)) xsN))))))
    sN)
def N_law_beside : List Str := ["one", "two", "tasks", "many", "book", "place", "first", "second", "row", "sign"]
def t_law_beside : TSx :=
  (sC (sPar (xsC (xCall fLen (xsC (xBin dIx (xIxV 0 (xC (.int 0))) (xC (.int 1))) xsN)) (xsC (xCall fLen (xsC (xIxV 1 (xC (.int 2))) xsN)) (xsC (xLst xsN) xsN))) (gsL [2, 3, 4]))
    (sC (sFor (iRg1 (xsC (xBin fMul (xCall fLen (xsC (xIxV 0 (xC (.int 2))) xsN)) (xV 3)) xsN)) (gN 5) (sC (sPar (xsC (xBin fDiv (xV 5) (xV 3)) (xsC (xBin fMod (xCall fInt1 (xsC (xV 5) xsN)) (xV 3)) (xsC (xLst xsN) xsN))) (gsL [6, 7, 8]))
    (sC (sFor (iSqx (xP (xBin dIx (xIxV 0 (xC (.int 2))) (xV 6)))) (gN 9) (sC (sApp 8 (xIf (bV (xBin fIsN (xV 9) (xC .non))) (xC .non) (xTup (xsC (xIxV 9 (xC (.int 0))) (xsC (xIxV 9 (xC (.int 1))) (xsC (xBin fAdd (xBin fMul (xIxV 9 (xC (.int 2))) (xV 3)) (xV 7)) xsN))))))
    sN))
    (sC (sFor (iSqx (xP (xBin dIx (xIxV 1 (xC (.int 2))) (xV 7)))) (gN 9) (sC (sApp 8 (xIf (bV (xBin fIsN (xV 9) (xC .non))) (xC .non) (xTup (xsC (xBin fAdd (xV 2) (xIxV 9 (xC (.int 0)))) (xsC (xIxV 9 (xC (.int 1))) (xsC (xBin fAdd (xBin fMul (xV 6) (xV 3)) (xIxV 9 (xC (.int 2)))) xsN))))))
    sN))
    (sC (sApp 4 (xCall fTuple (xsC (xV 8) xsN)))
    sN)))))
    (sC (sRet (xTup (xsC (xCallP 2 ph_law_paired (xsC (xIxV 0 (xC (.int 0))) (xsC (xIxV 1 (xC (.int 0))) xsN))) (xsC (xCallP 2 ph_law_paired (xsC (xIxV 0 (xC (.int 1))) (xsC (xIxV 1 (xC (.int 1))) xsN))) (xsC (xCall fTuple (xsC (xV 4) xsN)) xsN)))))
    sN)))
def N_both_case : List Str := ["one", "two", "mine", "theirs"]
def t_both_case : TSx :=
  (sC (sPar (xsC (xCallP 2 ph_pair_service (xsC (xIxV 0 (xC (.int 0))) (xsC (xIxV 1 (xC (.int 0))) xsN))) (xsC (xCallP 2 ph_pair_service (xsC (xIxV 0 (xC (.int 1))) (xsC (xIxV 1 (xC (.int 1))) xsN))) xsN)) (gsL [2, 3]))
    (sC (sRet (xTup (xsC (xV 2) (xsC (xV 3) (xsC (xCallP 3 ph_pair_book (xsC (xIxV 0 (xC (.int 2))) (xsC (xIxV 1 (xC (.int 2))) (xsC (xCall fLen (xsC (xBin dIx (xIxV 0 (xC (.int 0))) (xC (.int 1))) xsN)) xsN)))) xsN)))))
    sN))
def N_law_service : List Str := ["box", "standings", "tasks", "dear", "bars", "rows", "one", "costs", "task", "row", "two"]
def t_law_service : TSx :=
  (sC (sSet (xLst xsN) (gN 5))
    (sC (sFor (iRg1 (xsC (xV 1) xsN)) (gN 6) (sC (sApp 5 (xCall fTuple (xsC (xCompM (iRg1 (xsC (xV 1) xsN)) (gN 10) bYes (xIf (bV (xBin fEqI (xV 6) (xV 10))) (xC (.int 0)) (xCallM 2 ph_law_take [some 0, none] (xsI 0 (xsC (xBin fAdd (xV 3) (xC (.int 1))) xsN)))) [10]) xsN)))
    sN))
    (sFz 5 (sC (sSet (xLst xsN) (gN 7))
    (sC (sFor (iRg1 (xsC (xV 2) xsN)) (gN 8) (sC (sSet (xCompM (iSqx (xP (xV 5))) (gN 6) bYes (xIf (bV (xBin fEqI (xCallM 2 ph_law_take [some 0, none] (xsI 0 (xsC (xP (xV 4)) xsN))) (xC (.int 0)))) (xC .non) (xCallM 2 ph_law_pick [some 0, none] (xsI 0 (xsC (xLst (xsC (xC (.int 0)) (xsC (xC (.int 1)) (xsC (xCallM 2 ph_law_take [some 0, none] (xsI 0 (xsC (xBin fAdd (xV 3) (xC (.int 1))) xsN))) xsN)))) xsN)))) [6]) (gN 9))
    (sC (sIf (bV (xBin fEqD (xComp (iSqx (xV 9)) (gN 6) (bV (xBin fNotN (xV 6) (xC .non))) (xP (xV 6)) [6]) (xLst xsN))) (sC (sSt 9 (xP (xCallM 2 ph_law_take [some 0, none] (xsI 0 (xsC (xC (.int 2)) xsN)))) (xCallM 2 ph_law_take [some 0, none] (xsI 0 (xsC (xP (xV 1)) xsN))))
    sN) sN)
    (sC (sApp 7 (xCall fTuple (xsC (xV 9) xsN)))
    sN))))
    (sC (sRet (xTup (xsC (xCallP 1 ph_law_closed (xsC (xV 5) xsN)) (xsC (xCall fTuple (xsC (xV 7) xsN)) xsN))))
    sN))))))
def N_law_book : List Str := ["box", "rooms", "signs", "tasks", "worst", "found", "room", "row", "sign", "wrong", "one"]
def t_law_book : TSx :=
  (sC (sSet (xLst xsN) (gN 5))
    (sC (sFor (iRg1 (xsC (xV 1) xsN)) (gN 6) (sC (sSet (xLst xsN) (gN 7))
    (sC (sFor (iRg1 (xsC (xV 2) xsN)) (gN 8) (sC (sSet (xIf (bV (xBin fGt (xV 4) (xC (.int 0)))) (xCallM 2 ph_law_pick [some 0, none] (xsI 0 (xsC (xLst (xsC (xC (.int 0)) (xsC (xC (.int 0)) (xsC (xC (.int 0)) (xsC (xC (.int 1)) (xsC (xCallM 2 ph_law_take [some 0, none] (xsI 0 (xsC (xBin fAdd (xV 4) (xC (.int 1))) xsN))) xsN)))))) xsN))) (xC (.int 0))) (gN 9))
    (sC (sApp 7 (xIf (bV (xBin fGt (xCallM 2 ph_law_take [some 0, none] (xsI 0 (xsC (xC (.int 6)) xsN))) (xC (.int 0)))) (xTup (xsC (xCallM 2 ph_law_take [some 0, none] (xsI 0 (xsC (xP (xV 3)) xsN))) (xsC (xP (xV 9)) (xsC (xCallM 2 ph_law_take [some 0, none] (xsI 0 (xsC (xP (xV 1)) xsN))) xsN)))) (xC .non)))
    sN)))
    (sC (sIf (bAnd (bV (xBin fEqI (xV 6) (xC (.int 0)))) (bV (xBin fEqD (xComp (iSqx (xV 7)) (gN 10) (bV (xBin fNotN (xV 10) (xC .non))) (xP (xV 10)) [10]) (xLst xsN)))) (sC (sSt 7 (xP (xTup (xsC (xCallM 2 ph_law_take [some 0, none] (xsI 0 (xsC (xP (xV 3)) xsN))) (xsC (xC (.int 0)) (xsC (xC (.int 0)) xsN))))) (xCallM 2 ph_law_take [some 0, none] (xsI 0 (xsC (xP (xV 2)) xsN))))
    sN) sN)
    (sC (sApp 5 (xCall fTuple (xsC (xV 7) xsN)))
    sN)))))
    (sC (sRet (xCall fTuple (xsC (xV 5) xsN)))
    sN)))
def N_law_case : List Str := ["box", "standings", "rooms", "signs", "dear", "tasks", "mine", "theirs"]
def t_law_case : TSx :=
  (sC (sSet (xBin fAdd (xC (.int 1)) (xCallM 2 ph_law_take [some 0, none] (xsI 0 (xsC (xC (.int 3)) xsN)))) (gN 5))
    (sC (sSet (xCallM 5 ph_law_service [some 0, none, none, none, none] (xsI 0 (xsC (xBin fAdd (xC (.int 1)) (xCallM 2 ph_law_take [some 0, none] (xsI 0 (xsC (xP (xV 1)) xsN)))) (xsC (xP (xV 5)) (xsC (xP (xV 4)) (xsC (xCallM 2 ph_law_pick [some 0, none] (xsI 0 (xsC (xLst (xsC (xC (.int 2)) (xsC (xC (.int 3)) (xsC (xC (.int 9)) xsN)))) xsN))) xsN)))))) (gN 6))
    (sC (sSet (xP (xV 6)) (gN 7))
    (sC (sIf (bOr (bV (xBin fEqI (xCallM 2 ph_law_take [some 0, none] (xsI 0 (xsC (xC (.int 2)) xsN))) (xC (.int 0)))) (bV (xBin fGt (xCall fLen (xsC (xIxV 6 (xC (.int 0))) xsN)) (xC (.int 2))))) (sC (sSet (xCallM 5 ph_law_service [some 0, none, none, none, none] (xsI 0 (xsC (xBin fAdd (xC (.int 1)) (xCallM 2 ph_law_take [some 0, none] (xsI 0 (xsC (xC (.int 2)) xsN)))) (xsC (xP (xV 5)) (xsC (xP (xV 4)) (xsC (xCallM 2 ph_law_pick [some 0, none] (xsI 0 (xsC (xLst (xsC (xC (.int 2)) (xsC (xC (.int 3)) (xsC (xC (.int 9)) xsN)))) xsN))) xsN)))))) (gN 7))
    sN) sN)
    (sC (sRet (xTup (xsC (xP (xV 6)) (xsC (xP (xV 7)) (xsC (xCallM 5 ph_law_book [some 0, none, none, none, none] (xsI 0 (xsC (xBin fAdd (xC (.int 1)) (xCallM 2 ph_law_take [some 0, none] (xsI 0 (xsC (xP (xV 2)) xsN)))) (xsC (xBin fAdd (xC (.int 1)) (xCallM 2 ph_law_take [some 0, none] (xsI 0 (xsC (xP (xV 3)) xsN)))) (xsC (xP (xV 5)) (xsC (xC (.int 2)) xsN)))))) xsN)))))
    sN)))))
def N_law_wide : List Str := ["box", "standings", "tasks", "mine", "theirs"]
def t_law_wide : TSx :=
  (sC (sSet (xBin fAdd (xC (.int 1)) (xCallM 2 ph_law_take [some 0, none] (xsI 0 (xsC (xC (.int 6)) xsN)))) (gN 2))
    (sC (sSet (xCallM 5 ph_law_service [some 0, none, none, none, none] (xsI 0 (xsC (xBin fAdd (xC (.int 1)) (xCallM 2 ph_law_take [some 0, none] (xsI 0 (xsC (xP (xV 1)) xsN)))) (xsC (xP (xV 2)) (xsC (xC (.int 60)) (xsC (xCallM 2 ph_law_pick [some 0, none] (xsI 0 (xsC (xLst (xsC (xC (.int 2)) (xsC (xC (.int 3)) (xsC (xC (.int 9)) xsN)))) xsN))) xsN)))))) (gN 3))
    (sC (sSet (xIf (bV (xBin fEqI (xCallM 2 ph_law_take [some 0, none] (xsI 0 (xsC (xC (.int 4)) xsN))) (xC (.int 0)))) (xP (xV 3)) (xCallM 5 ph_law_service [some 0, none, none, none, none] (xsI 0 (xsC (xBin fAdd (xC (.int 1)) (xCallM 2 ph_law_take [some 0, none] (xsI 0 (xsC (xP (xV 1)) xsN)))) (xsC (xP (xV 2)) (xsC (xC (.int 60)) (xsC (xCallM 2 ph_law_pick [some 0, none] (xsI 0 (xsC (xLst (xsC (xC (.int 2)) (xsC (xC (.int 9)) xsN))) xsN))) xsN))))))) (gN 4))
    (sC (sRet (xTup (xsC (xP (xV 3)) (xsC (xP (xV 4)) (xsC (xCallM 5 ph_law_book [some 0, none, none, none, none] (xsI 0 (xsC (xBin fAdd (xC (.int 1)) (xCallM 2 ph_law_take [some 0, none] (xsI 0 (xsC (xC (.int 8)) xsN)))) (xsC (xBin fAdd (xC (.int 1)) (xCallM 2 ph_law_take [some 0, none] (xsI 0 (xsC (xC (.int 6)) xsN)))) (xsC (xP (xV 2)) (xsC (xC (.int 9)) xsN)))))) xsN)))))
    sN))))
def N_law_same : List Str := ["told", "due", "one", "other"]
def t_law_same (ph : Ph) : TSx :=
  (sC (sIf (bV (xCall fIsi (xsC (xV 1) (xsC (xC (.opq (.ty "tuple"))) xsN)))) (sC (sIf (bOr (bNot (bV (xCall fIsi (xsC (xV 0) (xsC (xC (.opq (.ty "tuple"))) xsN))))) (bV (xBin fNeI (xCall fLen (xsC (xV 0) xsN)) (xCall fLen (xsC (xV 1) xsN))))) (sC (sRet (xC (.bl false)))
    sN) sN)
    (sC (sFor (iZp (xsC (xV 0) (xsC (xV 1) xsN))) (gT (gsC (gN 2) (gsC (gN 3) gsN)) 2) (sC (sIf (bNot (bV (xCallP 2 ph (xsC (xV 2) (xsC (xV 3) xsN))))) (sC (sRet (xC (.bl false)))
    sN) sN)
    sN))
    (sC (sRet (xC (.bl true)))
    sN))) sN)
    (sC (sIf (bV (xBin fIsN (xV 1) (xC .non))) (sC (sRet (xBin fIsN (xV 0) (xC .non)))
    sN) sN)
    (sC (sIf (bOr (bV (xBin fIsB (xV 1) (xC (.bl true)))) (bV (xBin fIsB (xV 1) (xC (.bl false))))) (sC (sRet (xAnd (xCall fIsi (xsC (xV 0) (xsC (xC (.opq (.ty "bool"))) xsN))) (xBin fEqI (xV 0) (xV 1))))
    sN) sN)
    (sC (sRet (xAnd (xCall fIsi (xsC (xV 0) (xsC (xC (.opq (.ty "int"))) xsN))) (xAnd (xNot (xCall fIsi (xsC (xV 0) (xsC (xC (.opq (.ty "bool"))) xsN)))) (xBin fEqI (xV 0) (xV 1)))))
    sN))))
def N_law_fixed : List Str := ["one", "two", "mine", "theirs", "book", "turned", "rooms", "due"]
def t_law_fixed : TSx :=
  (sC (sSet (xTup (xsC (xTup (xsC (xTup (xsC (xTup (xsC (xC (.int 0)) (xsC (xC (.int 3)) xsN))) (xsC (xTup (xsC (xC (.int 1)) (xsC (xC (.int 0)) xsN))) xsN))) (xsC (xTup (xsC (xTup (xsC (xC (.int 0)) (xsC (xC .non) xsN))) xsN)) xsN))) (xsC (xTup (xsC (xTup (xsC (xTup (xsC (xC (.int 0)) xsN)) xsN)) (xsC (xTup (xsC (xTup (xsC (xC (.int 2)) xsN)) xsN)) xsN))) (xsC (xTup (xsC (xTup (xsC (xTup (xsC (xC (.int 0)) (xsC (xC (.int 1)) (xsC (xC (.int 0)) xsN)))) xsN)) xsN)) xsN)))) (gN 0))
    (sC (sSet (xTup (xsC (xTup (xsC (xTup (xsC (xTup (xsC (xC (.int 0)) xsN)) xsN)) (xsC (xTup (xsC (xTup (xsC (xC (.int 5)) xsN)) (xsC (xTup (xsC (xC (.int 7)) xsN)) xsN))) xsN))) (xsC (xTup (xsC (xTup (xsC (xTup (xsC (xC (.int 0)) (xsC (xC (.int 4)) xsN))) (xsC (xTup (xsC (xC (.int 4)) (xsC (xC (.int 0)) xsN))) xsN))) (xsC (xTup (xsC (xTup (xsC (xC (.int 1)) (xsC (xC (.int 2)) xsN))) (xsC (xTup (xsC (xC .non) (xsC (xC (.int 0)) xsN))) xsN))) xsN))) (xsC (xTup (xsC (xTup (xsC (xTup (xsC (xC (.int 1)) (xsC (xC (.int 0)) (xsC (xC (.int 1)) xsN)))) (xsC (xC .non) xsN))) (xsC (xTup (xsC (xTup (xsC (xC (.int 0)) (xsC (xC (.int 2)) (xsC (xC (.int 0)) xsN)))) (xsC (xTup (xsC (xC (.int 1)) (xsC (xC (.int 0)) (xsC (xC (.int 1)) xsN)))) xsN))) xsN))) xsN)))) (gN 1))
    (sC (sSet (xTup (xsC (xTup (xsC (xTup (xsC (xC (.int 0)) (xsC (xC (.int 3)) xsN))) (xsC (xTup (xsC (xC (.int 1)) (xsC (xC (.int 0)) xsN))) xsN))) (xsC (xTup (xsC (xTup (xsC (xC (.int 0)) (xsC (xC .non) xsN))) (xsC (xTup (xsC (xC (.int 5)) (xsC (xC (.int 5)) xsN))) (xsC (xTup (xsC (xC (.int 7)) (xsC (xC (.int 7)) xsN))) xsN)))) xsN))) (gN 2))
    (sC (sSet (xTup (xsC (xTup (xsC (xTup (xsC (xC (.int 0)) (xsC (xC (.int 4)) xsN))) (xsC (xTup (xsC (xC (.int 4)) (xsC (xC (.int 0)) xsN))) xsN))) (xsC (xTup (xsC (xTup (xsC (xC (.int 2)) (xsC (xC (.int 2)) xsN))) (xsC (xTup (xsC (xC (.int 1)) (xsC (xC (.int 2)) xsN))) (xsC (xTup (xsC (xC .non) (xsC (xC (.int 0)) xsN))) xsN)))) xsN))) (gN 3))
    (sC (sSet (xTup (xsC (xTup (xsC (xTup (xsC (xC (.int 0)) (xsC (xC (.int 1)) (xsC (xC (.int 0)) xsN)))) (xsC (xTup (xsC (xC (.int 2)) (xsC (xC (.int 0)) (xsC (xC (.int 1)) xsN)))) (xsC (xC .non) xsN)))) (xsC (xTup (xsC (xTup (xsC (xC (.int 0)) (xsC (xC (.int 1)) (xsC (xC (.int 1)) xsN)))) (xsC (xTup (xsC (xC (.int 1)) (xsC (xC (.int 2)) (xsC (xC (.int 0)) xsN)))) (xsC (xTup (xsC (xC (.int 2)) (xsC (xC (.int 0)) (xsC (xC (.int 1)) xsN)))) xsN)))) xsN))) (gN 4))
    (sC (sIf (bNot (bV (xCallP 2 ph_law_same (xsC (xCallP 2 ph_both_case (xsC (xV 0) (xsC (xV 1) xsN))) (xsC (xTup (xsC (xV 2) (xsC (xV 3) (xsC (xV 4) xsN)))) xsN))))) (sC (sRet (xC (.bl false)))
    sN) sN)
    (sC (sSet (xTup (xsC (xTup (xsC (xTup (xsC (xC (.int 0)) (xsC (xC (.int 3)) xsN))) (xsC (xTup (xsC (xC (.int 1)) (xsC (xC (.int 0)) xsN))) xsN))) (xsC (xTup (xsC (xTup (xsC (xC (.int 5)) (xsC (xC (.int 5)) xsN))) (xsC (xTup (xsC (xC (.int 7)) (xsC (xC (.int 7)) xsN))) (xsC (xTup (xsC (xC (.int 0)) (xsC (xC .non) xsN))) xsN)))) xsN))) (gN 5))
    (sC (sSet (xTup (xsC (xTup (xsC (xTup (xsC (xC (.int 1)) (xsC (xC (.int 0)) (xsC (xC (.int 1)) xsN)))) (xsC (xC .non) (xsC (xTup (xsC (xC (.int 2)) (xsC (xC (.int 1)) (xsC (xC (.int 0)) xsN)))) xsN)))) (xsC (xTup (xsC (xTup (xsC (xC (.int 0)) (xsC (xC (.int 2)) (xsC (xC (.int 0)) xsN)))) (xsC (xTup (xsC (xC (.int 1)) (xsC (xC (.int 0)) (xsC (xC (.int 1)) xsN)))) (xsC (xTup (xsC (xC (.int 2)) (xsC (xC (.int 1)) (xsC (xC (.int 1)) xsN)))) xsN)))) xsN))) (gN 6))
    (sC (sSet (xTup (xsC (xV 5) (xsC (xTup (xsC (xTup (xsC (xTup (xsC (xC (.int 0)) (xsC (xC (.int 4)) xsN))) (xsC (xTup (xsC (xC (.int 4)) (xsC (xC (.int 0)) xsN))) xsN))) (xsC (xTup (xsC (xTup (xsC (xC (.int 1)) (xsC (xC (.int 2)) xsN))) (xsC (xTup (xsC (xC .non) (xsC (xC (.int 0)) xsN))) (xsC (xTup (xsC (xC (.int 2)) (xsC (xC (.int 2)) xsN))) xsN)))) xsN))) (xsC (xV 6) xsN)))) (gN 7))
    (sC (sRet (xCallP 2 ph_law_same (xsC (xCallK 2 @idK ph_both_case (xsC (xV 1) (xsC (xV 0) xsN))) (xsC (xV 7) xsN))))
    sN))))))))))
def N_law : List Str := ["script", "k", "box", "standings", "one", "two", "due", "told", "small", "third"]
def t_law : TSx :=
  (sC (sC (sIf (bNot (bV (xCall0 ph_law_fixed))) (sC (sRet (xC (.bl false)))
    sN) sN)
    (sC (sFor (iRg1 (xsC (xCall fMax2 (xsC (xC (.int 2)) (xsC (xCall fMin2 (xsC (xCall fLen (xsC (xV 0) xsN)) (xsC (xC (.int 5)) xsN))) xsN))) xsN)) (gN 1) (sC (sSet (xCallP 2 ph_law_box (xsC (xV 0) (xsC (xV 1) xsN))) (gN 2))
    (sC (sSet (xCallM 2 ph_law_pick [some 2, none] (xsI 2 (xsC (xLst (xsC (xC (.int 2)) (xsC (xC (.int 3)) (xsC (xC (.int 4)) (xsC (xC (.int 4)) xsN))))) xsN))) (gN 3))
    (sC (sPar (xsC (xCallM 2 ph_law_wide [some 2, none] (xsI 2 (xsC (xP (xV 3)) xsN))) (xsC (xCallM 2 ph_law_wide [some 2, none] (xsI 2 (xsC (xP (xV 3)) xsN))) xsN)) (gsL [4, 5]))
    (sC (sIf (bAnd (bV (xBin fEqI (xV 1) (xC (.int 0)))) (bV (xBin fEqI (xCallM 2 ph_law_take [some 2, none] (xsI 2 (xsC (xC (.int 3)) xsN))) (xC (.int 0))))) (sC (sSet (xCallM 2 ph_law_wide [some 2, none] (xsI 2 (xsC (xC (.int 10)) xsN))) (gN 4))
    (sC (sSet (xCallM 5 ph_law_case [some 2, none, none, none, none] (xsI 2 (xsC (xC (.int 3)) (xsC (xC (.int 3)) (xsC (xC (.int 3)) (xsC (xC (.int 5)) xsN)))))) (gN 5))
    sN)) sN)
    (sC (sSet (xCallP 2 ph_law_beside (xsC (xV 4) (xsC (xV 5) xsN))) (gN 6))
    (sC (sSet (xCallP 2 ph_both_case (xsC (xV 4) (xsC (xV 5) xsN))) (gN 7))
    (sC (sIf (bOr (bNot (bV (xCallP 2 ph_law_same (xsC (xV 7) (xsC (xV 6) xsN))))) (bNot (bV (xCallP 2 ph_law_same (xsC (xCallP 2 ph_both_case (xsC (xV 5) (xsC (xV 4) xsN))) (xsC (xCallP 2 ph_law_beside (xsC (xV 5) (xsC (xV 4) xsN))) xsN)))))) (sC (sRet (xC (.bl false)))
    sN) sN)
    (sC (sSet (xCallM 5 ph_law_case [some 2, none, none, none, none] (xsI 2 (xsC (xC (.int 2)) (xsC (xC (.int 2)) (xsC (xC (.int 2)) (xsC (xC (.int 3)) xsN)))))) (gN 8))
    (sC (sIf (bNot (bV (xCallP 2 ph_law_same (xsC (xCallP 2 ph_both_case (xsC (xV 8) (xsC (xV 8) xsN))) (xsC (xCallP 2 ph_law_beside (xsC (xV 8) (xsC (xV 8) xsN))) xsN))))) (sC (sRet (xC (.bl false)))
    sN) sN)
    (sC (sSet (xCallP 1 ph_law_ring (xsC (xLst (xsC (xTup (xsC (xBin fAdd (xC (.int 1)) (xCallM 2 ph_law_take [some 2, none] (xsI 2 (xsC (xC (.int 9)) xsN)))) (xsC (xCallM 2 ph_law_take [some 2, none] (xsI 2 (xsC (xC (.int 9)) xsN))) (xsC (xC (.int 3)) xsN)))) xsN)) xsN)) (gN 9))
    (sC (sIf (bNot (bV (xCallP 2 ph_law_same (xsC (xCallP 2 ph_both_case (xsC (xCallP 2 ph_both_case (xsC (xV 8) (xsC (xV 8) xsN))) (xsC (xV 9) xsN))) (xsC (xCallP 2 ph_law_beside (xsC (xCallP 2 ph_law_beside (xsC (xV 8) (xsC (xV 8) xsN))) (xsC (xV 9) xsN))) xsN))))) (sC (sRet (xC (.bl false)))
    sN) sN)
    (sC (sIf (bOr (bNot (bV (xCallP 2 ph_law_same (xsC (xV 7) (xsC (xV 6) xsN))))) (bNot (bV (xCallP 2 ph_law_same (xsC (xCallP 2 ph_both_case (xsC (xV 4) (xsC (xV 5) xsN))) (xsC (xV 6) xsN)))))) (sC (sRet (xC (.bl false)))
    sN) sN)
    sN)))))))))))))
    (sC (sRet (xC (.bl true)))
    sN)))
    sN)

end VL

set_option Elab.async false
set_option linter.all false
set_option maxRecDepth 100000
set_option maxHeartbeats 4000000
namespace VL
open PySem L2
/-! the row's text by places, the built-ins it names -/
def top (i : Nat) : Stmt := PySem.Challenge.pw_wordsworth_k75_two_cases_side_by_side.main.body.getD i (.Pass ⟨0, 0, 0, 0⟩)
structure Txt (mg : Str → Option Value) : Prop where
  tuple_ : mg "tuple" = none
  len_ : mg "len" = none
  range_ : mg "range" = none
  int_ : mg "int" = none
  list_ : mg "list" = none
  min_ : mg "min" = none
  enumerate_ : mg "enumerate" = none
  abs_ : mg "abs" = none
  isinstance_ : mg "isinstance" = none
  zip_ : mg "zip" = none
  bool_ : mg "bool" = none
  max_ : mg "max" = none
abbrev s_pair_prices : Stmt := top 1
theorem sc_pair_prices : FnScope N_pair_prices ["one", "two"] (defScope s_pair_prices) := ⟨rfl, rfl, rfl, by decide +kernel, rfl, by decide +kernel, by decide +kernel⟩
theorem ok_pair_prices {P : Program} {w : World} {K : PySem.W.Frag} {mg : Str → Option Value} {base : Heap} {f : Addr} {fd : FuncData} (F : FunD K "pair_prices" "pair_prices" (defArgs s_pair_prices) (defBody s_pair_prices) (defScope s_pair_prices) [] [] f fd) (T : Txt mg)  
    (h : ∀ (ds : List D) (R : D → En → Prop), ds.length = 2 → ph_pair_prices ds R → t_pair_prices { nx := fun ρ => R .non (maskE [false, false] ρ), rt := fun d ρ => R d (maskE [false, false] ρ) } (startE N_pair_prices ds)) : FnOk P w K mg base CX0 1 f fd ["one", "two"] (spD K 2 ph_pair_prices) :=
  okD [false, false] F sc_pair_prices rfl rfl (t := t_pair_prices)
    ((sxs_cons (sx_set 2 sc_pair_prices.nd (ex_lst ea_nil))
    (sxs_cons (sx_for (ei_seq (ex_pure (ex_var 0))) (eg_name 3 sc_pair_prices.nd) (sxs_cons (sx_for (ei_seq (ex_pure (ex_var 1))) (eg_name 4 sc_pair_prices.nd) (sxs_cons (sx_append 2 (ex_callTy (b := true) (fun _ f => call_tupleF f) cs_tuple rfl T.tuple_ (by decide +kernel) (ea_cons (ex_comp2 [("price", 5), ("more", 6)] [6] sc_pair_prices.nd (ei_seqB (ex_var 3)) (hg := (eg_name 5 sc_pair_prices.nd)) (ht := et_nil) (hi1 := (ei_seq (ex_pure (ex_var 4)))) (hg1 := (eg_name 6 sc_pair_prices.nd)) (ht1 := et_nil) (he := (ex_bin bo_add (ex_var 5) (ex_var 6)))) ea_nil)))
    sxs_nil))
    sxs_nil))
    (sxs_cons (sx_ret (ex_callTy (b := true) (fun _ f => call_tupleF f) cs_tuple rfl T.tuple_ (by decide +kernel) (ea_cons (ex_var 2) ea_nil)))
    sxs_nil)))) h
abbrev s_pair_costs : Stmt := top 2
theorem sc_pair_costs : FnScope N_pair_costs ["one", "two"] (defScope s_pair_costs) := ⟨rfl, rfl, rfl, by decide +kernel, rfl, by decide +kernel, by decide +kernel⟩
theorem ok_pair_costs {P : Program} {w : World} {K : PySem.W.Frag} {mg : Str → Option Value} {base : Heap} {f : Addr} {fd : FuncData} (F : FunD K "pair_costs" "pair_costs" (defArgs s_pair_costs) (defBody s_pair_costs) (defScope s_pair_costs) [] [] f fd) (T : Txt mg)  
    (h : ∀ (ds : List D) (R : D → En → Prop), ds.length = 2 → ph_pair_costs ds R → t_pair_costs { nx := fun ρ => R .non (maskE [false, false] ρ), rt := fun d ρ => R d (maskE [false, false] ρ) } (startE N_pair_costs ds)) : FnOk P w K mg base CX0 1 f fd ["one", "two"] (spD K 2 ph_pair_costs) :=
  okD [false, false] F sc_pair_costs rfl rfl (t := t_pair_costs)
    ((sxs_cons (sx_parT (n := 2) (ea_cons (ex_callB (b := true) (fun _ f => call_lenF f) cs_len rfl T.len_ PySem.boot_len (ea_cons (ex_ixV 0 ex_int) ea_nil)) (ea_cons (ex_callB (b := true) (fun _ f => call_lenF f) cs_len rfl T.len_ PySem.boot_len (ea_cons (ex_ixV 1 ex_int) ea_nil)) ea_nil)) (egs_cons (eg_name 2 sc_pair_costs.nd) (egs_cons (eg_name 3 sc_pair_costs.nd) egs_nil)))
    (sxs_cons (sx_setComp 4 [("row", 5)] sc_pair_costs.nd (ei_seqB (ex_ixV 0 ex_int)) (hg := (eg_name 5 sc_pair_costs.nd)) (ht := et_nil) (he := (ex_callTy (b := true) (fun _ f => call_tupleF f) cs_tuple rfl T.tuple_ (by decide +kernel) (ea_cons (ex_comp2 [("cost", 6), ("other", 7)] [7] sc_pair_costs.nd (ei_seqB (ex_var 5)) (hg := (eg_name 6 sc_pair_costs.nd)) (ht := et_nil) (hi1 := (ei_range1 (ea_cons (ex_var 3) ea_nil) rfl T.range_)) (hg1 := (eg_name 7 sc_pair_costs.nd)) (ht1 := et_nil) (he := (ex_pure (ex_var 6)))) ea_nil))))
    (sxs_cons (sx_for (ei_seq (ex_pure (ex_ixV 1 ex_int))) (eg_name 5 sc_pair_costs.nd) (sxs_cons (sx_append 4 (ex_bin bo_repT (ex_var 5) (ex_var 2)))
    sxs_nil))
    (sxs_cons (sx_ret (ex_callTy (b := true) (fun _ f => call_tupleF f) cs_tuple rfl T.tuple_ (by decide +kernel) (ea_cons (ex_var 4) ea_nil)))
    sxs_nil))))) h
abbrev s_pair_room : Stmt := top 4
theorem sc_pair_room : FnScope N_pair_room ["first", "second", "one", "two", "tasks"] (defScope s_pair_room) := ⟨rfl, rfl, rfl, by decide +kernel, rfl, by decide +kernel, by decide +kernel⟩
theorem ok_pair_room {P : Program} {w : World} {K : PySem.W.Frag} {mg : Str → Option Value} {base : Heap} {f : Addr} {fd : FuncData} (F : FunD K "pair_room" "pair_room" (defArgs s_pair_room) (defBody s_pair_room) (defScope s_pair_room) [] [] f fd) (T : Txt mg)  
    (h : ∀ (ds : List D) (R : D → En → Prop), ds.length = 5 → ph_pair_room ds R → t_pair_room { nx := fun ρ => R .non (maskE [false, false, false, false, false] ρ), rt := fun d ρ => R d (maskE [false, false, false, false, false] ρ) } (startE N_pair_room ds)) : FnOk P w K mg base CX0 1 f fd ["first", "second", "one", "two", "tasks"] (spD K 5 ph_pair_room) :=
  okD [false, false, false, false, false] F sc_pair_room rfl rfl (t := t_pair_room)
    ((sxs_cons (sx_par2 5 6 sc_pair_room.nd (ea_cons (ex_callB (b := true) (fun _ f => call_lenF f) cs_len rfl T.len_ PySem.boot_len (ea_cons (ex_var 3) ea_nil)) (ea_cons (ex_lst ea_nil) ea_nil)))
    (sxs_cons (sx_for (ei_seq (ex_pure (ex_ixV 2 (ex_var 0)))) (eg_name 7 sc_pair_room.nd) (sxs_cons (sx_append 6 (ex_if (eb_cmp co_isN (ex_var 7) ex_non) ex_non (ex_tup (ea_cons (ex_ixV 7 ex_int) (ea_cons (ex_ixV 7 ex_int) (ea_cons (ex_bin bo_add (ex_bin bo_mul (ex_ixV 7 ex_int) (ex_var 5)) (ex_var 1)) ea_nil))))))
    sxs_nil))
    (sxs_cons (sx_for (ei_seq (ex_pure (ex_ixV 3 (ex_var 1)))) (eg_name 7 sc_pair_room.nd) (sxs_cons (sx_append 6 (ex_if (eb_cmp co_isN (ex_var 7) ex_non) ex_non (ex_tup (ea_cons (ex_bin bo_add (ex_var 4) (ex_ixV 7 ex_int)) (ea_cons (ex_ixV 7 ex_int) (ea_cons (ex_bin bo_add (ex_bin bo_mul (ex_var 0) (ex_var 5)) (ex_ixV 7 ex_int)) ea_nil))))))
    sxs_nil))
    (sxs_cons (sx_ret (ex_callTy (b := true) (fun _ f => call_tupleF f) cs_tuple rfl T.tuple_ (by decide +kernel) (ea_cons (ex_var 6) ea_nil)))
    sxs_nil))))) h
abbrev s_law_take : Stmt := top 10
theorem sc_law_take : FnScope N_law_take ["box", "many"] (defScope s_law_take) := ⟨rfl, rfl, rfl, by decide +kernel, rfl, by decide +kernel, by decide +kernel⟩
theorem ok_law_take {P : Program} {w : World} {K : PySem.W.Frag} {mg : Str → Option Value} {base : Heap} {f : Addr} {fd : FuncData} (F : FunD K "_law_take" "_law_take" (defArgs s_law_take) (defBody s_law_take) (defScope s_law_take) [] [] f fd) (T : Txt mg)  
    (h : ∀ (ds : List D) (R : D → En → Prop), ds.length = 2 → ph_law_take ds R → t_law_take { nx := fun ρ => R .non (maskE [true, false] ρ), rt := fun d ρ => R d (maskE [true, false] ρ) } (startE N_law_take ds)) : FnOk P w K mg base CX0 1 f fd ["box", "many"] (spD K 2 ph_law_take) :=
  okD [true, false] F sc_law_take rfl rfl (t := t_law_take)
    ((sxs_cons (sx_if (eb_cmp co_gt (ex_ixV 0 ex_int) ex_int) (sxs_cons (sx_set 2 sc_law_take.nd (ex_bin bo_mod (ex_callTy (b := true) (fun _ _ => call_int1) cs_int1 rfl T.int_ (by decide +kernel) (ea_cons (ex_ixV 0 ex_int) ea_nil)) (ex_var 1)))
    (sxs_cons (sx_store 0 (ex_bin bo_div (ex_ixV 0 ex_int) (ex_var 1)) ex_int)
    (sxs_cons (sx_ret (ex_pure (ex_var 2)))
    sxs_nil))) sxs_nil)
    (sxs_cons (sx_set 3 sc_law_take.nd (ex_bin bo_mod (ex_callTy (b := true) (fun _ _ => call_int1) cs_int1 rfl T.int_ (by decide +kernel) (ea_cons (ex_bin bo_add (ex_bin bo_mul (ex_ixV 0 ex_int) ex_int) ex_int) ea_nil)) ex_int))
    (sxs_cons (sx_store 0 (ex_bin bo_add (ex_bin bo_mod (ex_callTy (b := true) (fun _ _ => call_int1) cs_int1 rfl T.int_ (by decide +kernel) (ea_cons (ex_bin bo_add (ex_bin bo_mul (ex_var 3) ex_int) ex_int) ea_nil)) ex_int) ex_int) ex_int)
    (sxs_cons (sx_ret (ex_bin bo_mod (ex_callTy (b := true) (fun _ _ => call_int1) cs_int1 rfl T.int_ (by decide +kernel) (ea_cons (ex_bin bo_div (ex_bin bo_add (ex_bin bo_mul (ex_var 3) ex_int) (ex_ixV 0 ex_int)) ex_int) ea_nil)) (ex_var 1)))
    sxs_nil))))) h
abbrev s_law_closed : Stmt := top 13
theorem sc_law_closed : FnScope N_law_closed ["prices"] (defScope s_law_closed) := ⟨rfl, rfl, rfl, by decide +kernel, rfl, by decide +kernel, by decide +kernel⟩
theorem ok_law_closed {P : Program} {w : World} {K : PySem.W.Frag} {mg : Str → Option Value} {base : Heap} {f : Addr} {fd : FuncData} (F : FunD K "_law_closed" "_law_closed" (defArgs s_law_closed) (defBody s_law_closed) (defScope s_law_closed) [] [] f fd) (T : Txt mg)  
    (h : ∀ (ds : List D) (R : D → En → Prop), ds.length = 1 → ph_law_closed ds R → t_law_closed { nx := fun ρ => R .non (maskE [false] ρ), rt := fun d ρ => R d (maskE [false] ρ) } (startE N_law_closed ds)) : FnOk P w K mg base CX0 1 f fd ["prices"] (spD K 1 ph_law_closed) :=
  okD [false] F sc_law_closed rfl rfl (t := t_law_closed)
    ((sxs_cons (sx_par2 1 2 sc_law_closed.nd (ea_cons (ex_callB (b := true) (fun _ f => call_lenF f) cs_len rfl T.len_ PySem.boot_len (ea_cons (ex_var 0) ea_nil)) (ea_cons (ex_comp [("row", 6)] sc_law_closed.nd (ei_seqB (ex_var 0)) (hg := (eg_name 6 sc_law_closed.nd)) (ht := et_nil) (he := (ex_callTy (b := true) (fun _ f => call_listF f) cs_list rfl T.list_ (by decide +kernel) (ea_cons (ex_var 6) ea_nil)))) ea_nil)))
    (sxs_cons (sx_for (ei_range1 (ea_cons (ex_var 1) ea_nil) rfl T.range_) (eg_name 3 sc_law_closed.nd) (sxs_cons (sx_for (ei_range1 (ea_cons (ex_var 1) ea_nil) rfl T.range_) (eg_name 4 sc_law_closed.nd) (sxs_cons (sx_for (ei_range1 (ea_cons (ex_var 1) ea_nil) rfl T.range_) (eg_name 5 sc_law_closed.nd) (sxs_cons (sx_store2 2 (ex_callB (b := true) (fun _ f => call_min2 f.calm) cs_min2 rfl T.min_ (by decide +kernel) (ea_cons (ex_ix (ex_ixV 2 (ex_var 4)) (ex_var 5)) (ea_cons (ex_bin bo_add (ex_ix (ex_ixV 2 (ex_var 4)) (ex_var 3)) (ex_ix (ex_ixV 2 (ex_var 3)) (ex_var 5))) ea_nil))) (ex_var 4) (ex_var 5))
    sxs_nil))
    sxs_nil))
    sxs_nil))
    (sxs_frz 2 (sxs_cons (sx_ret (ex_callTy (b := true) (fun _ f => call_tupleF f) cs_tuple rfl T.tuple_ (by decide +kernel) (ea_cons (ex_comp [("row", 6)] sc_law_closed.nd (ei_seqB (ex_var 2)) (hg := (eg_name 6 sc_law_closed.nd)) (ht := et_nil) (he := (ex_callTy (b := true) (fun _ f => call_tupleF f) cs_tuple rfl T.tuple_ (by decide +kernel) (ea_cons (ex_var 6) ea_nil)))) ea_nil)))
    sxs_nil))))) h
abbrev s_law_ring : Stmt := top 17
theorem sc_law_ring : FnScope N_law_ring ["signs"] (defScope s_law_ring) := ⟨rfl, rfl, rfl, by decide +kernel, rfl, by decide +kernel, by decide +kernel⟩
theorem ok_law_ring {P : Program} {w : World} {K : PySem.W.Frag} {mg : Str → Option Value} {base : Heap} {f : Addr} {fd : FuncData} (F : FunD K "_law_ring" "_law_ring" (defArgs s_law_ring) (defBody s_law_ring) (defScope s_law_ring) [] [] f fd) (T : Txt mg)  
    (h : ∀ (ds : List D) (R : D → En → Prop), ds.length = 1 → ph_law_ring ds R → t_law_ring { nx := fun ρ => R .non (maskE [false] ρ), rt := fun d ρ => R d (maskE [false] ρ) } (startE N_law_ring ds)) : FnOk P w K mg base CX0 1 f fd ["signs"] (spD K 1 ph_law_ring) :=
  okD [false] F sc_law_ring rfl rfl (t := t_law_ring)
    ((sxs_cons (sx_par2 1 2 sc_law_ring.nd (ea_cons (ex_tup (ea_cons (ex_tup (ea_cons (ex_tup (ea_cons ex_int ea_nil)) ea_nil)) (ea_cons (ex_callTy (b := true) (fun _ f => call_tupleF f) cs_tuple rfl T.tuple_ (by decide +kernel) (ea_cons (ex_comp [("one", 3)] sc_law_ring.nd (ei_seqB (ex_var 0)) (hg := (eg_name 3 sc_law_ring.nd)) (ht := et_nil) (he := (ex_tup (ea_cons (ex_ixV 3 ex_int) ea_nil)))) ea_nil)) ea_nil))) (ea_cons (ex_tup (ea_cons (ex_tup (ea_cons (ex_tup (ea_cons ex_int ea_nil)) ea_nil)) (ea_cons (ex_callTy (b := true) (fun _ f => call_tupleF f) cs_tuple rfl T.tuple_ (by decide +kernel) (ea_cons (ex_comp [("one", 3)] sc_law_ring.nd (ei_seqB (ex_var 0)) (hg := (eg_name 3 sc_law_ring.nd)) (ht := et_nil) (he := (ex_tup (ea_cons (ex_ixV 3 ex_int) ea_nil)))) ea_nil)) ea_nil))) ea_nil)))
    (sxs_cons (sx_ret (ex_tup (ea_cons (ex_var 1) (ea_cons (ex_var 2) (ea_cons (ex_tup (ea_cons (ex_callTy (b := true) (fun _ f => call_tupleF f) cs_tuple rfl T.tuple_ (by decide +kernel) (ea_cons (ex_comp [("task", 4), ("one", 3)] sc_law_ring.nd (ei_enum (ea_cons (ex_var 0) ea_nil) rfl T.enumerate_) (hg := (eg_tup (n := 2) (egs_cons (eg_name 4 sc_law_ring.nd) (egs_cons (eg_name 3 sc_law_ring.nd) egs_nil)))) (ht := et_nil) (he := (ex_tup (ea_cons (ex_var 4) (ea_cons (ex_ixV 3 ex_int) (ea_cons ex_int ea_nil)))))) ea_nil)) ea_nil)) ea_nil)))))
    sxs_nil))) h
abbrev s_law_paired : Stmt := top 18
theorem sc_law_paired : FnScope N_law_paired ["one", "two"] (defScope s_law_paired) := ⟨rfl, rfl, rfl, by decide +kernel, rfl, by decide +kernel, by decide +kernel⟩
theorem ok_law_paired {P : Program} {w : World} {K : PySem.W.Frag} {mg : Str → Option Value} {base : Heap} {f : Addr} {fd : FuncData} (F : FunD K "_law_paired" "_law_paired" (defArgs s_law_paired) (defBody s_law_paired) (defScope s_law_paired) [] [] f fd) (T : Txt mg)  
    (h : ∀ (ds : List D) (R : D → En → Prop), ds.length = 2 → ph_law_paired ds R → t_law_paired { nx := fun ρ => R .non (maskE [false, false] ρ), rt := fun d ρ => R d (maskE [false, false] ρ) } (startE N_law_paired ds)) : FnOk P w K mg base CX0 1 f fd ["one", "two"] (spD K 2 ph_law_paired) :=
  okD [false, false] F sc_law_paired rfl rfl (t := t_law_paired)
    ((sxs_cons (sx_set 2 sc_law_paired.nd (ex_lst ea_nil))
    (sxs_cons (sx_for (ei_range1 (ea_cons (ex_callB (b := true) (fun _ f => call_lenF f) cs_len rfl T.len_ PySem.boot_len (ea_cons (ex_ixV 0 ex_int) ea_nil)) ea_nil) rfl T.range_) (eg_name 3 sc_law_paired.nd) (sxs_cons (sx_for (ei_range1 (ea_cons (ex_callB (b := true) (fun _ f => call_lenF f) cs_len rfl T.len_ PySem.boot_len (ea_cons (ex_ixV 1 ex_int) ea_nil)) ea_nil) rfl T.range_) (eg_name 4 sc_law_paired.nd) (sxs_cons (sx_append 2 (ex_tup (ea_cons (ex_var 3) (ea_cons (ex_var 4) ea_nil))))
    sxs_nil))
    sxs_nil))
    (sxs_frz 2 (sxs_cons (sx_set 5 sc_law_paired.nd (ex_lst ea_nil))
    (sxs_cons (sx_for (ei_seq (ex_pure (ex_var 2))) (eg_name 6 sc_law_paired.nd) (sxs_cons (sx_append 5 (ex_callTy (b := true) (fun _ f => call_tupleF f) cs_tuple rfl T.tuple_ (by decide +kernel) (ea_cons (ex_comp [("goal", 9)] sc_law_paired.nd (ei_seqB (ex_var 2)) (hg := (eg_name 9 sc_law_paired.nd)) (ht := et_nil) (he := (ex_bin bo_add (ex_ix (ex_ix (ex_ixV 0 ex_int) (ex_ixV 6 ex_int)) (ex_ixV 9 ex_int)) (ex_ix (ex_ix (ex_ixV 1 ex_int) (ex_ixV 6 ex_int)) (ex_ixV 9 ex_int))))) ea_nil)))
    sxs_nil))
    (sxs_cons (sx_setComp 7 [("row", 8)] sc_law_paired.nd (ei_seqB (ex_ixV 0 ex_int)) (hg := (eg_name 8 sc_law_paired.nd)) (ht := et_nil) (he := (ex_callTy (b := true) (fun _ f => call_tupleF f) cs_tuple rfl T.tuple_ (by decide +kernel) (ea_cons (ex_comp [("pair", 6)] sc_law_paired.nd (ei_seqB (ex_var 2)) (hg := (eg_name 6 sc_law_paired.nd)) (ht := et_nil) (he := (ex_pure (ex_ixV 8 (ex_ixV 6 ex_int))))) ea_nil))))
    (sxs_cons (sx_set 7 sc_law_paired.nd (ex_bin bo_catL (ex_var 7) (ex_comp [("row", 8)] sc_law_paired.nd (ei_seqB (ex_ixV 1 ex_int)) (hg := (eg_name 8 sc_law_paired.nd)) (ht := et_nil) (he := (ex_callTy (b := true) (fun _ f => call_tupleF f) cs_tuple rfl T.tuple_ (by decide +kernel) (ea_cons (ex_comp [("pair", 6)] sc_law_paired.nd (ei_seqB (ex_var 2)) (hg := (eg_name 6 sc_law_paired.nd)) (ht := et_nil) (he := (ex_pure (ex_ixV 8 (ex_ixV 6 ex_int))))) ea_nil))))))
    (sxs_cons (sx_ret (ex_tup (ea_cons (ex_callTy (b := true) (fun _ f => call_tupleF f) cs_tuple rfl T.tuple_ (by decide +kernel) (ea_cons (ex_var 5) ea_nil)) (ea_cons (ex_callTy (b := true) (fun _ f => call_tupleF f) cs_tuple rfl T.tuple_ (by decide +kernel) (ea_cons (ex_var 7) ea_nil)) ea_nil))))
    sxs_nil))))))))) h
abbrev s_law_box : Stmt := top 20
theorem sc_law_box : FnScope N_law_box ["script", "k"] (defScope s_law_box) := ⟨rfl, rfl, rfl, by decide +kernel, rfl, by decide +kernel, by decide +kernel⟩
theorem ok_law_box {P : Program} {w : World} {K : PySem.W.Frag} {mg : Str → Option Value} {base : Heap} {f : Addr} {fd : FuncData} (F : FunD K "_law_box" "_law_box" (defArgs s_law_box) (defBody s_law_box) (defScope s_law_box) [] [] f fd) (T : Txt mg)  
    (h : ∀ (ds : List D) (R : D → En → Prop), ds.length = 2 → ph_law_box ds R → t_law_box { nx := fun ρ => R .non (maskE [false, false] ρ), rt := fun d ρ => R d (maskE [false, false] ρ) } (startE N_law_box ds)) : FnOk P w K mg base CX0 1 f fd ["script", "k"] (spD K 2 ph_law_box) :=
  okD [false, false] F sc_law_box rfl rfl (t := t_law_box)
    ((sxs_cons (sx_set 2 sc_law_box.nd (ex_bin bo_add (ex_bin bo_mul ex_int (ex_var 1)) ex_int))
    (sxs_cons (sx_if (eb_cmp co_lt (ex_var 1) (ex_callB (b := true) (fun _ f => call_lenF f) cs_len rfl T.len_ PySem.boot_len (ea_cons (ex_var 0) ea_nil))) (sxs_cons (sx_set 2 sc_law_box.nd (ex_callB (b := true) (fun _ _ => call_abs) cs_abs rfl T.abs_ (by decide +kernel) (ea_cons (ex_callTy (b := true) (fun _ _ => call_int1) cs_int1 rfl T.int_ (by decide +kernel) (ea_cons (ex_ixV 0 (ex_var 1)) ea_nil)) ea_nil)))
    sxs_nil) (sxs_cons (sx_if (eb_cmp co_gt (ex_callB (b := true) (fun _ f => call_lenF f) cs_len rfl T.len_ PySem.boot_len (ea_cons (ex_var 0) ea_nil)) ex_int) (sxs_cons (sx_set 2 sc_law_box.nd (ex_bin bo_add (ex_var 2) (ex_bin bo_mul (ex_bin bo_mod (ex_callTy (b := true) (fun _ _ => call_int1) cs_int1 rfl T.int_ (by decide +kernel) (ea_cons (ex_callB (b := true) (fun _ _ => call_abs) cs_abs rfl T.abs_ (by decide +kernel) (ea_cons (ex_callTy (b := true) (fun _ _ => call_int1) cs_int1 rfl T.int_ (by decide +kernel) (ea_cons (ex_ixV 0 (ex_bin bo_mod (ex_callTy (b := true) (fun _ _ => call_int1) cs_int1 rfl T.int_ (by decide +kernel) (ea_cons (ex_var 1) ea_nil)) (ex_callB (b := true) (fun _ f => call_lenF f) cs_len rfl T.len_ PySem.boot_len (ea_cons (ex_var 0) ea_nil)))) ea_nil)) ea_nil)) ea_nil)) ex_int) ex_int)))
    sxs_nil) sxs_nil)
    sxs_nil))
    (sxs_cons (sx_set 3 sc_law_box.nd (ex_if (eb_cmp co_ge (ex_var 2) (ex_bin bo_pow ex_int ex_int)) (ex_pure (ex_var 2)) ex_int))
    (sxs_cons (sx_ret (ex_lst (ea_cons (ex_pure (ex_var 3)) (ea_cons (ex_bin bo_add (ex_bin bo_mod (ex_callTy (b := true) (fun _ _ => call_int1) cs_int1 rfl T.int_ (by decide +kernel) (ea_cons (ex_bin bo_add (ex_bin bo_mul (ex_bin bo_mod (ex_callTy (b := true) (fun _ _ => call_int1) cs_int1 rfl T.int_ (by decide +kernel) (ea_cons (ex_var 2) ea_nil)) ex_int) ex_int) (ex_bin bo_mul ex_int (ex_var 1))) ea_nil)) ex_int) ex_int) ea_nil))))
    sxs_nil))))) h
abbrev s_pair_service : Stmt := top 3
theorem sc_pair_service : FnScope N_pair_service ["one", "two"] (defScope s_pair_service) := ⟨rfl, rfl, rfl, by decide +kernel, rfl, by decide +kernel, by decide +kernel⟩
theorem ok_pair_service {P : Program} {w : World} {K : PySem.W.Frag} {mg : Str → Option Value} {base : Heap} {f : Addr} {fd : FuncData} (F : FunD K "pair_service" "pair_service" (defArgs s_pair_service) (defBody s_pair_service) (defScope s_pair_service) [] [] f fd) (T : Txt mg) (c_pair_prices : Cal P w K mg base "pair_prices" ["one", "two"] 1 2 ph_pair_prices) (c_pair_costs : Cal P w K mg base "pair_costs" ["one", "two"] 1 2 ph_pair_costs) 
    (h : ∀ (ds : List D) (R : D → En → Prop), ds.length = 2 → ph_pair_service ds R → t_pair_service { nx := fun ρ => R .non (maskE [false, false] ρ), rt := fun d ρ => R d (maskE [false, false] ρ) } (startE N_pair_service ds)) : FnOk P w K mg base CX0 2 f fd ["one", "two"] (spD K 2 ph_pair_service) :=
  okD [false, false] F sc_pair_service rfl rfl (t := t_pair_service)
    ((sxs_cons (sx_ret (ex_tup (ea_cons (cx_P c_pair_prices (ea_cons (ex_ixV 0 ex_int) (ea_cons (ex_ixV 1 ex_int) ea_nil))) (ea_cons (cx_P c_pair_costs (ea_cons (ex_var 0) (ea_cons (ex_var 1) ea_nil))) ea_nil))))
    sxs_nil)) h
abbrev s_pair_book : Stmt := top 5
theorem sc_pair_book : FnScope N_pair_book ["one", "two", "tasks"] (defScope s_pair_book) := ⟨rfl, rfl, rfl, by decide +kernel, rfl, by decide +kernel, by decide +kernel⟩
theorem ok_pair_book {P : Program} {w : World} {K : PySem.W.Frag} {mg : Str → Option Value} {base : Heap} {f : Addr} {fd : FuncData} (F : FunD K "pair_book" "pair_book" (defArgs s_pair_book) (defBody s_pair_book) (defScope s_pair_book) [] [] f fd) (T : Txt mg) (c_pair_room : Cal P w K mg base "pair_room" ["first", "second", "one", "two", "tasks"] 1 5 ph_pair_room) 
    (h : ∀ (ds : List D) (R : D → En → Prop), ds.length = 3 → ph_pair_book ds R → t_pair_book { nx := fun ρ => R .non (maskE [false, false, false] ρ), rt := fun d ρ => R d (maskE [false, false, false] ρ) } (startE N_pair_book ds)) : FnOk P w K mg base CX0 2 f fd ["one", "two", "tasks"] (spD K 3 ph_pair_book) :=
  okD [false, false, false] F sc_pair_book rfl rfl (t := t_pair_book)
    ((sxs_cons (sx_set 3 sc_pair_book.nd (ex_lst ea_nil))
    (sxs_cons (sx_for (ei_range1 (ea_cons (ex_callB (b := true) (fun _ f => call_lenF f) cs_len rfl T.len_ PySem.boot_len (ea_cons (ex_var 0) ea_nil)) ea_nil) rfl T.range_) (eg_name 4 sc_pair_book.nd) (sxs_cons (sx_for (ei_range1 (ea_cons (ex_callB (b := true) (fun _ f => call_lenF f) cs_len rfl T.len_ PySem.boot_len (ea_cons (ex_var 1) ea_nil)) ea_nil) rfl T.range_) (eg_name 5 sc_pair_book.nd) (sxs_cons (sx_append 3 (cx_P c_pair_room (ea_cons (ex_var 4) (ea_cons (ex_var 5) (ea_cons (ex_var 0) (ea_cons (ex_var 1) (ea_cons (ex_var 2) ea_nil)))))))
    sxs_nil))
    sxs_nil))
    (sxs_cons (sx_ret (ex_callTy (b := true) (fun _ f => call_tupleF f) cs_tuple rfl T.tuple_ (by decide +kernel) (ea_cons (ex_var 3) ea_nil)))
    sxs_nil)))) h
abbrev s_law_pick : Stmt := top 11
theorem sc_law_pick : FnScope N_law_pick ["box", "some"] (defScope s_law_pick) := ⟨rfl, rfl, rfl, by decide +kernel, rfl, by decide +kernel, by decide +kernel⟩
theorem ok_law_pick {P : Program} {w : World} {K : PySem.W.Frag} {mg : Str → Option Value} {base : Heap} {f : Addr} {fd : FuncData} (F : FunD K "_law_pick" "_law_pick" (defArgs s_law_pick) (defBody s_law_pick) (defScope s_law_pick) [] [] f fd) (T : Txt mg) (c_law_take : Cal P w K mg base "_law_take" ["box", "many"] 1 2 ph_law_take) 
    (h : ∀ (ds : List D) (R : D → En → Prop), ds.length = 2 → ph_law_pick ds R → t_law_pick { nx := fun ρ => R .non (maskE [true, false] ρ), rt := fun d ρ => R d (maskE [true, false] ρ) } (startE N_law_pick ds)) : FnOk P w K mg base CX0 2 f fd ["box", "some"] (spD K 2 ph_law_pick) :=
  okD [true, false] F sc_law_pick rfl rfl (t := t_law_pick)
    ((sxs_cons (sx_ret (ex_pure (ex_ixV 1 (cx_M c_law_take (em_io 0 (em_val (ex_callB (b := true) (fun _ f => call_lenF f) cs_len rfl T.len_ PySem.boot_len (ea_cons (ex_var 1) ea_nil)) em_nil))))))
    sxs_nil)) h
abbrev s_law_beside : Stmt := top 19
theorem sc_law_beside : FnScope N_law_beside ["one", "two"] (defScope s_law_beside) := ⟨rfl, rfl, rfl, by decide +kernel, rfl, by decide +kernel, by decide +kernel⟩
theorem ok_law_beside {P : Program} {w : World} {K : PySem.W.Frag} {mg : Str → Option Value} {base : Heap} {f : Addr} {fd : FuncData} (F : FunD K "_law_beside" "_law_beside" (defArgs s_law_beside) (defBody s_law_beside) (defScope s_law_beside) [] [] f fd) (T : Txt mg) (c_law_paired : Cal P w K mg base "_law_paired" ["one", "two"] 1 2 ph_law_paired) 
    (h : ∀ (ds : List D) (R : D → En → Prop), ds.length = 2 → ph_law_beside ds R → t_law_beside { nx := fun ρ => R .non (maskE [false, false] ρ), rt := fun d ρ => R d (maskE [false, false] ρ) } (startE N_law_beside ds)) : FnOk P w K mg base CX0 2 f fd ["one", "two"] (spD K 2 ph_law_beside) :=
  okD [false, false] F sc_law_beside rfl rfl (t := t_law_beside)
    ((sxs_cons (sx_par3 2 3 4 sc_law_beside.nd (ea_cons (ex_callB (b := true) (fun _ f => call_lenF f) cs_len rfl T.len_ PySem.boot_len (ea_cons (ex_ix (ex_ixV 0 ex_int) ex_int) ea_nil)) (ea_cons (ex_callB (b := true) (fun _ f => call_lenF f) cs_len rfl T.len_ PySem.boot_len (ea_cons (ex_ixV 1 ex_int) ea_nil)) (ea_cons (ex_lst ea_nil) ea_nil))))
    (sxs_cons (sx_for (ei_range1 (ea_cons (ex_bin bo_mul (ex_callB (b := true) (fun _ f => call_lenF f) cs_len rfl T.len_ PySem.boot_len (ea_cons (ex_ixV 0 ex_int) ea_nil)) (ex_var 3)) ea_nil) rfl T.range_) (eg_name 5 sc_law_beside.nd) (sxs_cons (sx_par3 6 7 8 sc_law_beside.nd (ea_cons (ex_bin bo_div (ex_var 5) (ex_var 3)) (ea_cons (ex_bin bo_mod (ex_callTy (b := true) (fun _ _ => call_int1) cs_int1 rfl T.int_ (by decide +kernel) (ea_cons (ex_var 5) ea_nil)) (ex_var 3)) (ea_cons (ex_lst ea_nil) ea_nil))))
    (sxs_cons (sx_for (ei_seq (ex_pure (ex_ix (ex_ixV 0 ex_int) (ex_var 6)))) (eg_name 9 sc_law_beside.nd) (sxs_cons (sx_append 8 (ex_if (eb_cmp co_isN (ex_var 9) ex_non) ex_non (ex_tup (ea_cons (ex_ixV 9 ex_int) (ea_cons (ex_ixV 9 ex_int) (ea_cons (ex_bin bo_add (ex_bin bo_mul (ex_ixV 9 ex_int) (ex_var 3)) (ex_var 7)) ea_nil))))))
    sxs_nil))
    (sxs_cons (sx_for (ei_seq (ex_pure (ex_ix (ex_ixV 1 ex_int) (ex_var 7)))) (eg_name 9 sc_law_beside.nd) (sxs_cons (sx_append 8 (ex_if (eb_cmp co_isN (ex_var 9) ex_non) ex_non (ex_tup (ea_cons (ex_bin bo_add (ex_var 2) (ex_ixV 9 ex_int)) (ea_cons (ex_ixV 9 ex_int) (ea_cons (ex_bin bo_add (ex_bin bo_mul (ex_var 6) (ex_var 3)) (ex_ixV 9 ex_int)) ea_nil))))))
    sxs_nil))
    (sxs_cons (sx_append 4 (ex_callTy (b := true) (fun _ f => call_tupleF f) cs_tuple rfl T.tuple_ (by decide +kernel) (ea_cons (ex_var 8) ea_nil)))
    sxs_nil)))))
    (sxs_cons (sx_ret (ex_tup (ea_cons (cx_P c_law_paired (ea_cons (ex_ixV 0 ex_int) (ea_cons (ex_ixV 1 ex_int) ea_nil))) (ea_cons (cx_P c_law_paired (ea_cons (ex_ixV 0 ex_int) (ea_cons (ex_ixV 1 ex_int) ea_nil))) (ea_cons (ex_callTy (b := true) (fun _ f => call_tupleF f) cs_tuple rfl T.tuple_ (by decide +kernel) (ea_cons (ex_var 4) ea_nil)) ea_nil)))))
    sxs_nil)))) h
abbrev s_both_case : Stmt := top 6
theorem sc_both_case : FnScope N_both_case ["one", "two"] (defScope s_both_case) := ⟨rfl, rfl, rfl, by decide +kernel, rfl, by decide +kernel, by decide +kernel⟩
theorem ok_both_case {P : Program} {w : World} {K : PySem.W.Frag} {mg : Str → Option Value} {base : Heap} {f : Addr} {fd : FuncData} (F : FunD K "both_case" "both_case" (defArgs s_both_case) (defBody s_both_case) (defScope s_both_case) [] [] f fd) (T : Txt mg) (c_pair_service : Cal P w K mg base "pair_service" ["one", "two"] 2 2 ph_pair_service) (c_pair_book : Cal P w K mg base "pair_book" ["one", "two", "tasks"] 2 3 ph_pair_book) 
    (h : ∀ (ds : List D) (R : D → En → Prop), ds.length = 2 → ph_both_case ds R → t_both_case { nx := fun ρ => R .non (maskE [false, false] ρ), rt := fun d ρ => R d (maskE [false, false] ρ) } (startE N_both_case ds)) : FnOk P w K mg base CX0 3 f fd ["one", "two"] (spD K 2 ph_both_case) :=
  okD [false, false] F sc_both_case rfl rfl (t := t_both_case)
    ((sxs_cons (sx_par2 2 3 sc_both_case.nd (ea_cons (cx_P c_pair_service (ea_cons (ex_ixV 0 ex_int) (ea_cons (ex_ixV 1 ex_int) ea_nil))) (ea_cons (cx_P c_pair_service (ea_cons (ex_ixV 0 ex_int) (ea_cons (ex_ixV 1 ex_int) ea_nil))) ea_nil)))
    (sxs_cons (sx_ret (ex_tup (ea_cons (ex_var 2) (ea_cons (ex_var 3) (ea_cons (cx_P c_pair_book (ea_cons (ex_ixV 0 ex_int) (ea_cons (ex_ixV 1 ex_int) (ea_cons (ex_callB (b := true) (fun _ f => call_lenF f) cs_len rfl T.len_ PySem.boot_len (ea_cons (ex_ix (ex_ixV 0 ex_int) ex_int) ea_nil)) ea_nil)))) ea_nil)))))
    sxs_nil))) h
abbrev s_law_service : Stmt := top 14
theorem sc_law_service : FnScope N_law_service ["box", "standings", "tasks", "dear", "bars"] (defScope s_law_service) := ⟨rfl, rfl, rfl, by decide +kernel, rfl, by decide +kernel, by decide +kernel⟩
theorem ok_law_service {P : Program} {w : World} {K : PySem.W.Frag} {mg : Str → Option Value} {base : Heap} {f : Addr} {fd : FuncData} (F : FunD K "_law_service" "_law_service" (defArgs s_law_service) (defBody s_law_service) (defScope s_law_service) [] [] f fd) (T : Txt mg) (c_law_closed : Cal P w K mg base "_law_closed" ["prices"] 1 1 ph_law_closed) (c_law_take : Cal P w K mg base "_law_take" ["box", "many"] 1 2 ph_law_take) (c_law_pick : Cal P w K mg base "_law_pick" ["box", "some"] 2 2 ph_law_pick) 
    (h : ∀ (ds : List D) (R : D → En → Prop), ds.length = 5 → ph_law_service ds R → t_law_service { nx := fun ρ => R .non (maskE [true, false, false, false, false] ρ), rt := fun d ρ => R d (maskE [true, false, false, false, false] ρ) } (startE N_law_service ds)) : FnOk P w K mg base CX0 3 f fd ["box", "standings", "tasks", "dear", "bars"] (spD K 5 ph_law_service) :=
  okD [true, false, false, false, false] F sc_law_service rfl rfl (t := t_law_service)
    ((sxs_cons (sx_set 5 sc_law_service.nd (ex_lst ea_nil))
    (sxs_cons (sx_for (ei_range1 (ea_cons (ex_var 1) ea_nil) rfl T.range_) (eg_name 6 sc_law_service.nd) (sxs_cons (sx_append 5 (ex_callTy (b := true) (fun _ f => call_tupleF f) cs_tuple rfl T.tuple_ (by decide +kernel) (ea_cons (ex_compM [("two", 10)] sc_law_service.nd (ei_range1 (ea_cons (ex_var 1) ea_nil) rfl T.range_) (hg := (eg_name 10 sc_law_service.nd)) (ht := et_nil) (he := (ex_if (eb_cmp co_eqI (ex_var 6) (ex_var 10)) ex_int (cx_M c_law_take (em_io 0 (em_val (ex_bin bo_add (ex_var 3) ex_int) em_nil)))))) ea_nil)))
    sxs_nil))
    (sxs_frz 5 (sxs_cons (sx_set 7 sc_law_service.nd (ex_lst ea_nil))
    (sxs_cons (sx_for (ei_range1 (ea_cons (ex_var 2) ea_nil) rfl T.range_) (eg_name 8 sc_law_service.nd) (sxs_cons (sx_setCompM 9 [("one", 6)] sc_law_service.nd (ei_seq (ex_pure (ex_var 5))) (hg := (eg_name 6 sc_law_service.nd)) (ht := et_nil) (he := (ex_if (eb_cmp co_eqI (cx_M c_law_take (em_io 0 (em_val (ex_pure (ex_var 4)) em_nil))) ex_int) ex_non (cx_M c_law_pick (em_io 0 (em_val (ex_lst (ea_cons ex_int (ea_cons ex_int (ea_cons (cx_M c_law_take (em_io 0 (em_val (ex_bin bo_add (ex_var 3) ex_int) em_nil))) ea_nil)))) em_nil))))))
    (sxs_cons (sx_if (eb_cmp co_eqD (ex_comp [("one", 6)] sc_law_service.nd (ei_seqB (ex_var 9)) (hg := (eg_name 6 sc_law_service.nd)) (ht := (et_one (eb_cmp co_notN (ex_var 6) ex_non))) (he := (ex_pure (ex_var 6)))) (ex_lst ea_nil)) (sxs_cons (sx_store 9 (cx_M c_law_take (em_io 0 (em_val ex_int em_nil))) (cx_M c_law_take (em_io 0 (em_val (ex_pure (ex_var 1)) em_nil))))
    sxs_nil) sxs_nil)
    (sxs_cons (sx_append 7 (ex_callTy (b := true) (fun _ f => call_tupleF f) cs_tuple rfl T.tuple_ (by decide +kernel) (ea_cons (ex_var 9) ea_nil)))
    sxs_nil))))
    (sxs_cons (sx_ret (ex_tup (ea_cons (cx_P c_law_closed (ea_cons (ex_var 5) ea_nil)) (ea_cons (ex_callTy (b := true) (fun _ f => call_tupleF f) cs_tuple rfl T.tuple_ (by decide +kernel) (ea_cons (ex_var 7) ea_nil)) ea_nil))))
    sxs_nil))))))) h
abbrev s_law_book : Stmt := top 15
theorem sc_law_book : FnScope N_law_book ["box", "rooms", "signs", "tasks", "worst"] (defScope s_law_book) := ⟨rfl, rfl, rfl, by decide +kernel, rfl, by decide +kernel, by decide +kernel⟩
theorem ok_law_book {P : Program} {w : World} {K : PySem.W.Frag} {mg : Str → Option Value} {base : Heap} {f : Addr} {fd : FuncData} (F : FunD K "_law_book" "_law_book" (defArgs s_law_book) (defBody s_law_book) (defScope s_law_book) [] [] f fd) (T : Txt mg) (c_law_pick : Cal P w K mg base "_law_pick" ["box", "some"] 2 2 ph_law_pick) (c_law_take : Cal P w K mg base "_law_take" ["box", "many"] 1 2 ph_law_take) 
    (h : ∀ (ds : List D) (R : D → En → Prop), ds.length = 5 → ph_law_book ds R → t_law_book { nx := fun ρ => R .non (maskE [true, false, false, false, false] ρ), rt := fun d ρ => R d (maskE [true, false, false, false, false] ρ) } (startE N_law_book ds)) : FnOk P w K mg base CX0 3 f fd ["box", "rooms", "signs", "tasks", "worst"] (spD K 5 ph_law_book) :=
  okD [true, false, false, false, false] F sc_law_book rfl rfl (t := t_law_book)
    ((sxs_cons (sx_set 5 sc_law_book.nd (ex_lst ea_nil))
    (sxs_cons (sx_for (ei_range1 (ea_cons (ex_var 1) ea_nil) rfl T.range_) (eg_name 6 sc_law_book.nd) (sxs_cons (sx_set 7 sc_law_book.nd (ex_lst ea_nil))
    (sxs_cons (sx_for (ei_range1 (ea_cons (ex_var 2) ea_nil) rfl T.range_) (eg_name 8 sc_law_book.nd) (sxs_cons (sx_set 9 sc_law_book.nd (ex_if (eb_cmp co_gt (ex_var 4) ex_int) (cx_M c_law_pick (em_io 0 (em_val (ex_lst (ea_cons ex_int (ea_cons ex_int (ea_cons ex_int (ea_cons ex_int (ea_cons (cx_M c_law_take (em_io 0 (em_val (ex_bin bo_add (ex_var 4) ex_int) em_nil))) ea_nil)))))) em_nil))) ex_int))
    (sxs_cons (sx_append 7 (ex_if (eb_cmp co_gt (cx_M c_law_take (em_io 0 (em_val ex_int em_nil))) ex_int) (ex_tup (ea_cons (cx_M c_law_take (em_io 0 (em_val (ex_pure (ex_var 3)) em_nil))) (ea_cons (ex_pure (ex_var 9)) (ea_cons (cx_M c_law_take (em_io 0 (em_val (ex_pure (ex_var 1)) em_nil))) ea_nil)))) ex_non))
    sxs_nil)))
    (sxs_cons (sx_if (EW.eb (ew_and (eb_cmp co_eqI (ex_var 6) ex_int) (ew_and1 (eb_cmp co_eqD (ex_comp [("one", 10)] sc_law_book.nd (ei_seqB (ex_var 7)) (hg := (eg_name 10 sc_law_book.nd)) (ht := (et_one (eb_cmp co_notN (ex_var 10) ex_non))) (he := (ex_pure (ex_var 10)))) (ex_lst ea_nil))))) (sxs_cons (sx_store 7 (ex_tup (ea_cons (cx_M c_law_take (em_io 0 (em_val (ex_pure (ex_var 3)) em_nil))) (ea_cons ex_int (ea_cons ex_int ea_nil)))) (cx_M c_law_take (em_io 0 (em_val (ex_pure (ex_var 2)) em_nil))))
    sxs_nil) sxs_nil)
    (sxs_cons (sx_append 5 (ex_callTy (b := true) (fun _ f => call_tupleF f) cs_tuple rfl T.tuple_ (by decide +kernel) (ea_cons (ex_var 7) ea_nil)))
    sxs_nil)))))
    (sxs_cons (sx_ret (ex_callTy (b := true) (fun _ f => call_tupleF f) cs_tuple rfl T.tuple_ (by decide +kernel) (ea_cons (ex_var 5) ea_nil)))
    sxs_nil)))) h
abbrev s_law_case : Stmt := top 16
theorem sc_law_case : FnScope N_law_case ["box", "standings", "rooms", "signs", "dear"] (defScope s_law_case) := ⟨rfl, rfl, rfl, by decide +kernel, rfl, by decide +kernel, by decide +kernel⟩
theorem ok_law_case {P : Program} {w : World} {K : PySem.W.Frag} {mg : Str → Option Value} {base : Heap} {f : Addr} {fd : FuncData} (F : FunD K "_law_case" "_law_case" (defArgs s_law_case) (defBody s_law_case) (defScope s_law_case) [] [] f fd) (T : Txt mg) (c_law_service : Cal P w K mg base "_law_service" ["box", "standings", "tasks", "dear", "bars"] 3 5 ph_law_service) (c_law_take : Cal P w K mg base "_law_take" ["box", "many"] 1 2 ph_law_take) (c_law_pick : Cal P w K mg base "_law_pick" ["box", "some"] 2 2 ph_law_pick) (c_law_book : Cal P w K mg base "_law_book" ["box", "rooms", "signs", "tasks", "worst"] 3 5 ph_law_book) 
    (h : ∀ (ds : List D) (R : D → En → Prop), ds.length = 5 → ph_law_case ds R → t_law_case { nx := fun ρ => R .non (maskE [true, false, false, false, false] ρ), rt := fun d ρ => R d (maskE [true, false, false, false, false] ρ) } (startE N_law_case ds)) : FnOk P w K mg base CX0 4 f fd ["box", "standings", "rooms", "signs", "dear"] (spD K 5 ph_law_case) :=
  okD [true, false, false, false, false] F sc_law_case rfl rfl (t := t_law_case)
    ((sxs_cons (sx_set 5 sc_law_case.nd (ex_bin bo_add ex_int (cx_M c_law_take (em_io 0 (em_val ex_int em_nil)))))
    (sxs_cons (sx_set 6 sc_law_case.nd (cx_M c_law_service (em_io 0 (em_val (ex_bin bo_add ex_int (cx_M c_law_take (em_io 0 (em_val (ex_pure (ex_var 1)) em_nil)))) (em_val (ex_pure (ex_var 5)) (em_val (ex_pure (ex_var 4)) (em_val (cx_M c_law_pick (em_io 0 (em_val (ex_lst (ea_cons ex_int (ea_cons ex_int (ea_cons ex_int ea_nil)))) em_nil))) em_nil)))))))
    (sxs_cons (sx_set 7 sc_law_case.nd (ex_pure (ex_var 6)))
    (sxs_cons (sx_if (EW.eb (ew_or (eb_cmp co_eqI (cx_M c_law_take (em_io 0 (em_val ex_int em_nil))) ex_int) (ew_or1 (eb_cmp co_gt (ex_callB (b := true) (fun _ f => call_lenF f) cs_len rfl T.len_ PySem.boot_len (ea_cons (ex_ixV 6 ex_int) ea_nil)) ex_int)))) (sxs_cons (sx_set 7 sc_law_case.nd (cx_M c_law_service (em_io 0 (em_val (ex_bin bo_add ex_int (cx_M c_law_take (em_io 0 (em_val ex_int em_nil)))) (em_val (ex_pure (ex_var 5)) (em_val (ex_pure (ex_var 4)) (em_val (cx_M c_law_pick (em_io 0 (em_val (ex_lst (ea_cons ex_int (ea_cons ex_int (ea_cons ex_int ea_nil)))) em_nil))) em_nil)))))))
    sxs_nil) sxs_nil)
    (sxs_cons (sx_ret (ex_tup (ea_cons (ex_pure (ex_var 6)) (ea_cons (ex_pure (ex_var 7)) (ea_cons (cx_M c_law_book (em_io 0 (em_val (ex_bin bo_add ex_int (cx_M c_law_take (em_io 0 (em_val (ex_pure (ex_var 2)) em_nil)))) (em_val (ex_bin bo_add ex_int (cx_M c_law_take (em_io 0 (em_val (ex_pure (ex_var 3)) em_nil)))) (em_val (ex_pure (ex_var 5)) (em_val ex_int em_nil)))))) ea_nil)))))
    sxs_nil)))))) h
abbrev s_law_wide : Stmt := top 21
theorem sc_law_wide : FnScope N_law_wide ["box", "standings"] (defScope s_law_wide) := ⟨rfl, rfl, rfl, by decide +kernel, rfl, by decide +kernel, by decide +kernel⟩
theorem ok_law_wide {P : Program} {w : World} {K : PySem.W.Frag} {mg : Str → Option Value} {base : Heap} {f : Addr} {fd : FuncData} (F : FunD K "_law_wide" "_law_wide" (defArgs s_law_wide) (defBody s_law_wide) (defScope s_law_wide) [] [] f fd) (T : Txt mg) (c_law_service : Cal P w K mg base "_law_service" ["box", "standings", "tasks", "dear", "bars"] 3 5 ph_law_service) (c_law_take : Cal P w K mg base "_law_take" ["box", "many"] 1 2 ph_law_take) (c_law_pick : Cal P w K mg base "_law_pick" ["box", "some"] 2 2 ph_law_pick) (c_law_book : Cal P w K mg base "_law_book" ["box", "rooms", "signs", "tasks", "worst"] 3 5 ph_law_book) 
    (h : ∀ (ds : List D) (R : D → En → Prop), ds.length = 2 → ph_law_wide ds R → t_law_wide { nx := fun ρ => R .non (maskE [true, false] ρ), rt := fun d ρ => R d (maskE [true, false] ρ) } (startE N_law_wide ds)) : FnOk P w K mg base CX0 4 f fd ["box", "standings"] (spD K 2 ph_law_wide) :=
  okD [true, false] F sc_law_wide rfl rfl (t := t_law_wide)
    ((sxs_cons (sx_set 2 sc_law_wide.nd (ex_bin bo_add ex_int (cx_M c_law_take (em_io 0 (em_val ex_int em_nil)))))
    (sxs_cons (sx_set 3 sc_law_wide.nd (cx_M c_law_service (em_io 0 (em_val (ex_bin bo_add ex_int (cx_M c_law_take (em_io 0 (em_val (ex_pure (ex_var 1)) em_nil)))) (em_val (ex_pure (ex_var 2)) (em_val ex_int (em_val (cx_M c_law_pick (em_io 0 (em_val (ex_lst (ea_cons ex_int (ea_cons ex_int (ea_cons ex_int ea_nil)))) em_nil))) em_nil)))))))
    (sxs_cons (sx_set 4 sc_law_wide.nd (ex_if (eb_cmp co_eqI (cx_M c_law_take (em_io 0 (em_val ex_int em_nil))) ex_int) (ex_pure (ex_var 3)) (cx_M c_law_service (em_io 0 (em_val (ex_bin bo_add ex_int (cx_M c_law_take (em_io 0 (em_val (ex_pure (ex_var 1)) em_nil)))) (em_val (ex_pure (ex_var 2)) (em_val ex_int (em_val (cx_M c_law_pick (em_io 0 (em_val (ex_lst (ea_cons ex_int (ea_cons ex_int ea_nil))) em_nil))) em_nil))))))))
    (sxs_cons (sx_ret (ex_tup (ea_cons (ex_pure (ex_var 3)) (ea_cons (ex_pure (ex_var 4)) (ea_cons (cx_M c_law_book (em_io 0 (em_val (ex_bin bo_add ex_int (cx_M c_law_take (em_io 0 (em_val ex_int em_nil)))) (em_val (ex_bin bo_add ex_int (cx_M c_law_take (em_io 0 (em_val ex_int em_nil)))) (em_val (ex_pure (ex_var 2)) (em_val ex_int em_nil)))))) ea_nil)))))
    sxs_nil))))) h
abbrev s_law_same : Stmt := top 12
theorem sc_law_same : FnScope N_law_same ["told", "due"] (defScope s_law_same) := ⟨rfl, rfl, rfl, by decide +kernel, rfl, by decide +kernel, by decide +kernel⟩
theorem ok_law_same {P : Program} {w : World} {K : PySem.W.Frag} {mg : Str → Option Value} {base : Heap} {f : Addr} {fd : FuncData} {ph ph2 : Ph} {j lv : Nat} (hj : j ≤ lv) (F : FunD K "_law_same" "_law_same" (defArgs s_law_same) (defBody s_law_same) (defScope s_law_same) [] [] f fd) (T : Txt mg) (c_law_same : Cal P w K mg base "_law_same" ["told", "due"] j 2 ph)  
    (h : ∀ (ds : List D) (R : D → En → Prop), ds.length = 2 → ph2 ds R → t_law_same ph { nx := fun ρ => R .non (maskE [false, false] ρ), rt := fun d ρ => R d (maskE [false, false] ρ) } (startE N_law_same ds)) : FnOk P w K mg base CX0 (lv + 1) f fd ["told", "due"] (spD K 2 ph2) :=
  okD [false, false] F sc_law_same rfl rfl (t := t_law_same ph)
    ((sxs_cons (sx_if (eb_val (ex_callB (b := true) (fun _ f => call_isiF f) cs_isi rfl T.isinstance_ (by decide +kernel) (ea_cons (ex_var 1) (ea_cons (ex_bltn (n := "tuple") rfl T.tuple_ (by first | rfl | decide +kernel)) ea_nil)))) (sxs_cons (sx_if (EW.eb (ew_or (eb_not (eb_val (ex_callB (b := true) (fun _ f => call_isiF f) cs_isi rfl T.isinstance_ (by decide +kernel) (ea_cons (ex_var 0) (ea_cons (ex_bltn (n := "tuple") rfl T.tuple_ (by first | rfl | decide +kernel)) ea_nil))))) (ew_or1 (eb_cmp co_neI (ex_callB (b := true) (fun _ f => call_lenF f) cs_len rfl T.len_ PySem.boot_len (ea_cons (ex_var 0) ea_nil)) (ex_callB (b := true) (fun _ f => call_lenF f) cs_len rfl T.len_ PySem.boot_len (ea_cons (ex_var 1) ea_nil)))))) (sxs_cons (sx_ret ex_bl)
    sxs_nil) sxs_nil)
    (sxs_cons (sx_for (ei_zip (ea_cons (ex_var 0) (ea_cons (ex_var 1) ea_nil)) rfl T.zip_) (eg_tup (n := 2) (egs_cons (eg_name 2 sc_law_same.nd) (egs_cons (eg_name 3 sc_law_same.nd) egs_nil))) (sxs_cons (sx_if (eb_not (eb_val (cx_P c_law_same (ea_cons (ex_var 2) (ea_cons (ex_var 3) ea_nil)) (hj := hj)))) (sxs_cons (sx_ret ex_bl)
    sxs_nil) sxs_nil)
    sxs_nil))
    (sxs_cons (sx_ret ex_bl)
    sxs_nil))) sxs_nil)
    (sxs_cons (sx_if (eb_cmp co_isN (ex_var 1) ex_non) (sxs_cons (sx_ret (ex_cmp co_isN (ex_var 0) ex_non))
    sxs_nil) sxs_nil)
    (sxs_cons (sx_if (EW.eb (ew_or (eb_cmp co_isB (ex_var 1) ex_bl) (ew_or1 (eb_cmp co_isB (ex_var 1) ex_bl)))) (sxs_cons (sx_ret (ex_and (ex_callB (b := true) (fun _ f => call_isiF f) cs_isi rfl T.isinstance_ (by decide +kernel) (ea_cons (ex_var 0) (ea_cons (ex_bltn (n := "bool") rfl T.bool_ (by first | rfl | decide +kernel)) ea_nil))) (ex_one (ex_cmp co_eqI (ex_var 0) (ex_var 1)))))
    sxs_nil) sxs_nil)
    (sxs_cons (sx_ret (ex_and (ex_callB (b := true) (fun _ f => call_isiF f) cs_isi rfl T.isinstance_ (by decide +kernel) (ea_cons (ex_var 0) (ea_cons (ex_bltn (n := "int") rfl T.int_ (by first | rfl | decide +kernel)) ea_nil))) (ex_and (ex_not (ex_callB (b := true) (fun _ f => call_isiF f) cs_isi rfl T.isinstance_ (by decide +kernel) (ea_cons (ex_var 0) (ea_cons (ex_bltn (n := "bool") rfl T.bool_ (by first | rfl | decide +kernel)) ea_nil)))) (ex_one (ex_cmp co_eqI (ex_var 0) (ex_var 1))))))
    sxs_nil))))) h
abbrev s_law_fixed : Stmt := top 22
theorem sc_law_fixed : FnScope N_law_fixed [] (defScope s_law_fixed) := ⟨rfl, rfl, rfl, by decide +kernel, rfl, by decide +kernel, by decide +kernel⟩
theorem ok_law_fixed {P : Program} {w : World} {K : PySem.W.Frag} {mg : Str → Option Value} {base : Heap} {f : Addr} {fd : FuncData} (F : FunD K "_law_fixed" "_law_fixed" (defArgs s_law_fixed) (defBody s_law_fixed) (defScope s_law_fixed) [] [] f fd) (T : Txt mg) (c_law_same : Cal P w K mg base "_law_same" ["told", "due"] 5 2 ph_law_same) (c_both_case : Cal P w K mg base "both_case" ["one", "two"] 3 2 ph_both_case) (k_both_case : CalK P w K mg base "both_case" ["one", "two"] ["one", "two"] 3 2 ph_both_case @idK)
    (h : ∀ (ds : List D) (R : D → En → Prop), ds.length = 0 → ph_law_fixed ds R → t_law_fixed { nx := fun ρ => R .non (maskE [] ρ), rt := fun d ρ => R d (maskE [] ρ) } (startE N_law_fixed ds)) : FnOk P w K mg base CX0 6 f fd [] (spD K 0 ph_law_fixed) :=
  okD [] F sc_law_fixed rfl rfl (t := t_law_fixed)
    ((sxs_cons (sx_set 0 sc_law_fixed.nd (ex_tup (ea_cons (ex_tup (ea_cons (ex_tup (ea_cons (ex_tup (ea_cons ex_int (ea_cons ex_int ea_nil))) (ea_cons (ex_tup (ea_cons ex_int (ea_cons ex_int ea_nil))) ea_nil))) (ea_cons (ex_tup (ea_cons (ex_tup (ea_cons ex_int (ea_cons ex_non ea_nil))) ea_nil)) ea_nil))) (ea_cons (ex_tup (ea_cons (ex_tup (ea_cons (ex_tup (ea_cons ex_int ea_nil)) ea_nil)) (ea_cons (ex_tup (ea_cons (ex_tup (ea_cons ex_int ea_nil)) ea_nil)) ea_nil))) (ea_cons (ex_tup (ea_cons (ex_tup (ea_cons (ex_tup (ea_cons ex_int (ea_cons ex_int (ea_cons ex_int ea_nil)))) ea_nil)) ea_nil)) ea_nil)))))
    (sxs_cons (sx_set 1 sc_law_fixed.nd (ex_tup (ea_cons (ex_tup (ea_cons (ex_tup (ea_cons (ex_tup (ea_cons ex_int ea_nil)) ea_nil)) (ea_cons (ex_tup (ea_cons (ex_tup (ea_cons ex_int ea_nil)) (ea_cons (ex_tup (ea_cons ex_int ea_nil)) ea_nil))) ea_nil))) (ea_cons (ex_tup (ea_cons (ex_tup (ea_cons (ex_tup (ea_cons ex_int (ea_cons ex_int ea_nil))) (ea_cons (ex_tup (ea_cons ex_int (ea_cons ex_int ea_nil))) ea_nil))) (ea_cons (ex_tup (ea_cons (ex_tup (ea_cons ex_int (ea_cons ex_int ea_nil))) (ea_cons (ex_tup (ea_cons ex_non (ea_cons ex_int ea_nil))) ea_nil))) ea_nil))) (ea_cons (ex_tup (ea_cons (ex_tup (ea_cons (ex_tup (ea_cons ex_int (ea_cons ex_int (ea_cons ex_int ea_nil)))) (ea_cons ex_non ea_nil))) (ea_cons (ex_tup (ea_cons (ex_tup (ea_cons ex_int (ea_cons ex_int (ea_cons ex_int ea_nil)))) (ea_cons (ex_tup (ea_cons ex_int (ea_cons ex_int (ea_cons ex_int ea_nil)))) ea_nil))) ea_nil))) ea_nil)))))
    (sxs_cons (sx_set 2 sc_law_fixed.nd (ex_tup (ea_cons (ex_tup (ea_cons (ex_tup (ea_cons ex_int (ea_cons ex_int ea_nil))) (ea_cons (ex_tup (ea_cons ex_int (ea_cons ex_int ea_nil))) ea_nil))) (ea_cons (ex_tup (ea_cons (ex_tup (ea_cons ex_int (ea_cons ex_non ea_nil))) (ea_cons (ex_tup (ea_cons ex_int (ea_cons ex_int ea_nil))) (ea_cons (ex_tup (ea_cons ex_int (ea_cons ex_int ea_nil))) ea_nil)))) ea_nil))))
    (sxs_cons (sx_set 3 sc_law_fixed.nd (ex_tup (ea_cons (ex_tup (ea_cons (ex_tup (ea_cons ex_int (ea_cons ex_int ea_nil))) (ea_cons (ex_tup (ea_cons ex_int (ea_cons ex_int ea_nil))) ea_nil))) (ea_cons (ex_tup (ea_cons (ex_tup (ea_cons ex_int (ea_cons ex_int ea_nil))) (ea_cons (ex_tup (ea_cons ex_int (ea_cons ex_int ea_nil))) (ea_cons (ex_tup (ea_cons ex_non (ea_cons ex_int ea_nil))) ea_nil)))) ea_nil))))
    (sxs_cons (sx_set 4 sc_law_fixed.nd (ex_tup (ea_cons (ex_tup (ea_cons (ex_tup (ea_cons ex_int (ea_cons ex_int (ea_cons ex_int ea_nil)))) (ea_cons (ex_tup (ea_cons ex_int (ea_cons ex_int (ea_cons ex_int ea_nil)))) (ea_cons ex_non ea_nil)))) (ea_cons (ex_tup (ea_cons (ex_tup (ea_cons ex_int (ea_cons ex_int (ea_cons ex_int ea_nil)))) (ea_cons (ex_tup (ea_cons ex_int (ea_cons ex_int (ea_cons ex_int ea_nil)))) (ea_cons (ex_tup (ea_cons ex_int (ea_cons ex_int (ea_cons ex_int ea_nil)))) ea_nil)))) ea_nil))))
    (sxs_cons (sx_if (eb_not (eb_val (cx_P c_law_same (ea_cons (cx_P c_both_case (ea_cons (ex_var 0) (ea_cons (ex_var 1) ea_nil))) (ea_cons (ex_tup (ea_cons (ex_var 2) (ea_cons (ex_var 3) (ea_cons (ex_var 4) ea_nil)))) ea_nil))))) (sxs_cons (sx_ret ex_bl)
    sxs_nil) sxs_nil)
    (sxs_cons (sx_set 5 sc_law_fixed.nd (ex_tup (ea_cons (ex_tup (ea_cons (ex_tup (ea_cons ex_int (ea_cons ex_int ea_nil))) (ea_cons (ex_tup (ea_cons ex_int (ea_cons ex_int ea_nil))) ea_nil))) (ea_cons (ex_tup (ea_cons (ex_tup (ea_cons ex_int (ea_cons ex_int ea_nil))) (ea_cons (ex_tup (ea_cons ex_int (ea_cons ex_int ea_nil))) (ea_cons (ex_tup (ea_cons ex_int (ea_cons ex_non ea_nil))) ea_nil)))) ea_nil))))
    (sxs_cons (sx_set 6 sc_law_fixed.nd (ex_tup (ea_cons (ex_tup (ea_cons (ex_tup (ea_cons ex_int (ea_cons ex_int (ea_cons ex_int ea_nil)))) (ea_cons ex_non (ea_cons (ex_tup (ea_cons ex_int (ea_cons ex_int (ea_cons ex_int ea_nil)))) ea_nil)))) (ea_cons (ex_tup (ea_cons (ex_tup (ea_cons ex_int (ea_cons ex_int (ea_cons ex_int ea_nil)))) (ea_cons (ex_tup (ea_cons ex_int (ea_cons ex_int (ea_cons ex_int ea_nil)))) (ea_cons (ex_tup (ea_cons ex_int (ea_cons ex_int (ea_cons ex_int ea_nil)))) ea_nil)))) ea_nil))))
    (sxs_cons (sx_set 7 sc_law_fixed.nd (ex_tup (ea_cons (ex_var 5) (ea_cons (ex_tup (ea_cons (ex_tup (ea_cons (ex_tup (ea_cons ex_int (ea_cons ex_int ea_nil))) (ea_cons (ex_tup (ea_cons ex_int (ea_cons ex_int ea_nil))) ea_nil))) (ea_cons (ex_tup (ea_cons (ex_tup (ea_cons ex_int (ea_cons ex_int ea_nil))) (ea_cons (ex_tup (ea_cons ex_non (ea_cons ex_int ea_nil))) (ea_cons (ex_tup (ea_cons ex_int (ea_cons ex_int ea_nil))) ea_nil)))) ea_nil))) (ea_cons (ex_var 6) ea_nil)))))
    (sxs_cons (sx_ret (cx_P c_law_same (ea_cons (cx_K (C := ⟨P, w, K, mg, base, N_law_fixed, defScope s_law_fixed, 5, [], fun _ => true⟩) k_both_case (ek_cons (ex_var 1) (ek_cons (ex_var 0) ek_nil)) (by exact idK_rep)) (ea_cons (ex_var 7) ea_nil))))
    sxs_nil))))))))))) h
abbrev s_law : Stmt := top 23
theorem sc_law : FnScope N_law ["script"] (defScope s_law) := ⟨rfl, rfl, rfl, by decide +kernel, rfl, by decide +kernel, by decide +kernel⟩
theorem ok_law {P : Program} {w : World} {K : PySem.W.Frag} {mg : Str → Option Value} {base : Heap} {f : Addr} {fd : FuncData} (F : FunD K "law" "law" (defArgs s_law) (defBody s_law) (defScope s_law) [] [] f fd) (T : Txt mg) (c_law_fixed : Cal P w K mg base "_law_fixed" [] 6 0 ph_law_fixed) (c_law_box : Cal P w K mg base "_law_box" ["script", "k"] 1 2 ph_law_box) (c_law_pick : Cal P w K mg base "_law_pick" ["box", "some"] 2 2 ph_law_pick) (c_law_beside : Cal P w K mg base "_law_beside" ["one", "two"] 2 2 ph_law_beside) (c_both_case : Cal P w K mg base "both_case" ["one", "two"] 3 2 ph_both_case) (c_law_case : Cal P w K mg base "_law_case" ["box", "standings", "rooms", "signs", "dear"] 4 5 ph_law_case) (c_law_ring : Cal P w K mg base "_law_ring" ["signs"] 1 1 ph_law_ring) (c_law_wide : Cal P w K mg base "_law_wide" ["box", "standings"] 4 2 ph_law_wide) (c_law_same : Cal P w K mg base "_law_same" ["told", "due"] 5 2 ph_law_same) (c_law_take : Cal P w K mg base "_law_take" ["box", "many"] 1 2 ph_law_take) 
    (h : ∀ (ds : List D) (R : D → En → Prop), ds.length = 1 → ph_law ds R → t_law { nx := fun ρ => R .non (maskE [false] ρ), rt := fun d ρ => R d (maskE [false] ρ) } (startE N_law ds)) : FnOk P w K mg base CX0 7 f fd ["script"] (spD K 1 ph_law) :=
  okD [false] F sc_law rfl rfl (t := t_law)
    ((sxs_cons (sx_try (sxs_cons (sx_if (eb_not (eb_val (cx_0 c_law_fixed))) (sxs_cons (sx_ret ex_bl)
    sxs_nil) sxs_nil)
    (sxs_cons (sx_for (ei_range1 (ea_cons (ex_callB (b := true) (fun _ f => call_max2 f.calm) cs_max2 rfl T.max_ (by decide +kernel) (ea_cons ex_int (ea_cons (ex_callB (b := true) (fun _ f => call_min2 f.calm) cs_min2 rfl T.min_ (by decide +kernel) (ea_cons (ex_callB (b := true) (fun _ f => call_lenF f) cs_len rfl T.len_ PySem.boot_len (ea_cons (ex_var 0) ea_nil)) (ea_cons ex_int ea_nil))) ea_nil))) ea_nil) rfl T.range_) (eg_name 1 sc_law.nd) (sxs_cons (sx_set 2 sc_law.nd (cx_P c_law_box (ea_cons (ex_var 0) (ea_cons (ex_var 1) ea_nil))))
    (sxs_cons (sx_set 3 sc_law.nd (cx_M c_law_pick (em_io 2 (em_val (ex_lst (ea_cons ex_int (ea_cons ex_int (ea_cons ex_int (ea_cons ex_int ea_nil))))) em_nil))))
    (sxs_cons (sx_par2 4 5 sc_law.nd (ea_cons (cx_M c_law_wide (em_io 2 (em_val (ex_pure (ex_var 3)) em_nil))) (ea_cons (cx_M c_law_wide (em_io 2 (em_val (ex_pure (ex_var 3)) em_nil))) ea_nil)))
    (sxs_cons (sx_if (EW.eb (ew_and (eb_cmp co_eqI (ex_var 1) ex_int) (ew_and1 (eb_cmp co_eqI (cx_M c_law_take (em_io 2 (em_val ex_int em_nil))) ex_int)))) (sxs_cons (sx_set 4 sc_law.nd (cx_M c_law_wide (em_io 2 (em_val ex_int em_nil))))
    (sxs_cons (sx_set 5 sc_law.nd (cx_M c_law_case (em_io 2 (em_val ex_int (em_val ex_int (em_val ex_int (em_val ex_int em_nil)))))))
    sxs_nil)) sxs_nil)
    (sxs_cons (sx_set 6 sc_law.nd (cx_P c_law_beside (ea_cons (ex_var 4) (ea_cons (ex_var 5) ea_nil))))
    (sxs_cons (sx_set 7 sc_law.nd (cx_P c_both_case (ea_cons (ex_var 4) (ea_cons (ex_var 5) ea_nil))))
    (sxs_cons (sx_if (EW.eb (ew_or (eb_not (eb_val (cx_P c_law_same (ea_cons (ex_var 7) (ea_cons (ex_var 6) ea_nil))))) (ew_or1 (eb_not (eb_val (cx_P c_law_same (ea_cons (cx_P c_both_case (ea_cons (ex_var 5) (ea_cons (ex_var 4) ea_nil))) (ea_cons (cx_P c_law_beside (ea_cons (ex_var 5) (ea_cons (ex_var 4) ea_nil))) ea_nil)))))))) (sxs_cons (sx_ret ex_bl)
    sxs_nil) sxs_nil)
    (sxs_cons (sx_set 8 sc_law.nd (cx_M c_law_case (em_io 2 (em_val ex_int (em_val ex_int (em_val ex_int (em_val ex_int em_nil)))))))
    (sxs_cons (sx_if (eb_not (eb_val (cx_P c_law_same (ea_cons (cx_P c_both_case (ea_cons (ex_var 8) (ea_cons (ex_var 8) ea_nil))) (ea_cons (cx_P c_law_beside (ea_cons (ex_var 8) (ea_cons (ex_var 8) ea_nil))) ea_nil))))) (sxs_cons (sx_ret ex_bl)
    sxs_nil) sxs_nil)
    (sxs_cons (sx_set 9 sc_law.nd (cx_P c_law_ring (ea_cons (ex_lst (ea_cons (ex_tup (ea_cons (ex_bin bo_add ex_int (cx_M c_law_take (em_io 2 (em_val ex_int em_nil)))) (ea_cons (cx_M c_law_take (em_io 2 (em_val ex_int em_nil))) (ea_cons ex_int ea_nil)))) ea_nil)) ea_nil)))
    (sxs_cons (sx_if (eb_not (eb_val (cx_P c_law_same (ea_cons (cx_P c_both_case (ea_cons (cx_P c_both_case (ea_cons (ex_var 8) (ea_cons (ex_var 8) ea_nil))) (ea_cons (ex_var 9) ea_nil))) (ea_cons (cx_P c_law_beside (ea_cons (cx_P c_law_beside (ea_cons (ex_var 8) (ea_cons (ex_var 8) ea_nil))) (ea_cons (ex_var 9) ea_nil))) ea_nil))))) (sxs_cons (sx_ret ex_bl)
    sxs_nil) sxs_nil)
    (sxs_cons (sx_if (EW.eb (ew_or (eb_not (eb_val (cx_P c_law_same (ea_cons (ex_var 7) (ea_cons (ex_var 6) ea_nil))))) (ew_or1 (eb_not (eb_val (cx_P c_law_same (ea_cons (cx_P c_both_case (ea_cons (ex_var 4) (ea_cons (ex_var 5) ea_nil))) (ea_cons (ex_var 6) ea_nil)))))))) (sxs_cons (sx_ret ex_bl)
    sxs_nil) sxs_nil)
    sxs_nil)))))))))))))
    (sxs_cons (sx_ret ex_bl)
    sxs_nil))))
    sxs_nil)) h

end VL

set_option Elab.async false
set_option linter.all false
set_option maxRecDepth 100000
/-! P0: k75, what simp may use on its data. -/
namespace VL
open PySem L2
theorem i_ePr (p) : (ePr p).items = some (p.map eRow) := rfl
theorem i_eRow (p) : (eRow p).items = some (p.map .int) := rfl
theorem i_eCo (p) : (eCo p).items = some (p.map eCoR) := rfl
theorem i_eCoR (p) : (eCoR p).items = some (p.map eO) := rfl
theorem i_eBk (p) : (eBk p).items = some (p.map eRm) := rfl
theorem i_eRm (p) : (eRm p).items = some (p.map eSt) := rfl
theorem n_ePr (p) : fLen [ePr p] = some (.int p.length) := by simp [ePr, fLen, D.items]
theorem n_eRow (p) : fLen [eRow p] = some (.int p.length) := by simp [eRow, fLen, D.items]
theorem n_eCo (p) : fLen [eCo p] = some (.int p.length) := by simp [eCo, fLen, D.items]
theorem n_eBk (p) : fLen [eBk p] = some (.int p.length) := by simp [eBk, fLen, D.items]
theorem d_eSv0 (s : Sv) : dIx (eSv s) (.int 0) = some (ePr s.pr) := rfl
theorem d_eSv1 (s : Sv) : dIx (eSv s) (.int 1) = some (eCo s.co) := rfl
theorem d_eCs0 (s : Cs) : dIx (eCs s) (.int 0) = some (eSv s.m) := rfl
theorem d_eCs1 (s : Cs) : dIx (eCs s) (.int 1) = some (eSv s.t) := rfl
theorem d_eCs2 (s : Cs) : dIx (eCs s) (.int 2) = some (eBk s.b) := rfl
theorem d_eBk {b : Bk} {i : Nat} (h : i < b.length) : dIx (eBk b) (.int i) = some (eRm (b.getD i [])) := by
  show atI (b.map eRm) (i : Int) = _
  exact atI_map (by rw [List.getD_eq_getElem?_getD, List.getElem?_eq_getElem h]; rfl)
theorem d_ePr {b : List (List Int)} {i : Nat} (h : i < b.length) : dIx (ePr b) (.int i) = some (eRow (b.getD i [])) := by
  show atI (b.map eRow) (i : Int) = _
  exact atI_map (by rw [List.getD_eq_getElem?_getD, List.getElem?_eq_getElem h]; rfl)
theorem d_eRow {b : List Int} {i : Nat} (h : i < b.length) : dIx (eRow b) (.int i) = some (.int (b.getD i 0)) := by
  show atI (b.map D.int) (i : Int) = _
  exact atI_map (by rw [List.getD_eq_getElem?_getD, List.getElem?_eq_getElem h]; rfl)
theorem d_eCoR {b : List (Option Int)} {i : Nat} (h : i < b.length) : dIx (eCoR b) (.int i) = some (eO (b.getD i none)) := by
  show atI (b.map eO) (i : Int) = _
  exact atI_map (by rw [List.getD_eq_getElem?_getD, List.getElem?_eq_getElem h]; rfl)
theorem d_bx0 (g r : Int) : dIx (bx g r) (.int 0) = some (.int g) := rfl
theorem d_bx1 (g r : Int) : dIx (bx g r) (.int 1) = some (.int r) := rfl
theorem p_Row (l : List _) : pureL (l.map eRow) = true := pureL_maplf lf_eRow l
theorem p_CoR (l : List _) : pureL (l.map eCoR) = true := pureL_maplf lf_eCoR l
theorem p_O (l : List _) : pureL (l.map eO) = true := pureL_maplf lf_eO l
theorem p_St (l : List _) : pureL (l.map eSt) = true := pureL_maplf lf_eSt l
theorem p_Rm (l : List _) : pureL (l.map eRm) = true := pureL_maplf lf_eRm l
theorem v_lf {d : D} (h : d.lf = true) : d.view = d := D.view_pure d (D.pure_lf d h)
theorem v_ePr (x) : (ePr x).view = ePr x := v_lf (lf_ePr x)
theorem v_eSv (x) : (eSv x).view = eSv x := v_lf (lf_eSv x)
theorem v_eCs (x) : (eCs x).view = eCs x := v_lf (lf_eCs x)
theorem v_eBk (x) : (eBk x).view = eBk x := v_lf (lf_eBk x)
theorem lfo_lf {d : D} (h : d.lf = true) : d.lfo = true := by cases d <;> simp_all [D.lf, D.lfo]
theorem o_ePr (x) : (ePr x).lfo = true := lfo_lf (lf_ePr x)
theorem o_eSv (x) : (eSv x).lfo = true := lfo_lf (lf_eSv x)
theorem o_eCo (x) : (eCo x).lfo = true := lfo_lf (lf_eCo x)
theorem o_eCs (x) : (eCs x).lfo = true := lfo_lf (lf_eCs x)
theorem o_eBk (x) : (eBk x).lfo = true := lfo_lf (lf_eBk x)
theorem o_eRm (x) : (eRm x).lfo = true := lfo_lf (lf_eRm x)

theorem WfS.rowlen {B : Nat} {s : Sv} (h : WfS B s) {r} (hr : r ∈ s.pr) : r.length ≤ B := by rw [h.sq r hr]; exact h.nB
theorem len_flatMap_le {α β : Type} (l : List α) (f : α → List β) (k : Nat) (h : ∀ x ∈ l, (f x).length ≤ k) : (l.flatMap f).length ≤ l.length * k := by
  induction l with
  | nil => simp
  | cons a l ih =>
    have h1 := h a (by simp)
    have h2 := ih fun x hx => h x (by simp [hx])
    simp only [List.flatMap_cons, List.length_append, List.length_cons, Nat.add_mul]
    omega

theorem z_repCoR {a : List (Option Int)} {k : Int} {Q : D → Prop} : (∃ z, fRepT (eCoR a) (.int k) = some z ∧ Q z) ↔ (a.map eO ≠ [] ∧ 1 ≤ k ∧ k ≤ 1000 ∧ (a.map eO).length ≤ 1000) ∧ Q (.tup (List.replicate k.toNat (a.map eO)).flatten) := z_fRepT
theorem z_listRow {a : List Int} {Q : D → Prop} : (∃ z, fList [eRow a] = some z ∧ Q z) ↔ pureL (a.map D.int) = true ∧ Q (.own (a.map D.int)) := z_fList_tup
theorem o_bx (g r : Int) : (bx g r).lfo = true := rfl
theorem e_St0 : eSt none = .non := rfl
theorem e_St1 {a b c : Int} : eSt (some (a, b, c)) = .tup [.int a, .int b, .int c] := rfl
theorem e_O0 : eO none = .non := rfl
theorem e_O1 {a : Int} : eO (some a) = .int a := rfl
def eP (p : Nat × Nat) : D := .tup [.int p.1, .int p.2]
theorem lf_eP (x) : (eP x).lf = true := rfl
theorem p_P (l : List _) : pureL (l.map eP) = true := pureL_maplf lf_eP l
theorem pure_eP (x) : (eP x).pure = true := rfl
theorem d_eP0 (x) : dIx (eP x) (.int 0) = some (.int x.1) := rfl
theorem d_eP1 (x) : dIx (eP x) (.int 1) = some (.int x.2) := rfl
theorem w_P (l : List _) : viewL (l.map eP) = l.map eP := viewL_pure _ (p_P l)
theorem w_int (l : List Int) : viewL (l.map D.int) = l.map D.int := viewL_pure _ (pureL_int l)
theorem w_Row (l : List _) : viewL (l.map eRow) = l.map eRow := viewL_pure _ (p_Row l)
theorem w_CoR (l : List _) : viewL (l.map eCoR) = l.map eCoR := viewL_pure _ (p_CoR l)
theorem d_e30 (x) : dIx (e3 x) (.int 0) = some (.int x.1) := rfl
theorem d_e31 (x) : dIx (e3 x) (.int 1) = some (.int x.2.1) := rfl
theorem d_e32 (x) : dIx (e3 x) (.int 2) = some (.int x.2.2) := rfl
theorem p_3 (l : List _) : pureL (l.map e3) = true := pureL_maplf (fun _ => rfl) l
theorem ne_map {α : Type} {l : List α} {f : α → D} (h : 0 < l.length) : l.map f ≠ [] := by intro e; have := congrArg List.length e; simp at this; simp [this] at h
end VL

set_option Elab.async false
set_option linter.all false
set_option maxRecDepth 100000
set_option maxHeartbeats 4000000
namespace VL
open PySem L2
local macro_rules | `(tactic| walk_at "ev") => `(tactic| simp (config := { maxSteps := 20000000 }) only [sC, sN, sSet, sPar, sRet, sRetN, sEx, sIf, sBk, sCt, sApp, sSt_w, sSt2, sAug_w, sFz, sForget, xV, xC, xP, xMv, xBin, xTup, xLst, xsN, xsC, xsI, xIxV_w, xIf, bV, bNot, bAnd, bOr, bYes, xNot, xAnd, xOr, xCall, xCallP, xCall0, xCallK, xCallM_w, takeIO_0, takeIO_n, takeIO_s, putIO_s, putIO_n, putIO_0, gN, gsL, gsC_c, gsN_0, gT_c, iSqx, iRg1, iRg2, iZp, iEn, z_fAdd, z_fSub, z_fMul, z_fDiv, z_fMod, z_fPow, z_fLt, z_fLe, z_fGt, z_fGe, z_fEqI, z_fNeI, z_fTuple_own, z_fTuple_tup, z_fTuple_lst, z_fLen_tup, z_fLen_lst, z_fLen_own, z_fInt1, z_fAbs, z_fMax2, z_fMin2, z_fList_tup, z_fList_lst, z_fCatL, z_isN_non, z_isN_int, z_isN_tup, z_notN_non, z_notN_int, z_notN_tup, z_dIx_tup, z_dIx_lst, z_dIx_own, z_at0, z_at1, z_at2, o_bx, z_repCoR, z_listRow, e_St0, e_St1, e_O0, e_O1, p_P, pure_eP, d_eP0, d_eP1, w_P, w_int, w_Row, w_CoR, d_e30, d_e31, d_e32, p_3, s_at0, s_at1, y_int_tup, y_non_tup, y_tup_tup, y_int_int, y_int_bool, y_isB, i_ePr, i_eRow, i_eCo, i_eCoR, i_eBk, i_eRm, n_ePr, n_eRow, n_eCo, n_eBk, d_eSv0, d_eSv1, d_eCs0, d_eCs1, d_eCs2, d_bx0, d_bx1, p_Row, p_CoR, p_O, p_St, p_Rm, v_ePr, v_eSv, v_eCs, v_eBk, o_ePr, o_eSv, o_eCo, o_eCs, o_eBk, o_eRm, pure_eO, pure_eSt, pure_eRow, pure_ePr, pure_eCoR, pure_eCo, pure_eSv, pure_eRm, pure_eBk, pure_eCs, t_D_view_int, viewL, D.view, t_lfo_own, t_lfo_tup, t_lfo_int, t_lfo_bl, D.lf, lfL, t_items_tup, t_items_lst, t_items_own, D.pure, pureL, pureL_int, List.getElem?_cons_zero, List.getElem?_cons_succ, List.set_cons_zero, List.set_cons_succ, Option.some.injEq, exists_eq_left', exists_eq_left, List.length_cons, List.length_nil, true_and, and_true, wipeE, backE, exists_eq', exists_eq, Option.map_some, Nat.reduceAdd, Nat.reduceLT, Nat.reduceLeDiff, Nat.zero_le, Nat.reduceSub, D.int.injEq, D.bl.injEq, D.own.injEq, D.tup.injEq, D.lst.injEq, List.nil_append, List.cons.injEq, Bool.true_and, Bool.and_true, Bool.not_true, Bool.not_false, Bool.false_eq_true, if_true, if_false, ↓reduceIte, reduceCtorEq, false_and, and_false, false_or, or_false, false_implies])
local macro_rules | `(tactic| walk_at "box") => `(tactic| (refine ⟨by decide, ?_⟩; split <;> refine ⟨by omega, .inr ⟨by omega, by omega⟩, .inl ⟨by omega, by omega⟩, by omega, ?_⟩))
local macro_rules | `(tactic| walk_at "es") => `(tactic| simp (config := { maxSteps := 20000000 }) only [sC, sN, sSet, sPar, sRet, sRetN, sEx, sBk, sCt, sApp, sSt_w, sSt2, sAug_w, sFz, sForget, xV, xC, xP, xMv, xBin, xTup, xLst, xsN, xsC, xsI, xIxV_w, xIf, bV, bNot, bYes, xNot, xAnd, xOr, xCall, xCallP, xCall0, xCallK, xCallM_w, takeIO_0, takeIO_n, takeIO_s, putIO_s, putIO_n, putIO_0, gN, gsL, gsC_c, gsN_0, gT_c, iSqx, iRg1, iRg2, iZp, iEn, z_fAdd, z_fSub, z_fMul, z_fDiv, z_fMod, z_fPow, z_fLt, z_fLe, z_fGt, z_fGe, z_fEqI, z_fNeI, z_fTuple_own, z_fTuple_tup, z_fTuple_lst, z_fLen_tup, z_fLen_lst, z_fLen_own, z_fInt1, z_fAbs, z_fMax2, z_fMin2, z_fList_tup, z_fList_lst, z_fCatL, z_isN_non, z_isN_int, z_isN_tup, z_notN_non, z_notN_int, z_notN_tup, z_dIx_tup, z_dIx_lst, z_dIx_own, z_at0, z_at1, z_at2, o_bx, z_repCoR, z_listRow, e_St0, e_St1, e_O0, e_O1, p_P, pure_eP, d_eP0, d_eP1, w_P, w_int, w_Row, w_CoR, d_e30, d_e31, d_e32, p_3, s_at0, s_at1, y_int_tup, y_non_tup, y_tup_tup, y_int_int, y_int_bool, y_isB, i_ePr, i_eRow, i_eCo, i_eCoR, i_eBk, i_eRm, n_ePr, n_eRow, n_eCo, n_eBk, d_eSv0, d_eSv1, d_eCs0, d_eCs1, d_eCs2, d_bx0, d_bx1, p_Row, p_CoR, p_O, p_St, p_Rm, v_ePr, v_eSv, v_eCs, v_eBk, o_ePr, o_eSv, o_eCo, o_eCs, o_eBk, o_eRm, pure_eO, pure_eSt, pure_eRow, pure_ePr, pure_eCoR, pure_eCo, pure_eSv, pure_eRm, pure_eBk, pure_eCs, t_D_view_int, viewL, D.view, t_lfo_own, t_lfo_tup, t_lfo_int, t_lfo_bl, D.lf, lfL, t_items_tup, t_items_lst, t_items_own, D.pure, pureL, pureL_int, List.getElem?_cons_zero, List.getElem?_cons_succ, List.set_cons_zero, List.set_cons_succ, Option.some.injEq, exists_eq_left', exists_eq_left, List.length_cons, List.length_nil, true_and, and_true, wipeE, backE, exists_eq', exists_eq, Option.map_some, Nat.reduceAdd, Nat.reduceLT, Nat.reduceLeDiff, Nat.zero_le, Nat.reduceSub, D.int.injEq, D.bl.injEq, D.own.injEq, D.tup.injEq, D.lst.injEq, List.nil_append, List.cons.injEq, Bool.true_and, Bool.and_true, Bool.not_true, Bool.not_false, Bool.false_eq_true, if_true, if_false, ↓reduceIte, reduceCtorEq, false_and, and_false, false_or, or_false, false_implies])
theorem pf_pair_prices : ∀ (ds : List D) (R : D → En → Prop), ds.length = 2 → ph_pair_prices ds R → t_pair_prices { nx := fun ρ => R .non (maskE [false, false] ρ), rt := fun d ρ => R d (maskE [false, false] ρ) } (startE N_pair_prices ds) := by
  rintro ds R _ ⟨one, two, rfl, h1, h2, hR⟩
  show t_pair_prices _ [some (ePr one.pr), some (ePr two.pr), none, none, none, none, none]
  unfold t_pair_prices
  walk_at "ev"
  obtain ⟨F, hF⟩ : ∃ F : List Int → List Int → List Int, F = fun row other => row.flatMap fun p => other.map fun m => p + m := ⟨_, rfl⟩
  refine sFor_inv eRow one.pr _ (it_var (.inl rfl) lf_eRow) (fun pre ρ => ∃ acc a b, ρ = [some (ePr one.pr), some (ePr two.pr), some (.own acc), a, b, none, none] ∧ acc = (pre.flatMap fun row => two.pr.map (F row)).map eRow) ⟨_, _, _, rfl, rfl⟩ ?_ ?_
  · rintro I hI pre row post ρ e ⟨acc, a, b, rfl, rfl⟩
    walk_at "ev"
    refine sFor_inv eRow two.pr _ (it_var (.inl rfl) lf_eRow) (fun pre2 ρ => ∃ acc b, ρ = [some (ePr one.pr), some (ePr two.pr), some (.own acc), some (eRow row), b, none, none] ∧ acc = (pre.flatMap fun row => two.pr.map (F row)).map eRow ++ (pre2.map (F row)).map eRow) ⟨_, _, rfl, by simp⟩ ?_ ?_
    · rintro I2 hI2 pre2 other post2 ρ e2 ⟨acc, b, rfl, rfl⟩
      walk_at "ev"
      have a1 := h1.rowlen (show row ∈ one.pr by rw [e]; simp)
      have a2 := h2.rowlen (show other ∈ two.pr by rw [e2]; simp)
      refine xComp2_run D.int D.int row (fun _ => other) (fun p m => some (.int (p + m))) _ ?r4_1 (it_varB (.inl rfl) fun _ => rfl) ?hl_1 ?hb_1 ?hb2_1 ?hq_1
      case hb_1 =>
        intro p hp N M hN
        walk_at "ev"
        exact hN
      case hb2_1 =>
        intro p hp m hm N hN
        walk_at "ev"
        exact hN
      case hl_1 => exact Nat.le_trans (len_flatMap_le row (fun _ => other) 10 (fun _ _ => a2)) (by omega)
      case hq_1 =>
        rw [show (row.flatMap fun p => other.filterMap fun m => some (D.int (p + m))) = (F row other).map D.int by rw [hF, ← flat_map]; simp [List.filterMap_eq_map, Function.comp_def]]
        walk_at "ev"
        refine ⟨?_, hI2 _ _ ⟨_, _, rfl, ?_⟩⟩
        · have b1 := congrArg List.length e
          have b2 := congrArg List.length e2
          have := h1.nB
          have := h2.nB
          simp at b1 b2
          simp only [List.length_append, List.length_map]
          have := len_flatMap_le pre (fun row => two.pr.map (F row)) 10 (by simp; omega)
          omega
        · simp [eRow]
    · rintro ρ ⟨acc, b, rfl, rfl⟩
      exact hI _ _ ⟨_, _, _, rfl, by simp⟩
  · rintro ρ ⟨acc, a, b, rfl, rfl⟩
    walk_at "ev"
    subst hF
    exact hR

theorem pf_pair_costs : ∀ (ds : List D) (R : D → En → Prop), ds.length = 2 → ph_pair_costs ds R → t_pair_costs { nx := fun ρ => R .non (maskE [false, false] ρ), rt := fun d ρ => R d (maskE [false, false] ρ) } (startE N_pair_costs ds) := by
  rintro ds R _ ⟨one, two, rfl, h1, h2, hR⟩
  show t_pair_costs _ [some (eSv one), some (eSv two), none, none, none, none, none, none]
  unfold t_pair_costs
  walk_at "ev"
  obtain ⟨F, hF⟩ : ∃ F : List (Option Int) → List (Option Int), F = fun row => row.flatMap fun c => (List.range two.pr.length).map fun _ => c := ⟨_, rfl⟩
  have ⟨n1, nB, sq, cB, cw⟩ := h1
  have ⟨n1', nB', sq', cB', cw'⟩ := h2
  refine xComp_run eCoR one.co (fun row => some (eCoR (F row))) ?r1_1 ?hi_1 ?hl_1 ?hb_1 ?hq_1
  case hi_1 => intro R hR; walk_at "ev"; exact hR
  case hl_1 => omega
  case hb_1 =>
    intro row hrow N hN
    walk_at "ev"
    refine xComp2_run eO (fun (i : Nat) => D.int (i : Int)) row (fun _ => List.range two.pr.length) (fun c _ => some (eO c)) ?r1_2 ?r4_2 ?hi_2 ?hl_2 ?hb_2 ?hb2_2 ?hq_2
    case hi_2 => intro R hR; walk_at "ev"; exact hR
    case hl_2 => exact Nat.le_trans (len_flatMap_le row _ 10 (by simp; omega)) (by have := cw row hrow; omega)
    case hb_2 =>
      intro p hp N M hN
      walk_at "ev"
      refine ⟨by omega, by omega, ?_⟩
      rw [rangeD_eq]
      exact hN
    case hb2_2 =>
      intro p hp m hm N hN
      walk_at "ev"
      exact hN
    case hq_2 =>
      rw [show (row.flatMap fun c => (List.range two.pr.length).filterMap fun _ => some (eO c)) = (F row).map eO by rw [hF, ← flat_map]; simp [List.filterMap_eq_map, Function.comp_def]]
      walk_at "ev"
      exact hN
  rw [show (one.co.filterMap fun row => some (eCoR (F row))) = (one.co.map F).map eCoR by simp [List.filterMap_eq_map, Function.comp_def]]
  walk_at "ev"
  refine sFor_inv eCoR two.co ?r1_3 ?hi_3 (fun pre ρ => ∃ acc a, ρ = [some (eSv one), some (eSv two), some (.int one.pr.length), some (.int two.pr.length), some (.own acc), a, none, none] ∧ acc = (one.co.map F).map eCoR ++ (pre.map fun row => (List.replicate one.pr.length row).flatten).map eCoR) ?h0_3 ?hs_3 ?hd_3
  case hi_3 => intro R hR; walk_at "ev"; exact hR
  case h0_3 => exact ⟨_, _, rfl, by simp⟩
  case hs_3 =>
    rintro I hI pre row post ρ e ⟨acc, a, rfl, rfl⟩
    have := cw' row (by rw [e]; simp)
    walk_at "ev"
    refine ⟨⟨ne_map (by omega), by omega, by omega, by simp; omega⟩, ?_, hI _ _ ⟨_, _, rfl, ?_⟩⟩
    · have b1 := congrArg List.length e
      simp at b1
      simp; omega
    · simp [eCoR, List.map_flatten]
  case hd_3 =>
    rintro ρ ⟨acc, a, rfl, rfl⟩
    walk_at "ev"
    rw [← List.map_append]
    walk_at "ev"
    subst hF
    exact hR
theorem pf_pair_room : ∀ (ds : List D) (R : D → En → Prop), ds.length = 5 → ph_pair_room ds R → t_pair_room { nx := fun ρ => R .non (maskE [false, false, false, false, false] ρ), rt := fun d ρ => R d (maskE [false, false, false, false, false] ρ) } (startE N_pair_room ds) := by
  rintro ds R _ ⟨i, j, one, two, tasks, rfl, hi, hj, h1, h2, hR⟩
  show t_pair_room _ [some (.int i), some (.int j), some (eBk one), some (eBk two), some (.int tasks), none, none, none]
  unfold t_pair_room
  walk_at "ev"
  have hd1 := d_eBk hi
  have hd2 := d_eBk hj
  have ⟨n1, nB, rB⟩ := h1
  have ⟨n1', nB', rB'⟩ := h2
  have hm1 : one.getD i [] ∈ one := by rw [List.getD_eq_getElem?_getD, List.getElem?_eq_getElem hi]; simp
  have hm2 : two.getD j [] ∈ two := by rw [List.getD_eq_getElem?_getD, List.getElem?_eq_getElem hj]; simp
  have l1 := rB _ hm1
  have l2 := rB' _ hm2
  unfold pairRoom at hR
  generalize one.getD i [] = r1 at *
  generalize two.getD j [] = r2 at *
  refine sFor_inv eSt r1 ?r1_4 ?hi_4 (fun pre ρ => ∃ acc a, ρ = [some (.int i), some (.int j), some (eBk one), some (eBk two), some (.int tasks), some (.int two.length), some (.own acc), a] ∧ acc = (pre.map fun s => s.map fun (a, b, c) => (a, b, c * (two.length : Int) + j)).map eSt) ?h0_4 ?hs_4 ?hd_4
  case hi_4 => intro R hR; walk_at "ev"; rw [hd1]; walk_at "ev"; exact hR
  case h0_4 => exact ⟨_, _, rfl, rfl⟩
  case hs_4 =>
    rintro I hI pre s post ρ e ⟨acc, a, rfl, rfl⟩
    have b1 := congrArg List.length e
    simp at b1
    rcases s with _ | ⟨a, b, c⟩
    · walk_at "ev"
      exact ⟨by simp; omega, hI _ _ ⟨_, _, rfl, by simp [eSt]⟩⟩
    · walk_at "ev"
      exact ⟨.inr ⟨by omega, by omega⟩, by simp; omega, hI _ _ ⟨_, _, rfl, by simp [eSt]⟩⟩
  rintro ρ ⟨acc, a, rfl, hacc⟩
  walk_at "ev"
  refine sFor_inv eSt r2 ?r1_5 ?hi_5 (fun pre ρ => ∃ acc a, ρ = [some (.int i), some (.int j), some (eBk one), some (eBk two), some (.int tasks), some (.int two.length), some (.own acc), a] ∧ acc = (r1.map fun s => s.map fun (a, b, c) => (a, b, c * (two.length : Int) + j)).map eSt ++ (pre.map fun s => s.map fun (a, b, c) => (tasks + a, b, (i : Int) * two.length + c)).map eSt) ?h0_5 ?hs_5 ?hd_5
  case hi_5 => intro R hR; walk_at "ev"; rw [hd2]; walk_at "ev"; exact hR
  case h0_5 => exact ⟨_, _, rfl, by simp [hacc]⟩
  case hs_5 =>
    rintro I hI pre s post ρ e ⟨acc, a, rfl, rfl⟩
    have b1 := congrArg List.length e
    simp at b1
    rcases s with _ | ⟨a, b, c⟩
    · walk_at "ev"
      exact ⟨by simp; omega, hI _ _ ⟨_, _, rfl, by simp [eSt]⟩⟩
    · walk_at "ev"
      exact ⟨.inr ⟨by omega, by omega⟩, by simp; omega, hI _ _ ⟨_, _, rfl, by simp [eSt]⟩⟩
  rintro ρ ⟨acc, a, rfl, rfl⟩
  walk_at "ev"
  rw [← List.map_append]
  walk_at "ev"
  exact hR
theorem pf_pair_service : ∀ (ds : List D) (R : D → En → Prop), ds.length = 2 → ph_pair_service ds R → t_pair_service { nx := fun ρ => R .non (maskE [false, false] ρ), rt := fun d ρ => R d (maskE [false, false] ρ) } (startE N_pair_service ds) := by
  rintro ds R _ ⟨one, two, rfl, h1, h2, hR⟩
  show t_pair_service _ [some (eSv one), some (eSv two)]
  unfold t_pair_service
  walk_at "ev"
  refine ⟨one, two, rfl, h1, h2, ?_⟩
  walk_at "ev"
  refine ⟨one, two, rfl, h1, h2, ?_⟩
  walk_at "ev"
  exact hR
theorem pf_pair_book : ∀ (ds : List D) (R : D → En → Prop), ds.length = 3 → ph_pair_book ds R → t_pair_book { nx := fun ρ => R .non (maskE [false, false, false] ρ), rt := fun d ρ => R d (maskE [false, false, false] ρ) } (startE N_pair_book ds) := by
  rintro ds R _ ⟨one, two, tasks, rfl, h1, h2, hR⟩
  show t_pair_book _ [some (eBk one), some (eBk two), some (.int tasks), none, none, none]
  unfold t_pair_book
  walk_at "ev"
  have ⟨n1, nB, rB⟩ := h1
  have ⟨n1', nB', rB'⟩ := h2
  refine sFor_inv (fun (i : Nat) => D.int (i : Int)) (List.range one.length) ?r1_6 ?hi_6 (fun pre ρ => ∃ acc a b, ρ = [some (eBk one), some (eBk two), some (.int tasks), some (.own acc), a, b] ∧ acc = (pre.flatMap fun i => (List.range two.length).map fun j => pairRoom i j one two tasks).map eRm) ?h0_6 ?hs_6 ?hd_6
  case hi_6 =>
    intro R hR
    walk_at "ev"
    refine ⟨by omega, by omega, ?_⟩
    rw [rangeD_eq]
    exact hR
  case h0_6 => exact ⟨_, _, _, rfl, rfl⟩
  case hs_6 =>
    rintro I hI pre i post ρ e ⟨acc, a, b, rfl, rfl⟩
    walk_at "ev"
    refine sFor_inv (fun (i : Nat) => D.int (i : Int)) (List.range two.length) ?r1_7 ?hi_7 (fun pre2 ρ => ∃ acc b, ρ = [some (eBk one), some (eBk two), some (.int tasks), some (.own acc), some (.int i), b] ∧ acc = (pre.flatMap fun i => (List.range two.length).map fun j => pairRoom i j one two tasks).map eRm ++ (pre2.map fun j => pairRoom i j one two tasks).map eRm) ?h0_7 ?hs_7 ?hd_7
    case hi_7 =>
      intro R hR
      walk_at "ev"
      refine ⟨by omega, by omega, ?_⟩
      rw [rangeD_eq]
      exact hR
    case h0_7 => exact ⟨_, _, rfl, by simp⟩
    case hs_7 =>
      rintro I2 hI2 pre2 j post2 ρ e2 ⟨acc, b, rfl, rfl⟩
      have b1 := congrArg List.length e
      have b2 := congrArg List.length e2
      simp at b1 b2
      have m1 : i ∈ List.range one.length := by rw [e]; simp
      have m2 : j ∈ List.range two.length := by rw [e2]; simp
      rw [List.mem_range] at m1 m2
      walk_at "ev"
      refine ⟨i, j, one, two, tasks, rfl, m1, m2, h1, h2, ?_⟩
      walk_at "ev"
      refine ⟨?_, hI2 _ _ ⟨_, _, rfl, by simp⟩⟩
      simp only [List.length_append, List.length_map]
      have := len_flatMap_le pre (fun i => (List.range two.length).map fun j => pairRoom i j one two tasks) 10 (by simp; omega)
      omega
    case hd_7 =>
      rintro ρ ⟨acc, b, rfl, rfl⟩
      exact hI _ _ ⟨_, _, _, rfl, by simp⟩
  case hd_6 =>
    rintro ρ ⟨acc, a, b, rfl, rfl⟩
    walk_at "ev"
    exact hR
theorem WfS.prices {a b : Sv} {B : Nat} (ha : WfS B a) (hb : WfS B b) : True := trivial
theorem pf_both_case : ∀ (ds : List D) (R : D → En → Prop), ds.length = 2 → ph_both_case ds R → t_both_case { nx := fun ρ => R .non (maskE [false, false] ρ), rt := fun d ρ => R d (maskE [false, false] ρ) } (startE N_both_case ds) := by
  rintro ds R _ ⟨one, two, rfl, h1, h2, hR⟩
  show t_both_case _ [some (eCs one), some (eCs two), none, none]
  unfold t_both_case
  walk_at "ev"
  refine ⟨one.m, two.m, rfl, h1.m, h2.m, ?_⟩
  walk_at "ev"
  refine ⟨one.t, two.t, rfl, h1.t, h2.t, ?_⟩
  walk_at "ev"
  refine ⟨one.b, two.b, _, rfl, h1.b, h2.b, ?_⟩
  walk_at "ev"
  exact hR

theorem pf_law_paired : ∀ (ds : List D) (R : D → En → Prop), ds.length = 2 → ph_law_paired ds R → t_law_paired { nx := fun ρ => R .non (maskE [false, false] ρ), rt := fun d ρ => R d (maskE [false, false] ρ) } (startE N_law_paired ds) := by
  rintro ds R _ ⟨one, two, rfl, h1, h2, hR⟩
  show t_law_paired _ [some (eSv one), some (eSv two), none, none, none, none, none, none, none, none]
  unfold t_law_paired
  walk_at "ev"
  have ⟨n1, nB, sq, cB, cw⟩ := h1
  have ⟨n1', nB', sq', cB', cw'⟩ := h2
  refine sFor_inv (fun (i : Nat) => D.int (i : Int)) (List.range one.pr.length) ?r1_1 ?hi_1 (fun pre ρ => ∃ acc a b, ρ = [some (eSv one), some (eSv two), some (.own acc), a, b, none, none, none, none, none] ∧ acc = (pre.flatMap fun i => (List.range two.pr.length).map fun j => (i, j)).map eP) ?h0_1 ?hs_1 ?hd_1
  case hi_1 =>
    intro R hR
    walk_at "ev"
    refine ⟨by omega, by omega, ?_⟩
    rw [rangeD_eq]
    exact hR
  case h0_1 => exact ⟨_, _, _, rfl, rfl⟩
  case hs_1 =>
    rintro I hI pre i post ρ e ⟨acc, a, b, rfl, rfl⟩
    walk_at "ev"
    refine sFor_inv (fun (i : Nat) => D.int (i : Int)) (List.range two.pr.length) ?r1_2 ?hi_2 (fun pre2 ρ => ∃ acc b, ρ = [some (eSv one), some (eSv two), some (.own acc), some (.int i), b, none, none, none, none, none] ∧ acc = (pre.flatMap fun i => (List.range two.pr.length).map fun j => (i, j)).map eP ++ (pre2.map fun j => (i, j)).map eP) ?h0_2 ?hs_2 ?hd_2
    case hi_2 =>
      intro R hR
      walk_at "ev"
      refine ⟨by omega, by omega, ?_⟩
      rw [rangeD_eq]
      exact hR
    case h0_2 => exact ⟨_, _, rfl, by simp⟩
    case hs_2 =>
      rintro I2 hI2 pre2 j post2 ρ e2 ⟨acc, b, rfl, rfl⟩
      have b1 := congrArg List.length e
      have b2 := congrArg List.length e2
      simp at b1 b2
      walk_at "ev"
      refine ⟨?_, hI2 _ _ ⟨_, _, rfl, by simp [eP]⟩⟩
      simp only [List.length_append, List.length_map]
      have := len_flatMap_le pre (fun i => (List.range two.pr.length).map fun j => (i, j)) 10 (by simp; omega)
      omega
    case hd_2 =>
      rintro ρ ⟨acc, b, rfl, rfl⟩
      exact hI _ _ ⟨_, _, _, rfl, by simp⟩
  rintro ρ ⟨acc, a, b, rfl, hacc⟩
  have hps : acc = (lawPairs one.pr.length two.pr.length).map eP := hacc
  unfold lawPaired at hR
  have hmem : ∀ p ∈ lawPairs one.pr.length two.pr.length, p.1 < one.pr.length ∧ p.2 < two.pr.length := by
    intro p hp
    simp only [lawPairs, List.mem_flatMap, List.mem_map, List.mem_range] at hp
    obtain ⟨i, hi, j, hj, rfl⟩ := hp
    exact ⟨hi, hj⟩
  have hlen : (lawPairs one.pr.length two.pr.length).length ≤ 100 := by
    refine Nat.le_trans (len_flatMap_le _ _ 10 (by simp; omega)) (by simp; omega)
  generalize lawPairs one.pr.length two.pr.length = ps at *
  subst hps
  clear hacc
  walk_at "ev"
  obtain ⟨F, hF⟩ : ∃ F : Nat × Nat → List Int, F = fun p => ps.map fun g => ((one.pr.getD p.1 []).getD g.1 0) + ((two.pr.getD p.2 []).getD g.2 0) := ⟨_, rfl⟩
  refine sFor_inv eP ps ?r1_3 ?hi_3 (fun pre ρ => ∃ acc c, ρ = [some (eSv one), some (eSv two), some (.lst (ps.map eP)), a, b, some (.own acc), c, none, none, none] ∧ acc = (pre.map F).map eRow) ?h0_3 ?hs_3 ?hd_3
  case hi_3 => intro R hR; walk_at "ev"; exact hR
  case h0_3 => exact ⟨_, _, rfl, rfl⟩
  case hs_3 =>
    rintro I hI pre p post ρ e ⟨acc, c, rfl, rfl⟩
    have b1 := congrArg List.length e
    simp at b1
    have ⟨m1, m2⟩ := hmem p (by rw [e]; simp)
    walk_at "ev"
    refine xComp_run eP ps (fun g => some (.int (((one.pr.getD p.1 []).getD g.1 0) + ((two.pr.getD p.2 []).getD g.2 0)))) ?r1_4 ?hi_4 ?hl_4 ?hb_4 ?hq_4
    case hi_4 => intro R hR; walk_at "ev"; exact hR
    case hl_4 => omega
    case hb_4 =>
      intro g hg N hN
      have ⟨m3, m4⟩ := hmem g hg
      walk_at "ev"
      have q1 : (one.pr.getD p.1 []).length = one.pr.length := sq _ (by rw [List.getD_eq_getElem?_getD, List.getElem?_eq_getElem m1]; simp)
      have q2 : (two.pr.getD p.2 []).length = two.pr.length := sq' _ (by rw [List.getD_eq_getElem?_getD, List.getElem?_eq_getElem m2]; simp)
      simp only [d_ePr m1, d_ePr m2, Option.some.injEq, exists_eq_left', d_eRow (show g.1 < (one.pr.getD p.1 []).length by omega), d_eRow (show g.2 < (two.pr.getD p.2 []).length by omega)]
      walk_at "ev"
      exact hN
    case hq_4 =>
      rw [show (ps.filterMap fun g => some (D.int (((one.pr.getD p.1 []).getD g.1 0) + ((two.pr.getD p.2 []).getD g.2 0)))) = (F p).map D.int by rw [hF]; simp [List.filterMap_eq_map, Function.comp_def]]
      walk_at "ev"
      exact ⟨by simp; omega, hI _ _ ⟨_, _, rfl, by simp [eRow]⟩⟩
  rintro ρ ⟨acc, c, rfl, rfl⟩
  walk_at "ev"
  refine xComp_run eCoR one.co (fun row => some (eCoR (ps.map fun p => row.getD p.1 none))) ?r1_5 ?hi_5 ?hl_5 ?hb_5 ?hq_5
  case hi_5 => intro R hR; walk_at "ev"; exact hR
  case hl_5 => omega
  case hb_5 =>
    intro row hrow N hN
    walk_at "ev"
    refine xComp_run eP ps (fun p => some (eO (row.getD p.1 none))) ?r1_6 ?hi_6 ?hl_6 ?hb_6 ?hq_6
    case hi_6 => intro R hR; walk_at "ev"; exact hR
    case hl_6 => omega
    case hb_6 =>
      intro g hg N hN
      have ⟨m3, m4⟩ := hmem g hg
      walk_at "ev"
      have := cw row hrow
      simp only [d_eCoR (show g.1 < row.length by omega)]
      walk_at "ev"
      exact hN
    case hq_6 =>
      rw [show (ps.filterMap fun p => some (eO (row.getD p.1 none))) = (ps.map fun p => row.getD p.1 none).map eO by simp [List.filterMap_eq_map, Function.comp_def]]
      walk_at "ev"
      exact hN
  rw [show (one.co.filterMap fun row => some (eCoR (ps.map fun p => row.getD p.1 none))) = (one.co.map fun row => ps.map fun p => row.getD p.1 none).map eCoR by simp [List.filterMap_eq_map, Function.comp_def]]
  walk_at "ev"
  refine xComp_run eCoR two.co (fun row => some (eCoR (ps.map fun p => row.getD p.2 none))) ?r1_7 ?hi_7 ?hl_7 ?hb_7 ?hq_7
  case hi_7 => intro R hR; walk_at "ev"; exact hR
  case hl_7 => omega
  case hb_7 =>
    intro row hrow N hN
    walk_at "ev"
    refine xComp_run eP ps (fun p => some (eO (row.getD p.2 none))) ?r1_8 ?hi_8 ?hl_8 ?hb_8 ?hq_8
    case hi_8 => intro R hR; walk_at "ev"; exact hR
    case hl_8 => omega
    case hb_8 =>
      intro g hg N hN
      have ⟨m3, m4⟩ := hmem g hg
      walk_at "ev"
      have := cw' row hrow
      simp only [d_eCoR (show g.2 < row.length by omega)]
      walk_at "ev"
      exact hN
    case hq_8 =>
      rw [show (ps.filterMap fun p => some (eO (row.getD p.2 none))) = (ps.map fun p => row.getD p.2 none).map eO by simp [List.filterMap_eq_map, Function.comp_def]]
      walk_at "ev"
      exact hN
  rw [show (two.co.filterMap fun row => some (eCoR (ps.map fun p => row.getD p.2 none))) = (two.co.map fun row => ps.map fun p => row.getD p.2 none).map eCoR by simp [List.filterMap_eq_map, Function.comp_def]]
  walk_at "ev"
  refine ⟨by simp; omega, ?_⟩
  rw [← List.map_append]
  walk_at "ev"
  subst hF
  exact hR

theorem pf_law_beside : ∀ (ds : List D) (R : D → En → Prop), ds.length = 2 → ph_law_beside ds R → t_law_beside { nx := fun ρ => R .non (maskE [false, false] ρ), rt := fun d ρ => R d (maskE [false, false] ρ) } (startE N_law_beside ds) := by
  rintro ds R _ ⟨one, two, rfl, h1, h2, hR⟩
  show t_law_beside _ [some (eCs one), some (eCs two), none, none, none, none, none, none, none, none]
  unfold t_law_beside
  walk_at "ev"
  have ⟨n1, nB, rB⟩ := h1.b
  have ⟨n1', nB', rB'⟩ := h2.b
  have hnm : one.b.length * two.b.length ≤ 100 := Nat.mul_le_mul nB nB'
  obtain ⟨m, hm⟩ : ∃ m, two.b.length = m := ⟨_, rfl⟩
  obtain ⟨tk, htk⟩ : ∃ tk : Int, (one.m.co.length : Int) = tk := ⟨_, rfl⟩
  rw [hm, htk]
  rw [hm] at hnm n1' nB'
  refine sFor_inv (fun (i : Nat) => D.int (i : Int)) (List.range (one.b.length * m)) ?r1_1 ?hi_1 (fun pre ρ => ∃ acc a b c d e, ρ = [some (eCs one), some (eCs two), some (.int tk), some (.int m), some (.own acc), a, b, c, d, e] ∧ acc = (pre.map fun (i : Nat) => pairRoom (i / m) (i % m) one.b two.b tk).map eRm) ?h0_1 ?hs_1 ?hd_1
  case hi_1 =>
    intro R hR
    walk_at "ev"
    refine ⟨.inr ⟨by omega, by omega⟩, ?_⟩
    rw [← Int.natCast_mul]
    refine ⟨by omega, by omega, ?_⟩
    rw [rangeD_eq]
    exact hR
  case h0_1 => exact ⟨_, _, _, _, _, _, rfl, rfl⟩
  case hs_1 =>
    rintro I hI pre p post ρ e ⟨acc, a, b, c, d, e', rfl, rfl⟩
    have b1 := congrArg List.length e
    simp at b1
    have hp : p ∈ List.range (one.b.length * m) := by rw [e]; simp
    rw [List.mem_range] at hp
    walk_at "ev"
    refine ⟨by omega, by omega, ?_⟩
    rw [show ((p : Int) / (m : Int)) = ((p / m : Nat) : Int) by simp, show ((p : Int) % (m : Int)) = ((p % m : Nat) : Int) by simp]
    have hi : p / m < one.b.length := Nat.div_lt_of_lt_mul (by rw [Nat.mul_comm]; exact hp)
    have hj : p % m < two.b.length := by rw [hm]; exact Nat.mod_lt _ (by omega)
    have hroom : pairRoom (p / m) (p % m) one.b two.b tk = ((one.b.getD (p / m) []).map fun s => s.map fun (a, b, c) => (a, b, c * (m : Int) + (p % m : Nat))) ++ (two.b.getD (p % m) []).map fun s => s.map fun (a, b, c) => (tk + a, b, ((p / m : Nat) : Int) * m + c) := by
      unfold pairRoom; rw [hm]
    have hlast : ((pre ++ [p]).map fun (i : Nat) => pairRoom (i / m) (i % m) one.b two.b tk).map eRm = (pre.map fun (i : Nat) => pairRoom (i / m) (i % m) one.b two.b tk).map eRm ++ [eRm (pairRoom (p / m) (p % m) one.b two.b tk)] := by simp
    rw [hroom] at hlast
    generalize p / m = i at *
    generalize p % m = j at *
    have hd1 := d_eBk hi
    have hd2 := d_eBk hj
    have hm1 : one.b.getD i [] ∈ one.b := by rw [List.getD_eq_getElem?_getD, List.getElem?_eq_getElem hi]; simp
    have hm2 : two.b.getD j [] ∈ two.b := by rw [List.getD_eq_getElem?_getD, List.getElem?_eq_getElem hj]; simp
    have l1 := rB _ hm1
    have l2 := rB' _ hm2
    generalize one.b.getD i [] = r1 at *
    generalize two.b.getD j [] = r2 at *
    obtain ⟨ac, hac⟩ : ∃ ac, (pre.map fun (i : Nat) => pairRoom (i / m) (i % m) one.b two.b tk).map eRm = ac := ⟨_, rfl⟩
    have hacl : ac.length = pre.length := by rw [← hac]; simp
    have hacp : pureL ac = true := by rw [← hac]; exact p_Rm _
    rw [hac] at hlast ⊢
    refine sFor_inv eSt r1 ?r1_2 ?hi_2 (fun pre ρ => ∃ acc a, ρ = [some (eCs one), some (eCs two), some (.int tk), some (.int m), some (.own ac), some (.int p), some (.int i), some (.int j), some (.own acc), a] ∧ acc = (pre.map fun s => s.map fun (a, b, c) => (a, b, c * (m : Int) + j)).map eSt) ?h0_2 ?hs_2 ?hd_2
    case hi_2 => intro R hR; walk_at "ev"; rw [hd1]; walk_at "ev"; exact hR
    case h0_2 => exact ⟨_, _, rfl, rfl⟩
    case hs_2 =>
      rintro I hI pre s post ρ e ⟨acc, a, rfl, rfl⟩
      have b1 := congrArg List.length e
      simp at b1
      rcases s with _ | ⟨a, b, c⟩
      · walk_at "ev"
        exact ⟨by simp; omega, hI _ _ ⟨_, _, rfl, by simp [eSt]⟩⟩
      · walk_at "ev"
        exact ⟨.inr ⟨by omega, by omega⟩, by simp; omega, hI _ _ ⟨_, _, rfl, by simp [eSt]⟩⟩
    rintro ρ ⟨acc, a, rfl, hacc⟩
    walk_at "ev"
    refine sFor_inv eSt r2 ?r1_3 ?hi_3 (fun pre ρ => ∃ acc a, ρ = [some (eCs one), some (eCs two), some (.int tk), some (.int m), some (.own ac), some (.int p), some (.int i), some (.int j), some (.own acc), a] ∧ acc = (r1.map fun s => s.map fun (a, b, c) => (a, b, c * (m : Int) + j)).map eSt ++ (pre.map fun s => s.map fun (a, b, c) => (tk + a, b, (i : Int) * m + c)).map eSt) ?h0_3 ?hs_3 ?hd_3
    case hi_3 => intro R hR; walk_at "ev"; rw [hd2]; walk_at "ev"; exact hR
    case h0_3 => exact ⟨_, _, rfl, by simp [hacc]⟩
    case hs_3 =>
      rintro I hI pre s post ρ e ⟨acc, a, rfl, rfl⟩
      have b1 := congrArg List.length e
      simp at b1
      rcases s with _ | ⟨a, b, c⟩
      · walk_at "ev"
        exact ⟨by simp; omega, hI _ _ ⟨_, _, rfl, by simp [eSt]⟩⟩
      · walk_at "ev"
        exact ⟨.inr ⟨by omega, by omega⟩, by simp; omega, hI _ _ ⟨_, _, rfl, by simp [eSt]⟩⟩
    rintro ρ ⟨acc, a, rfl, rfl⟩
    walk_at "ev"
    rw [← List.map_append]
    walk_at "ev"
    exact ⟨by omega, hI _ _ ⟨_, _, _, _, _, _, rfl, hlast.symm⟩⟩
  rintro ρ ⟨acc, a, b, c, d, e, rfl, rfl⟩
  walk_at "ev"
  refine ⟨one.m, two.m, rfl, h1.m, h2.m, ?_⟩
  walk_at "ev"
  refine ⟨one.t, two.t, rfl, h1.t, h2.t, ?_⟩
  walk_at "ev"
  unfold lawBeside lawBook at hR
  rw [hm, htk] at hR
  exact hR

theorem pf_law_take : ∀ (ds : List D) (R : D → En → Prop), ds.length = 2 → ph_law_take ds R → t_law_take { nx := fun ρ => R .non (maskE [true, false] ρ), rt := fun d ρ => R d (maskE [true, false] ρ) } (startE N_law_take ds) := by
  rintro ds R _ ⟨g, r, many, rfl, h0, h1, hR⟩
  show t_law_take _ [some (.own [.int g, .int r]), some (.int many), none, none]
  unfold t_law_take
  walk_at "ev"
  split
  · exact ⟨by omega, ⟨by omega, by omega⟩, hR _ _ _ (Int.emod_nonneg _ (by omega)) (Int.emod_lt_of_pos _ h0)⟩
  · exact ⟨.inr ⟨by omega, by omega⟩, by omega, .inr ⟨by omega, by omega⟩, by omega, .inr ⟨by omega, by omega⟩, ⟨by omega, by omega⟩, by omega, hR _ _ _ (Int.emod_nonneg _ (by omega)) (Int.emod_lt_of_pos _ h0)⟩
theorem pf_law_pick : ∀ (ds : List D) (R : D → En → Prop), ds.length = 2 → ph_law_pick ds R → t_law_pick { nx := fun ρ => R .non (maskE [true, false] ρ), rt := fun d ρ => R d (maskE [true, false] ρ) } (startE N_law_pick ds) := by
  rintro ds R _ ⟨g, r, l, rfl, hne, hlen, hR⟩
  show t_law_pick _ [some (bx g r), some (.own (l.map D.int))]
  unfold t_law_pick
  have hp : 0 < l.length := List.length_pos_iff.mpr hne
  walk_at "ev"
  refine ⟨g, r, (l.map D.int).length, rfl, by simp; omega, by simp; omega, fun i g' r' i0 i1 => ?_⟩
  obtain ⟨n, rfl⟩ := Int.eq_ofNat_of_zero_le i0
  have hn : n < l.length := by simp at i1; omega
  walk_at "ev"
  rw [atI_map (List.getElem?_eq_getElem hn)]
  walk_at "ev"
  exact hR _ _ _ (List.getElem_mem hn)
theorem pf_law_box : ∀ (ds : List D) (R : D → En → Prop), ds.length = 2 → ph_law_box ds R → t_law_box { nx := fun ρ => R .non (maskE [false, false] ρ), rt := fun d ρ => R d (maskE [false, false] ρ) } (startE N_law_box ds) := by
  rintro ds R _ ⟨ns, k, rfl, hn, hk, hR⟩
  show t_law_box _ [some (.lst (ns.map D.int)), some (.int k), none, none]
  unfold t_law_box
  walk_at "ev"
  refine ⟨.inl ⟨by omega, by omega⟩, ?_⟩
  split
  · rename_i h
    simp only [List.length_map, decide_eq_true_eq, Int.ofNat_lt] at h
    rw [atI_map (List.getElem?_eq_getElem h)]
    generalize ns[k] = v
    walk_at "ev"
    rcases Decidable.em (v < 0) with hv | hv <;> simp only [hv, ↓reduceIte]
    all_goals walk_at "box"
    all_goals exact hR _ _
  · split
    · rename_i h
      simp only [List.length_map, decide_eq_true_eq] at h
      simp only [List.length_map]
      refine ⟨h, ?_⟩
      rw [show ((k : Int) % (ns.length : Int)) = ((k % ns.length : Nat) : Int) by simp]
      have hk : k % ns.length < ns.length := Nat.mod_lt _ (by omega)
      rw [atI_map (List.getElem?_eq_getElem hk)]
      generalize ns[k % ns.length] = v
      walk_at "ev"
      refine ⟨by omega, .inr ⟨by omega, by omega⟩, ?_⟩
      rcases Decidable.em (v < 0) with hv | hv <;> simp only [hv, ↓reduceIte]
      all_goals walk_at "box"
      all_goals exact hR _ _
    · walk_at "box"
      all_goals exact hR _ _
theorem pf_law_closed : ∀ (ds : List D) (R : D → En → Prop), ds.length = 1 → ph_law_closed ds R → t_law_closed { nx := fun ρ => R .non (maskE [false] ρ), rt := fun d ρ => R d (maskE [false] ρ) } (startE N_law_closed ds) := by
  rintro ds R _ ⟨p, rfl, hp, hsq, hR⟩
  show t_law_closed _ [some (.lst (p.map eRow)), none, none, none, none, none, none]
  unfold t_law_closed
  obtain ⟨n, hn⟩ : ∃ n, p.length = n := ⟨_, rfl⟩
  walk_at "ev"
  simp only [List.length_map, hn]
  refine xComp_run eRow p (fun r => some (.own (r.map D.int))) ?r1_1 ?hi_1 ?hl_1 ?hb_1 ?hq_1
  case hi_1 => intro R hR; walk_at "ev"; exact hR
  case hl_1 => omega
  case hb_1 =>
    intro r hr N hN
    walk_at "ev"
    exact hN
  rw [show (p.filterMap fun r => some (D.own (r.map D.int))) = p.map fun r => .own (r.map D.int) by simp [List.filterMap_eq_map, Function.comp_def]]
  walk_at "ev"
  rw [hn] at hp hsq
  refine sFor_inv (fun (i : Nat) => D.int (i : Int)) (List.range n) ?r1_2 ?hi_2 (fun pre ρ => ∃ (q : List (List Int)) (a b c : Option D), ρ = [some (.lst (p.map eRow)), some (.int n), some (.own (q.map fun r => .own (r.map D.int))), a, b, c, none] ∧ q.length = n ∧ ∀ r ∈ q, r.length = n) ?h0_2 ?hs_2 ?hd_2
  case hi_2 =>
    intro R hR
    walk_at "ev"
    refine ⟨by omega, by omega, ?_⟩
    rw [rangeD_eq]
    exact hR
  case h0_2 => exact ⟨p, _, _, _, rfl, hn, hsq⟩
  case hs_2 =>
    rintro I hI pre k post ρ e ⟨q, a, b, c, rfl, q1, q2⟩
    have hk : k ∈ List.range n := by rw [e]; simp
    rw [List.mem_range] at hk
    walk_at "ev"
    refine sFor_inv (fun (i : Nat) => D.int (i : Int)) (List.range n) ?r1_3 ?hi_3 (fun pre ρ => ∃ (q : List (List Int)) (b c : Option D), ρ = [some (.lst (p.map eRow)), some (.int n), some (.own (q.map fun r => .own (r.map D.int))), some (.int k), b, c, none] ∧ q.length = n ∧ ∀ r ∈ q, r.length = n) ?h0_3 ?hs_3 ?hd_3
    case hi_3 =>
      intro R hR
      walk_at "ev"
      refine ⟨by omega, by omega, ?_⟩
      rw [rangeD_eq]
      exact hR
    case h0_3 => exact ⟨q, _, _, rfl, q1, q2⟩
    case hs_3 =>
      rintro I2 hI2 pre i post ρ e2 ⟨q, b, c, rfl, q1, q2⟩
      have hi : i ∈ List.range n := by rw [e2]; simp
      rw [List.mem_range] at hi
      walk_at "ev"
      refine sFor_inv (fun (i : Nat) => D.int (i : Int)) (List.range n) ?r1_4 ?hi_4 (fun pre ρ => ∃ (q : List (List Int)) (c : Option D), ρ = [some (.lst (p.map eRow)), some (.int n), some (.own (q.map fun r => .own (r.map D.int))), some (.int k), some (.int i), c, none] ∧ q.length = n ∧ ∀ r ∈ q, r.length = n) ?h0_4 ?hs_4 ?hd_4
      case hi_4 =>
        intro R hR
        walk_at "ev"
        refine ⟨by omega, by omega, ?_⟩
        rw [rangeD_eq]
        exact hR
      case h0_4 => exact ⟨q, _, rfl, q1, q2⟩
      case hs_4 =>
        rintro I3 hI3 pre j post ρ e3 ⟨q, c, rfl, q1, q2⟩
        have hj : j ∈ List.range n := by rw [e3]; simp
        rw [List.mem_range] at hj
        have hi' : i < q.length := by omega
        have hk' : k < q.length := by omega
        have ri := q2 q[i] (List.getElem_mem hi')
        have rk := q2 q[k] (List.getElem_mem hk')
        walk_at "ev"
        rw [atI_map (List.getElem?_eq_getElem hi'), atI_map (List.getElem?_eq_getElem hk')]
        walk_at "ev"
        rw [atI_map (List.getElem?_eq_getElem (show j < q[i].length by omega)), atI_map (List.getElem?_eq_getElem (show k < q[i].length by omega)), atI_map (List.getElem?_eq_getElem (show j < q[k].length by omega))]
        walk_at "ev"
        generalize (if q[i][k] + q[k][j] < q[i][j] then q[i][k] + q[k][j] else q[i][j]) = v
        refine ⟨_, _, i, q[i].map D.int, rfl, rfl, ixN_nat (by simp; omega), by rw [List.getElem?_map, List.getElem?_eq_getElem hi']; rfl, pureL_int _, (q[i].set j v).map D.int, setAt_map (by omega), ?_⟩
        refine hI3 _ _ ⟨q.set i (q[i].set j v), some (.int j), by simp [List.map_set], by simp [q1], ?_⟩
        intro r hr
        rcases List.mem_or_eq_of_mem_set hr with h | h
        · exact q2 r h
        · rw [h, List.length_set]; exact ri
      case hd_4 =>
        rintro ρ ⟨q, c, rfl, q1, q2⟩
        exact hI2 _ _ ⟨q, _, _, rfl, q1, q2⟩
    case hd_3 =>
      rintro ρ ⟨q, b, c, rfl, q1, q2⟩
      exact hI _ _ ⟨q, _, _, _, rfl, q1, q2⟩
  rintro ρ ⟨q, a, b, c, rfl, q1, q2⟩
  walk_at "ev"
  have hv : viewL (q.map fun r => D.own (r.map D.int)) = q.map fun r => .lst (r.map D.int) := by
    rw [viewL_map]; simp [D.view, w_int]
  rw [hv]
  refine xComp_run (fun r => .lst (r.map D.int)) q (fun r => some (eRow r)) ?r1_5 ?hi_5 ?hl_5 ?hb_5 ?hq_5
  case hi_5 =>
    intro R hR
    walk_at "ev"
    refine ⟨?_, ?_⟩
    · rw [pureL_iff]
      intro d hd
      obtain ⟨r, _, rfl⟩ := List.mem_map.mp hd
      simp [D.pure, pureL_int]
    · exact hR
  case hl_5 => omega
  case hb_5 =>
    intro r hr N hN
    walk_at "ev"
    exact hN
  rw [show (q.filterMap fun r => some (eRow r)) = q.map eRow by simp [List.filterMap_eq_map, Function.comp_def]]
  walk_at "ev"
  exact hR q (by omega) (by rw [hn]; exact q2)

theorem pf_law_ring : ∀ (ds : List D) (R : D → En → Prop), ds.length = 1 → ph_law_ring ds R → t_law_ring { nx := fun ρ => R .non (maskE [false] ρ), rt := fun d ρ => R d (maskE [false] ρ) } (startE N_law_ring ds) := by
  rintro ds R _ ⟨l, rfl, hl, hR⟩
  show t_law_ring _ [some (.lst (l.map e3)), none, none, none, none]
  unfold t_law_ring
  walk_at "ev"
  refine xComp_run e3 l (fun p => some (eCoR [some p.1])) ?r1_1 ?hi_1 ?hl_1 ?hb_1 ?hq_1
  case hi_1 => intro R hR; walk_at "ev"; exact hR
  case hl_1 => omega
  case hb_1 =>
    intro r hr N hN
    walk_at "ev"
    exact hN
  rw [show (l.filterMap fun p => some (eCoR [some p.1])) = (l.map fun p => [some p.1]).map eCoR by simp [List.filterMap_eq_map, Function.comp_def]]
  walk_at "ev"
  refine xComp_run e3 l (fun p => some (eCoR [some p.2.1])) ?r1_2 ?hi_2 ?hl_2 ?hb_2 ?hq_2
  case hi_2 => intro R hR; walk_at "ev"; exact hR
  case hl_2 => omega
  case hb_2 =>
    intro r hr N hN
    walk_at "ev"
    exact hN
  rw [show (l.filterMap fun p => some (eCoR [some p.2.1])) = (l.map fun p => [some p.2.1]).map eCoR by simp [List.filterMap_eq_map, Function.comp_def]]
  walk_at "ev"
  refine xComp_run (fun q : (Int × Int × Int) × Nat => .tup [.int q.2, e3 q.1]) l.zipIdx (fun q => some (eSt (some ((q.2 : Int), q.1.2.2, 0)))) ?r1_3 ?hi_3 ?hl_3 ?hb_3 ?hq_3
  case hi_3 =>
    intro R hR
    walk_at "ev"
    rw [List.zipIdx_map, List.map_map]
    exact hR
  case hl_3 => simp; omega
  case hb_3 =>
    intro r hr N hN
    walk_at "ev"
    exact hN
  rw [show (l.zipIdx.filterMap fun q => some (eSt (some ((q.2 : Int), q.1.2.2, 0)))) = (l.zipIdx.map fun q => some ((q.2 : Int), q.1.2.2, 0)).map eSt by simp [List.filterMap_eq_map, Function.comp_def]]
  walk_at "ev"
  exact hR
theorem pf_law_same (k : Nat) : ∀ (ds : List D) (R : D → En → Prop), ds.length = 2 → ph_same (k + 1) ds R → t_law_same (ph_same k) { nx := fun ρ => R .non (maskE [false, false] ρ), rt := fun d ρ => R d (maskE [false, false] ρ) } (startE N_law_same ds) := by
  rintro ds R _ ⟨x, rfl, hp, hl, hR⟩
  show t_law_same _ _ [some x, some x, none, none]
  unfold t_law_same
  cases x with
  | non => walk_at "ev"; exact hR
  | int i => walk_at "ev"; simp only [decide_true]; exact hR
  | tup l =>
    walk_at "ev"
    simp only [decide_true]
    walk_at "ev"
    refine sFor_inv (fun x => D.tup [x, x]) l ?r1_4 ?hi_4 (fun pre ρ => ∃ a b, ρ = [some (.tup l), some (.tup l), a, b]) ?h0_4 ?hs_4 ?hd_4
    case hi_4 =>
      intro R hR
      refine ⟨_, rfl, _, rfl, l, l, .inl rfl, ?_⟩
      rw [zip_same]
      exact hR
    case h0_4 => exact ⟨_, _, rfl⟩
    case hs_4 =>
      rintro I hI pre y post ρ e ⟨a, b, rfl⟩
      have hm : y ∈ l := by rw [e]; simp
      have hy : y.lf = true := lfL_iff.mp (by simpa [D.lf] using hl) y hm
      have hyv := v_lf hy
      walk_at "ev"
      rw [hyv]
      refine ⟨y, rfl, hp.2 y hm, hy, ?_⟩
      walk_at "ev"
      exact hI _ _ ⟨_, _, rfl⟩
    rintro ρ ⟨a, b, rfl⟩
    walk_at "ev"
    exact hR
  | _ => simp [plain] at hp
theorem pf_law_same0 : ∀ (ds : List D) (R : D → En → Prop), ds.length = 2 → ph_same 0 ds R → t_law_same (fun _ _ => False) { nx := fun ρ => R .non (maskE [false, false] ρ), rt := fun d ρ => R d (maskE [false, false] ρ) } (startE N_law_same ds) := by
  rintro ds R _ ⟨x, rfl, hp, hl, hR⟩
  show t_law_same _ _ [some x, some x, none, none]
  unfold t_law_same
  cases x with
  | non => walk_at "ev"; exact hR
  | int i => walk_at "ev"; simp only [decide_true]; exact hR
  | _ => simp [plain] at hp

theorem eqNil_int (l : List Int) : ∃ k, fEqD (.own (l.map D.int)) (.own []) = some (.bl k) := eqNil fun d hd => by
  obtain ⟨i, _, rfl⟩ := List.mem_map.mp hd
  exact ⟨rfl, by simp [D.toP, PyData.canLay0], by simp [D.toP, PyData.depth]⟩
theorem eqNil_St (l : List (Int × Int × Int)) : ∃ k, fEqD (.own (l.map fun p => eSt (some p))) (.own []) = some (.bl k) := eqNil fun d hd => by
  obtain ⟨⟨a, b, c⟩, _, rfl⟩ := List.mem_map.mp hd
  exact ⟨rfl, by simp [eSt, D.toP, toPs, PyData.canLay0, PyData.canLayAll0], by simp [eSt, D.toP, toPs, PyData.depth, PyData.depthAll]⟩
theorem pf_law_service : ∀ (ds : List D) (R : D → En → Prop), ds.length = 5 → ph_law_service ds R → t_law_service { nx := fun ρ => R .non (maskE [true, false, false, false, false] ρ), rt := fun d ρ => R d (maskE [true, false, false, false, false] ρ) } (startE N_law_service ds) := by
  rintro ds R _ ⟨g, r, st, tk, dear, bars, rfl, s1, s2, t2, d1, d2, b1, b2, hR⟩
  show t_law_service _ [some (bx g r), some (.int st), some (.int tk), some (.int dear), some (.int bars), none, none, none, none, none, none]
  unfold t_law_service
  walk_at "ev"
  refine sFor_inv (fun (i : Nat) => D.int (i : Int)) (List.range st) ?r1_1 ?hi_1 (fun pre ρ => ∃ (g r : Int) (p : List (List Int)) (acc : List D) (a b c : Option D), ρ = [some (bx g r), some (.int st), some (.int tk), some (.int dear), some (.int bars), some (.own acc), a, none, b, none, c] ∧ acc = p.map eRow ∧ p.length = pre.length ∧ ∀ x ∈ p, x.length = st) ?h0_1 ?hs_1 ?hd_1
  case hi_1 =>
    intro R hR
    walk_at "ev"
    refine ⟨by omega, by omega, ?_⟩
    rw [rangeD_eq]
    exact hR
  case h0_1 => exact ⟨_, _, [], _, _, _, _, rfl, rfl, rfl, by simp⟩
  case hs_1 =>
    rintro I hI pre i post ρ e ⟨g, r, p, acc, a, b, c, rfl, rfl, p1, p2⟩
    have be := congrArg List.length e
    simp at be
    walk_at "ev"
    refine xCompM_inv (fun (i : Nat) => D.int (i : Int)) (List.range st) ?r1_2 ?hi_2 (fun pre acc ρ => ∃ (g r : Int) (row : List Int), ρ = [some (bx g r), some (.int st), some (.int tk), some (.int dear), some (.int bars), some (.own (p.map eRow)), some (.int i), none, b, none, none] ∧ acc = row.map D.int ∧ row.length = pre.length) ?h0_2 ?hs_2 ?hq_2
    case hi_2 =>
      intro R hR
      walk_at "ev"
      refine ⟨by omega, by omega, ?_⟩
      rw [rangeD_eq]
      exact hR
    case h0_2 => exact ⟨g, r, [], rfl, rfl, rfl⟩
    case hs_2 =>
      rintro I2 hI2 pre2 j post2 acc ρ e2 ⟨g, r, row, rfl, rfl, a3⟩
      have be2 := congrArg List.length e2
      simp at be2
      walk_at "ev"
      split
      · exact ⟨by simp; omega, hI2 _ _ _ ⟨g, r, row ++ [0], rfl, by simp, by simp [a3]⟩⟩
      · refine ⟨g, r, _, rfl, by omega, by omega, fun v g' r' v0 v1 => ?_⟩
        walk_at "ev"
        exact ⟨by simp; omega, hI2 _ _ _ ⟨g', r', row ++ [v], rfl, by simp, by simp [a3]⟩⟩
    case hq_2 =>
      rintro acc ρ ⟨g, r, row, rfl, rfl, a3⟩
      walk_at "ev"
      refine ⟨by simp; omega, hI _ _ ⟨g, r, p ++ [row], _, _, _, _, rfl, by simp [eRow], by simp [p1], ?_⟩⟩
      intro x hx
      rcases List.mem_append.mp hx with h | h
      · exact p2 x h
      · simp at h; rw [h, a3]; simp
  rintro ρ ⟨g, r, p, acc, a, b, c, rfl, rfl, p1, p2⟩
  simp only [List.length_range] at p1
  walk_at "ev"
  refine sFor_inv (fun (i : Nat) => D.int (i : Int)) (List.range tk) ?r1_3 ?hi_3 (fun pre ρ => ∃ (g r : Int) (cs : List (List (Option Int))) (acc : List D) (a b c d : Option D), ρ = [some (bx g r), some (.int st), some (.int tk), some (.int dear), some (.int bars), some (.lst (p.map eRow)), a, some (.own acc), b, c, d] ∧ acc = cs.map eCoR ∧ cs.length = pre.length ∧ ∀ x ∈ cs, x.length = st) ?h0_3 ?hs_3 ?hd_3
  case hi_3 =>
    intro R hR
    walk_at "ev"
    refine ⟨by omega, by omega, ?_⟩
    rw [rangeD_eq]
    exact hR
  case h0_3 => exact ⟨_, _, [], _, _, _, _, _, rfl, rfl, rfl, by simp⟩
  case hs_3 =>
    rintro I hI pre i post ρ e ⟨g, r, cs, acc, a, b, c, d, rfl, rfl, p3, p4⟩
    have be := congrArg List.length e
    simp at be
    walk_at "ev"
    refine xCompM_inv eRow p ?r1_4 ?hi_4 (fun pre acc ρ => ∃ (g r : Int) (row : List (Option Int)), ρ = [some (bx g r), some (.int st), some (.int tk), some (.int dear), some (.int bars), some (.lst (p.map eRow)), none, some (.own (cs.map eCoR)), some (.int i), c, d] ∧ acc = row.map eO ∧ row.length = pre.length) ?h0_4 ?hs_4 ?hq_4
    case hi_4 => intro R hR; walk_at "ev"; exact hR
    case h0_4 => exact ⟨g, r, [], rfl, rfl, rfl⟩
    case hs_4 =>
      rintro I2 hI2 pre2 j post2 acc ρ e2 ⟨g, r, row, rfl, rfl, a3⟩
      have be2 := congrArg List.length e2
      simp at be2
      walk_at "ev"
      refine ⟨g, r, _, rfl, by omega, by omega, fun v g' r' v0 v1 => ?_⟩
      walk_at "ev"
      split
      · exact ⟨by simp; omega, hI2 _ _ _ ⟨g', r', row ++ [none], rfl, by simp [eO], by simp [a3]⟩⟩
      · refine ⟨g', r', _, rfl, by omega, by omega, fun v1 g2 r2 v2 v3 => ?_⟩
        walk_at "ev"
        refine ⟨g2, r2, [0, 1, v1], rfl, by simp, by simp, fun v4 g3 r3 v5 => ?_⟩
        walk_at "ev"
        exact ⟨by simp; omega, hI2 _ _ _ ⟨g3, r3, row ++ [some v4], rfl, by simp [eO], by simp [a3]⟩⟩
    case hq_4 =>
      rintro acc ρ ⟨g, r, row, rfl, rfl, a3⟩
      walk_at "ev"
      refine xComp_run eO row (fun o => o.map D.int) ?r1_5 ?hi_5 ?hl_5 ?hb_5 ?hq_5
      case hi_5 => intro R hR; walk_at "ev"; exact hR
      case hl_5 => omega
      case hb_5 =>
        intro o ho N hN
        rcases o with _ | o
        · walk_at "ev"
          exact hN
        · walk_at "ev"
          exact hN
      rw [show (row.filterMap fun o => o.map D.int) = (row.filterMap id).map D.int by rw [List.map_filterMap]; simp]
      obtain ⟨k, hk⟩ := eqNil_int (row.filterMap id)
      walk_at "ev"
      rw [hk]
      walk_at "ev"
      have hcl : cs.length < 1000000 := by omega
      have hrw : row.length = st := by omega
      have fin : ∀ (cs' : List (List (Option Int))) (x : List (Option Int)), cs' = cs ++ [x] → x.length = st → cs'.length = (pre ++ [i]).length ∧ ∀ x ∈ cs', x.length = st := by
        rintro cs' x rfl hx
        refine ⟨by simp [p3], fun y hy => ?_⟩
        rcases List.mem_append.mp hy with h | h
        · exact p4 y h
        · simp at h; rw [h, hx]
      split
      · refine ⟨g, r, _, rfl, by omega, by omega, fun v g2 r2 v0 v1 => ?_⟩
        walk_at "ev"
        refine ⟨g2, r2, _, rfl, by omega, by omega, fun v2 g3 r3 v3 v4 => ?_⟩
        obtain ⟨n, rfl⟩ := Int.eq_ofNat_of_zero_le v3
        walk_at "ev"
        refine ⟨_, setAt_map (enc := eO) (a := some v) (by omega), ?_⟩
        walk_at "ev"
        refine ⟨by simp; omega, ?_⟩
        exact hI _ _ ⟨g3, r3, cs ++ [row.set n (some v)], _, _, _, _, _, rfl, by simp [eCoR], (fin _ _ rfl (by simp [hrw]))⟩
      · refine ⟨by simp; omega, ?_⟩
        exact hI _ _ ⟨g, r, cs ++ [row], _, _, _, _, _, rfl, by simp [eCoR], (fin _ _ rfl hrw)⟩
  rintro ρ ⟨g, r, cs, acc, a, b, c, d, rfl, rfl, p3, p4⟩
  simp only [List.length_range] at p3
  walk_at "ev"
  refine ⟨p, rfl, by omega, by rw [p1]; exact p2, fun q q1 q2 => ?_⟩
  walk_at "ev"
  exact hR ⟨q, cs⟩ _ _ (by show q.length = st; omega) (by rw [← p1]; exact q2) p3 p4

theorem pf_law_book : ∀ (ds : List D) (R : D → En → Prop), ds.length = 5 → ph_law_book ds R → t_law_book { nx := fun ρ => R .non (maskE [true, false, false, false, false] ρ), rt := fun d ρ => R d (maskE [true, false, false, false, false] ρ) } (startE N_law_book ds) := by
  rintro ds R _ ⟨g, r, rooms, signs, tasks, worst, rfl, r1, r2, s1, s2, t1, t2, w1, w2, hR⟩
  show t_law_book _ [some (bx g r), some (.int rooms), some (.int signs), some (.int tasks), some (.int worst), none, none, none, none, none, none]
  unfold t_law_book
  walk_at "ev"
  refine sFor_inv (fun (i : Nat) => D.int (i : Int)) (List.range rooms) ?r1_1 ?hi_1 (fun pre ρ => ∃ (g r : Int) (bk : Bk) (acc : List D) (a b c d e : Option D), ρ = [some (bx g r), some (.int rooms), some (.int signs), some (.int tasks), some (.int worst), some (.own acc), a, b, c, d, e] ∧ acc = bk.map eRm ∧ bk.length = pre.length ∧ ∀ x ∈ bk, x.length = signs) ?h0_1 ?hs_1 ?hd_1
  case hi_1 =>
    intro R hR
    walk_at "ev"
    refine ⟨by omega, by omega, ?_⟩
    rw [rangeD_eq]
    exact hR
  case h0_1 => exact ⟨_, _, [], _, _, _, _, _, _, rfl, rfl, rfl, by simp⟩
  case hs_1 =>
    rintro I hI pre i post ρ e ⟨g, r, bk, acc, a, b, c, d, e', rfl, rfl, p1, p2⟩
    have be := congrArg List.length e
    simp at be
    walk_at "ev"
    refine sFor_inv (fun (i : Nat) => D.int (i : Int)) (List.range signs) ?r1_2 ?hi_2 (fun pre ρ => ∃ (g r : Int) (row : List Stp) (acc : List D) (c d e : Option D), ρ = [some (bx g r), some (.int rooms), some (.int signs), some (.int tasks), some (.int worst), some (.own (bk.map eRm)), some (.int i), some (.own acc), c, d, e] ∧ acc = row.map eSt ∧ row.length = pre.length) ?h0_2 ?hs_2 ?hd_2
    case hi_2 =>
      intro R hR
      walk_at "ev"
      refine ⟨by omega, by omega, ?_⟩
      rw [rangeD_eq]
      exact hR
    case h0_2 => exact ⟨_, _, [], _, _, _, _, rfl, rfl, rfl⟩
    case hs_2 =>
      rintro I2 hI2 pre2 j post2 ρ e2 ⟨g, r, row, acc, c, d, e', rfl, rfl, a3⟩
      have be2 := congrArg List.length e2
      simp at be2
      walk_at "ev"
      split
      · refine ⟨g, r, _, rfl, by omega, by omega, fun v g2 r2 v0 v1 => ?_⟩
        walk_at "ev"
        refine ⟨g2, r2, [0, 0, 0, 1, v], rfl, by simp, by simp, fun wr g3 r3 v5 => ?_⟩
        walk_at "ev"
        refine ⟨g3, r3, _, rfl, by omega, by omega, fun v6 g4 r4 v7 v8 => ?_⟩
        walk_at "ev"
        split
        · refine ⟨g4, r4, _, rfl, by omega, by omega, fun tt g5 r5 v9 v10 => ?_⟩
          walk_at "ev"
          refine ⟨g5, r5, _, rfl, by omega, by omega, fun rr g6 r6 v11 v12 => ?_⟩
          walk_at "ev"
          exact ⟨by simp; omega, hI2 _ _ ⟨g6, r6, row ++ [some (tt, wr, rr)], _, _, _, _, rfl, by simp [eSt], by simp [a3]⟩⟩
        · exact ⟨by simp; omega, hI2 _ _ ⟨g4, r4, row ++ [none], _, _, _, _, rfl, by simp [eSt], by simp [a3]⟩⟩
      · refine ⟨g, r, _, rfl, by omega, by omega, fun v6 g4 r4 v7 v8 => ?_⟩
        walk_at "ev"
        split
        · refine ⟨g4, r4, _, rfl, by omega, by omega, fun tt g5 r5 v9 v10 => ?_⟩
          walk_at "ev"
          refine ⟨g5, r5, _, rfl, by omega, by omega, fun rr g6 r6 v11 v12 => ?_⟩
          walk_at "ev"
          exact ⟨by simp; omega, hI2 _ _ ⟨g6, r6, row ++ [some (tt, 0, rr)], _, _, _, _, rfl, by simp [eSt], by simp [a3]⟩⟩
        · exact ⟨by simp; omega, hI2 _ _ ⟨g4, r4, row ++ [none], _, _, _, _, rfl, by simp [eSt], by simp [a3]⟩⟩
    rintro ρ ⟨g, r, row, acc, c, d, e', rfl, rfl, a3⟩
    simp only [List.length_range] at a3
    walk_at "ev"
    have fin : ∀ (bk' : Bk) (x : List Stp), bk' = bk ++ [x] → x.length = signs → bk'.length = (pre ++ [i]).length ∧ ∀ x ∈ bk', x.length = signs := by
      rintro bk' x rfl hx
      refine ⟨by simp [p1], fun y hy => ?_⟩
      rcases List.mem_append.mp hy with h | h
      · exact p2 y h
      · simp at h; rw [h, hx]
    split
    · refine xComp_run eSt row (fun o => o.map fun p => eSt (some p)) ?r1_3 ?hi_3 ?hl_3 ?hb_3 ?hq_3
      case hi_3 => intro R hR; walk_at "ev"; exact hR
      case hl_3 => omega
      case hb_3 =>
        intro o ho N hN
        rcases o with _ | ⟨o1, o2, o3⟩
        · walk_at "ev"
          exact hN
        · walk_at "ev"
          exact hN
      rw [show (row.filterMap fun o => o.map fun p => eSt (some p)) = (row.filterMap id).map fun p => eSt (some p) by rw [List.map_filterMap]; simp]
      obtain ⟨k, hk⟩ := eqNil_St (row.filterMap id)
      walk_at "ev"
      rw [hk]
      walk_at "ev"
      split
      · refine ⟨g, r, _, rfl, by omega, by omega, fun v g2 r2 v0 v1 => ?_⟩
        walk_at "ev"
        refine ⟨g2, r2, _, rfl, by omega, by omega, fun v2 g3 r3 v3 v4 => ?_⟩
        obtain ⟨n, rfl⟩ := Int.eq_ofNat_of_zero_le v3
        walk_at "ev"
        refine ⟨_, setAt_map (enc := eSt) (a := some (v, 0, 0)) (by omega), ?_⟩
        walk_at "ev"
        refine ⟨by simp; omega, ?_⟩
        exact hI _ _ ⟨g3, r3, bk ++ [row.set n (some (v, 0, 0))], _, _, _, _, _, _, rfl, by simp [eRm], (fin _ _ rfl (by simp [a3]))⟩
      · refine ⟨by simp; omega, ?_⟩
        exact hI _ _ ⟨g, r, bk ++ [row], _, _, _, _, _, _, rfl, by simp [eRm], (fin _ _ rfl a3)⟩
    · refine ⟨by simp; omega, ?_⟩
      exact hI _ _ ⟨g, r, bk ++ [row], _, _, _, _, _, _, rfl, by simp [eRm], (fin _ _ rfl a3)⟩
  rintro ρ ⟨g, r, bk, acc, a, b, c, d, e, rfl, rfl, p1, p2⟩
  simp only [List.length_range] at p1
  walk_at "ev"
  exact hR bk _ _ p1 p2

theorem wfS_of {B st tk : Nat} {s : Sv} (h1 : 1 ≤ st) (hB : st ≤ B) (tB : tk ≤ B) (a : s.pr.length = st) (b : ∀ x ∈ s.pr, x.length = st) (c : s.co.length = tk) (d : ∀ x ∈ s.co, x.length = st) : WfS B s :=
  ⟨by omega, by omega, by rw [a]; exact b, by omega, by rw [a]; exact d⟩
theorem wfB_of {B rooms signs : Nat} {b : Bk} (h1 : 1 ≤ rooms) (hB : rooms ≤ B) (sB : signs ≤ B) (a : b.length = rooms) (c : ∀ x ∈ b, x.length = signs) : WfB B b :=
  ⟨by omega, by omega, fun r hr => by rw [c r hr]; exact sB⟩
theorem pf_law_case : ∀ (ds : List D) (R : D → En → Prop), ds.length = 5 → ph_law_case ds R → t_law_case { nx := fun ρ => R .non (maskE [true, false, false, false, false] ρ), rt := fun d ρ => R d (maskE [true, false, false, false, false] ρ) } (startE N_law_case ds) := by
  rintro ds R _ ⟨g, r, B, st, rooms, signs, dear, rfl, s1, s2, r1, r2, n1, n2, b3, b10, d1, d2, hR⟩
  show t_law_case _ [some (bx g r), some (.int st), some (.int rooms), some (.int signs), some (.int dear), none, none, none]
  unfold t_law_case
  walk_at "ev"
  refine ⟨g, r, _, rfl, by omega, by omega, fun v g r v0 v1 => ?_⟩
  obtain ⟨tk0, rfl⟩ := Int.eq_ofNat_of_zero_le v0
  obtain ⟨tk, htk⟩ : ∃ tk : Nat, 1 + (tk0 : Int) = (tk : Int) := ⟨tk0 + 1, by omega⟩
  walk_at "ev"
  rw [htk]
  refine ⟨g, r, _, rfl, by omega, by omega, fun v g r v2 v3 => ?_⟩
  obtain ⟨sa, rfl⟩ := Int.eq_ofNat_of_zero_le v2
  obtain ⟨sb, hsb⟩ : ∃ sb : Nat, 1 + (sa : Int) = (sb : Int) := ⟨sa + 1, by omega⟩
  walk_at "ev"
  rw [hsb]
  refine ⟨g, r, [2, 3, 9], rfl, by simp, by simp, fun bars g r hb => ?_⟩
  have hbars : 0 < bars ∧ bars ≤ 1000 := by simp at hb; omega
  walk_at "ev"
  refine ⟨g, r, sb, tk, dear, bars, rfl, by omega, by omega, by omega, d1, d2, hbars.1, hbars.2, fun m g r m1 m2 m3 m4 => ?_⟩
  have wm : WfS B m := wfS_of (by omega) (by omega) (by omega) m1 m2 m3 m4
  walk_at "ev"
  have tail : ∀ (g r : Int) (t : Sv), WfS B t → (fun ρ => sRet (xTup (xsC (xP (xV 6)) (xsC (xP (xV 7)) (xsC (xCallM 5 ph_law_book [some 0, none, none, none, none] (xsI 0 (xsC (xBin fAdd (xC (.int 1)) (xCallM 2 ph_law_take [some 0, none] (xsI 0 (xsC (xP (xV 2)) xsN)))) (xsC (xBin fAdd (xC (.int 1)) (xCallM 2 ph_law_take [some 0, none] (xsI 0 (xsC (xP (xV 3)) xsN)))) (xsC (xP (xV 5)) (xsC (xC (.int 2)) xsN)))))) xsN)))) { nx := fun ρ => R .non (maskE [true, false, false, false, false] ρ), rt := fun d ρ => R d (maskE [true, false, false, false, false] ρ) } ρ) [some (bx g r), some (.int st), some (.int rooms), some (.int signs), some (.int dear), some (.int tk), some (eSv m), some (eSv t)] := by
    intro g r t wt
    walk_at "ev"
    refine ⟨g, r, _, rfl, by omega, by omega, fun v g r v4 v5 => ?_⟩
    obtain ⟨ra, rfl⟩ := Int.eq_ofNat_of_zero_le v4
    obtain ⟨rb, hrb⟩ : ∃ rb : Nat, 1 + (ra : Int) = (rb : Int) := ⟨ra + 1, by omega⟩
    walk_at "ev"
    rw [hrb]
    refine ⟨g, r, _, rfl, by omega, by omega, fun v g r v6 v7 => ?_⟩
    obtain ⟨na, rfl⟩ := Int.eq_ofNat_of_zero_le v6
    obtain ⟨nb, hnb⟩ : ∃ nb : Nat, 1 + (na : Int) = (nb : Int) := ⟨na + 1, by omega⟩
    walk_at "ev"
    rw [hnb]
    refine ⟨g, r, rb, nb, tk, 2, rfl, by omega, by omega, by omega, by omega, by omega, by omega, by omega, by omega, fun b g r b1 b2 => ?_⟩
    walk_at "ev"
    exact hR ⟨m, t, b⟩ _ _ ⟨wm, wt, wfB_of (by omega) (by omega) (by omega) b1 b2⟩
  have second : ∀ (g r : Int) (Q : D → En → Prop), (∀ (g r : Int) (t : Sv), WfS B t → Q (eSv t) [some (bx g r), some (.int st), some (.int rooms), some (.int signs), some (.int dear), some (.int tk), some (eSv m), some (eSv m)]) → xCallM 5 ph_law_service [some 0, none, none, none, none] (xsI 0 (xsC (xBin fAdd (xC (.int 1)) (xCallM 2 ph_law_take [some 0, none] (xsI 0 (xsC (xC (.int 2)) xsN)))) (xsC (xP (xV 5)) (xsC (xP (xV 4)) (xsC (xCallM 2 ph_law_pick [some 0, none] (xsI 0 (xsC (xLst (xsC (xC (.int 2)) (xsC (xC (.int 3)) (xsC (xC (.int 9)) xsN)))) xsN))) xsN))))) [some (bx g r), some (.int st), some (.int rooms), some (.int signs), some (.int dear), some (.int tk), some (eSv m), some (eSv m)] Q := by
    intro g r Q hQ
    walk_at "ev"
    refine ⟨g, r, _, rfl, by omega, by omega, fun v g r v2 v3 => ?_⟩
    obtain ⟨sa, rfl⟩ := Int.eq_ofNat_of_zero_le v2
    obtain ⟨sb, hsb⟩ : ∃ sb : Nat, 1 + (sa : Int) = (sb : Int) := ⟨sa + 1, by omega⟩
    walk_at "ev"
    rw [hsb]
    refine ⟨g, r, [2, 3, 9], rfl, by simp, by simp, fun bars g r hb => ?_⟩
    have hbars : 0 < bars ∧ bars ≤ 1000 := by simp at hb; omega
    walk_at "ev"
    refine ⟨g, r, sb, tk, dear, bars, rfl, by omega, by omega, by omega, d1, d2, hbars.1, hbars.2, fun t g r m1 m2 m3 m4 => ?_⟩
    have wt : WfS B t := wfS_of (by omega) (by omega) (by omega) m1 m2 m3 m4
    walk_at "ev"
    exact hQ g r t wt
  refine ⟨g, r, _, rfl, by omega, by omega, fun v g r v2 v3 => ?_⟩
  walk_at "ev"
  split
  · have := second g r (fun d ρ => 7 < ρ.length ∧ (fun ρ => sRet (xTup (xsC (xP (xV 6)) (xsC (xP (xV 7)) (xsC (xCallM 5 ph_law_book [some 0, none, none, none, none] (xsI 0 (xsC (xBin fAdd (xC (.int 1)) (xCallM 2 ph_law_take [some 0, none] (xsI 0 (xsC (xP (xV 2)) xsN)))) (xsC (xBin fAdd (xC (.int 1)) (xCallM 2 ph_law_take [some 0, none] (xsI 0 (xsC (xP (xV 3)) xsN)))) (xsC (xP (xV 5)) (xsC (xC (.int 2)) xsN)))))) xsN)))) { nx := fun ρ => R .non (maskE [true, false, false, false, false] ρ), rt := fun d ρ => R d (maskE [true, false, false, false, false] ρ) } ρ) (ρ.set 7 (some d))) fun g r t wt => ⟨by simp, tail g r t wt⟩
    revert this
    walk_at "ev"
    try exact fun h => h
  · split
    · have := second g r (fun d ρ => 7 < ρ.length ∧ (fun ρ => sRet (xTup (xsC (xP (xV 6)) (xsC (xP (xV 7)) (xsC (xCallM 5 ph_law_book [some 0, none, none, none, none] (xsI 0 (xsC (xBin fAdd (xC (.int 1)) (xCallM 2 ph_law_take [some 0, none] (xsI 0 (xsC (xP (xV 2)) xsN)))) (xsC (xBin fAdd (xC (.int 1)) (xCallM 2 ph_law_take [some 0, none] (xsI 0 (xsC (xP (xV 3)) xsN)))) (xsC (xP (xV 5)) (xsC (xC (.int 2)) xsN)))))) xsN)))) { nx := fun ρ => R .non (maskE [true, false, false, false, false] ρ), rt := fun d ρ => R d (maskE [true, false, false, false, false] ρ) } ρ) (ρ.set 7 (some d))) fun g r t wt => ⟨by simp, tail g r t wt⟩
      revert this
      walk_at "ev"
      try exact fun h => h
    · have := tail g r m wm
      revert this
      walk_at "ev"
      try exact fun h => h

theorem pf_law_wide : ∀ (ds : List D) (R : D → En → Prop), ds.length = 2 → ph_law_wide ds R → t_law_wide { nx := fun ρ => R .non (maskE [true, false] ρ), rt := fun d ρ => R d (maskE [true, false] ρ) } (startE N_law_wide ds) := by
  rintro ds R _ ⟨g, r, st, rfl, s1, s2, hR⟩
  show t_law_wide _ [some (bx g r), some (.int st), none, none, none]
  unfold t_law_wide
  walk_at "ev"
  refine ⟨g, r, _, rfl, by omega, by omega, fun v g r v0 v1 => ?_⟩
  obtain ⟨tk0, rfl⟩ := Int.eq_ofNat_of_zero_le v0
  obtain ⟨tk, htk⟩ : ∃ tk : Nat, 1 + (tk0 : Int) = (tk : Int) := ⟨tk0 + 1, by omega⟩
  walk_at "ev"
  rw [htk]
  refine ⟨g, r, _, rfl, by omega, by omega, fun v g r v2 v3 => ?_⟩
  obtain ⟨sa, rfl⟩ := Int.eq_ofNat_of_zero_le v2
  obtain ⟨sb, hsb⟩ : ∃ sb : Nat, 1 + (sa : Int) = (sb : Int) := ⟨sa + 1, by omega⟩
  walk_at "ev"
  rw [hsb]
  refine ⟨g, r, [2, 3, 9], rfl, by simp, by simp, fun bars g r hb => ?_⟩
  have hbars : 0 < bars ∧ bars ≤ 1000 := by simp at hb; omega
  walk_at "ev"
  refine ⟨g, r, sb, tk, 60, bars, rfl, by omega, by omega, by omega, by omega, by omega, hbars.1, hbars.2, fun m g r m1 m2 m3 m4 => ?_⟩
  have wm : WfS 10 m := wfS_of (by omega) (by omega) (by omega) m1 m2 m3 m4
  walk_at "ev"
  refine ⟨g, r, _, rfl, by omega, by omega, fun v g r v2 v3 => ?_⟩
  walk_at "ev"
  split
  · refine ⟨g, r, _, rfl, by omega, by omega, fun v g r v4 v5 => ?_⟩
    obtain ⟨ra, rfl⟩ := Int.eq_ofNat_of_zero_le v4
    obtain ⟨rb, hrb⟩ : ∃ rb : Nat, 1 + (ra : Int) = (rb : Int) := ⟨ra + 1, by omega⟩
    walk_at "ev"
    rw [hrb]
    refine ⟨g, r, _, rfl, by omega, by omega, fun v g r v6 v7 => ?_⟩
    obtain ⟨na, rfl⟩ := Int.eq_ofNat_of_zero_le v6
    obtain ⟨nb, hnb⟩ : ∃ nb : Nat, 1 + (na : Int) = (nb : Int) := ⟨na + 1, by omega⟩
    walk_at "ev"
    rw [hnb]
    refine ⟨g, r, rb, nb, tk, 9, rfl, by omega, by omega, by omega, by omega, by omega, by omega, by omega, by omega, fun b g r b1 b2 => ?_⟩
    walk_at "ev"
    exact hR ⟨m, m, b⟩ _ _ ⟨wm, wm, wfB_of (by omega) (by omega) (by omega) b1 b2⟩
  · refine ⟨g, r, _, rfl, by omega, by omega, fun v g r v2 v3 => ?_⟩
    obtain ⟨sa, rfl⟩ := Int.eq_ofNat_of_zero_le v2
    obtain ⟨sc, hsc⟩ : ∃ sb : Nat, 1 + (sa : Int) = (sb : Int) := ⟨sa + 1, by omega⟩
    walk_at "ev"
    rw [hsc]
    refine ⟨g, r, [2, 9], rfl, by simp, by simp, fun bars g r hb => ?_⟩
    have hbars : 0 < bars ∧ bars ≤ 1000 := by simp at hb; omega
    walk_at "ev"
    refine ⟨g, r, sc, tk, 60, bars, rfl, by omega, by omega, by omega, by omega, by omega, hbars.1, hbars.2, fun t g r m1 m2 m3 m4 => ?_⟩
    have wt : WfS 10 t := wfS_of (by omega) (by omega) (by omega) m1 m2 m3 m4
    walk_at "ev"
    refine ⟨g, r, _, rfl, by omega, by omega, fun v g r v4 v5 => ?_⟩
    obtain ⟨ra, rfl⟩ := Int.eq_ofNat_of_zero_le v4
    obtain ⟨rb, hrb⟩ : ∃ rb : Nat, 1 + (ra : Int) = (rb : Int) := ⟨ra + 1, by omega⟩
    walk_at "ev"
    rw [hrb]
    refine ⟨g, r, _, rfl, by omega, by omega, fun v g r v6 v7 => ?_⟩
    obtain ⟨na, rfl⟩ := Int.eq_ofNat_of_zero_le v6
    obtain ⟨nb, hnb⟩ : ∃ nb : Nat, 1 + (na : Int) = (nb : Int) := ⟨na + 1, by omega⟩
    walk_at "ev"
    rw [hnb]
    refine ⟨g, r, rb, nb, tk, 9, rfl, by omega, by omega, by omega, by omega, by omega, by omega, by omega, by omega, fun b g r b1 b2 => ?_⟩
    walk_at "ev"
    exact hR ⟨m, t, b⟩ _ _ ⟨wm, wt, wfB_of (by omega) (by omega) (by omega) b1 b2⟩

theorem sIf_eq (c : TB) (t u : TSx) (D : DE) (ρ : En) : sIf c t u D ρ = c ρ fun k ρ' => if k = true then t D ρ' else u D ρ' := rfl
theorem bOr_eq (t u : TB) (ρ : En) (Q : Bool → En → Prop) : bOr t u ρ Q = t ρ fun k ρ1 => if k = true then Q true ρ1 else u ρ1 Q := rfl
theorem bAnd_eq (t u : TB) (ρ : En) (Q : Bool → En → Prop) : bAnd t u ρ Q = t ρ fun k ρ1 => if k = true then u ρ1 Q else Q false ρ1 := rfl
/-! the plain law -/
theorem flatMap_cg {α β : Type} {l : List α} {f g : α → List β} (h : ∀ x ∈ l, f x = g x) : l.flatMap f = l.flatMap g := by
  induction l with
  | nil => rfl
  | cons a l ih => rw [List.flatMap_cons, List.flatMap_cons, h a (by simp), ih fun x hx => h x (by simp [hx])]
theorem flatMap_range {α β : Type} (l : List α) (d : α) (f : α → List β) : (l.flatMap f) = (List.range l.length).flatMap fun i => f (l.getD i d) := by
  conv => lhs; rw [show l = (List.range l.length).map fun i => l.getD i d from by
    apply List.ext_getElem (by simp)
    intro i h1 h2
    simp [List.getD_eq_getElem?_getD, List.getElem?_eq_getElem h1]]
  rw [List.flatMap_map]
theorem map_range {α β : Type} (l : List α) (d : α) (f : α → β) : l.map f = (List.range l.length).map fun i => f (l.getD i d) := by
  conv => lhs; rw [show l = (List.range l.length).map fun i => l.getD i d from by
    apply List.ext_getElem (by simp)
    intro i h1 h2
    simp [List.getD_eq_getElem?_getD, List.getElem?_eq_getElem h1]]
  rw [List.map_map]; rfl
theorem getD_mem {α : Type} {l : List α} {i : Nat} {d : α} (h : i < l.length) : l.getD i d ∈ l := by
  rw [List.getD_eq_getElem?_getD, List.getElem?_eq_getElem h]; simp
theorem pairs_map {β : Type} (n m : Nat) (f : Nat × Nat → β) : (lawPairs n m).map f = (List.range n).flatMap fun i => (List.range m).map fun j => f (i, j) := by
  unfold lawPairs
  rw [List.map_flatMap]
  congr 1; funext i
  rw [List.map_map]; rfl
theorem paired_eq {B C : Nat} {a b : Sv} (ha : WfS B a) (hb : WfS C b) : lawPaired a b = pairSv a b := by
  unfold lawPaired pairSv
  have hp : (lawPairs a.pr.length b.pr.length).map (fun p => (lawPairs a.pr.length b.pr.length).map fun g => ((a.pr.getD p.1 []).getD g.1 0) + ((b.pr.getD p.2 []).getD g.2 0)) = pairPrices a.pr b.pr := by
    unfold pairPrices
    rw [pairs_map, flatMap_range a.pr []]
    refine flatMap_cg fun i hi => ?_
    rw [List.mem_range] at hi
    rw [map_range b.pr []]
    refine List.map_congr_left fun j hj => ?_
    rw [List.mem_range] at hj
    rw [pairs_map, flatMap_range (a.pr.getD i []) 0, ha.sq _ (getD_mem hi)]
    refine flatMap_cg fun k hk => ?_
    rw [map_range (b.pr.getD j []) 0, hb.sq _ (getD_mem hj)]
  have hc : ((a.co.map fun row => (lawPairs a.pr.length b.pr.length).map fun p => row.getD p.1 none) ++ b.co.map fun row => (lawPairs a.pr.length b.pr.length).map fun p => row.getD p.2 none) = pairCosts a b := by
    unfold pairCosts
    congr 1
    · refine List.map_congr_left fun row hr => ?_
      rw [pairs_map, flatMap_range row none, ha.cw _ hr]
    · refine List.map_congr_left fun row hr => ?_
      rw [pairs_map]
      have hrow : (List.range b.pr.length).map (fun j => row.getD j none) = row := by
        rw [← hb.cw _ hr]
        have := (map_range row none id).symm
        simpa using this
      simp only [hrow]
      generalize a.pr.length = n
      induction n with
      | zero => rfl
      | succ n ih => rw [List.range_succ, List.flatMap_append, ih, List.replicate_succ', List.flatten_append]; simp
  simp only [hp, hc]
theorem book_range {β : Type} (m : Nat) (hm : 0 < m) (f : Nat → Nat → β) : ∀ n : Nat, (List.range (n * m)).map (fun i => f (i / m) (i % m)) = (List.range n).flatMap fun i => (List.range m).map fun j => f i j
  | 0 => by simp
  | n + 1 => by
    rw [Nat.add_mul, Nat.one_mul, List.range_add, List.map_append, book_range m hm f n, List.range_succ, List.flatMap_append, List.map_map]
    congr 1
    simp only [List.flatMap_cons, List.flatMap_nil, List.append_nil]
    refine List.map_congr_left fun j hj => ?_
    rw [List.mem_range] at hj
    simp only [Function.comp_apply]
    rw [Nat.mul_comm n m, Nat.mul_add_div hm, Nat.div_eq_of_lt hj, Nat.mul_add_mod, Nat.mod_eq_of_lt hj, Nat.add_zero]
theorem book_eq {C : Nat} {a b : Bk} (hb : WfB C b) (k : Int) : lawBook a b k = pairBook a b k := book_range b.length hb.n1 (fun i j => pairRoom i j a b k) a.length
theorem beside_eq {B C : Nat} {a b : Cs} (ha : WfC B a) (hb : WfC C b) : lawBeside a b = bothCs a b := by
  unfold lawBeside bothCs
  rw [paired_eq ha.m hb.m, paired_eq ha.t hb.t, book_eq hb.b]
theorem flatMap_len {α β : Type} (l : List α) (f : α → List β) (k : Nat) (h : ∀ x ∈ l, (f x).length = k) : (l.flatMap f).length = l.length * k := by
  induction l with
  | nil => simp
  | cons a l ih =>
    have h1 := h a (by simp)
    have h2 := ih fun x hx => h x (by simp [hx])
    simp only [List.flatMap_cons, List.length_append, List.length_cons, Nat.add_mul]
    omega
theorem wf_pairSv {A B C : Nat} {a b : Sv} (ha : WfS A a) (hb : WfS B b) (hC : A * B ≤ C) (hC2 : A + B ≤ C) : WfS C (pairSv a b) := by
  have hl : (pairSv a b).pr.length = a.pr.length * b.pr.length := by
    show (pairPrices a.pr b.pr).length = _
    exact flatMap_len _ _ _ (by simp)
  have hp : 0 < a.pr.length * b.pr.length := Nat.mul_pos ha.n1 hb.n1
  have hq : a.pr.length * b.pr.length ≤ A * B := Nat.mul_le_mul ha.nB hb.nB
  refine ⟨by omega, by omega, ?_, ?_, ?_⟩
  · rw [hl]
    intro r hr
    simp only [pairSv, pairPrices, List.mem_flatMap, List.mem_map] at hr
    obtain ⟨x, hx, y, hy, rfl⟩ := hr
    rw [flatMap_len _ _ b.pr.length (by simp [hb.sq y hy]), ha.sq x hx]
  · have h1 := ha.cB
    have h2 := hb.cB
    simp [pairSv, pairCosts]; omega
  · rw [hl]
    intro r hr
    simp only [pairSv, pairCosts, List.mem_append, List.mem_map] at hr
    rcases hr with ⟨x, hx, rfl⟩ | ⟨x, hx, rfl⟩
    · rw [flatMap_len _ _ b.pr.length (by simp), ha.cw x hx]
    · simp [hb.cw x hx]
theorem wf_pairBook {A B C : Nat} {a b : Bk} (ha : WfB A a) (hb : WfB B b) (k : Int) (hC : A * B ≤ C) (hC2 : A + B ≤ C) : WfB C (pairBook a b k) := by
  have hl : (pairBook a b k).length = a.length * b.length := by
    unfold pairBook
    rw [flatMap_len _ _ b.length (by simp)]; simp
  have hp : 0 < a.length * b.length := Nat.mul_pos ha.n1 hb.n1
  have hq : a.length * b.length ≤ A * B := Nat.mul_le_mul ha.nB hb.nB
  refine ⟨by omega, by omega, ?_⟩
  intro r hr
  simp only [pairBook, List.mem_flatMap, List.mem_map, List.mem_range] at hr
  obtain ⟨x, hx, y, hy, rfl⟩ := hr
  have h1 := ha.rB _ (getD_mem (d := []) hx)
  have h2 := hb.rB _ (getD_mem (d := []) hy)
  simp only [pairRoom, List.length_append, List.length_map]
  omega
theorem wf_both {A B C : Nat} {a b : Cs} (ha : WfC A a) (hb : WfC B b) (hC : A * B ≤ C) (hC2 : A + B ≤ C) : WfC C (bothCs a b) :=
  ⟨wf_pairSv ha.m hb.m hC hC2, wf_pairSv ha.t hb.t hC hC2, wf_pairBook ha.b hb.b _ hC hC2⟩
theorem WfC.up {B C : Nat} (h : B ≤ C) {c : Cs} (w : WfC B c) : WfC C c :=
  ⟨⟨w.m.n1, Nat.le_trans w.m.nB h, w.m.sq, Nat.le_trans w.m.cB h, w.m.cw⟩, ⟨w.t.n1, Nat.le_trans w.t.nB h, w.t.sq, Nat.le_trans w.t.cB h, w.t.cw⟩, ⟨w.b.n1, Nat.le_trans w.b.nB h, fun r hr => Nat.le_trans (w.b.rB r hr) h⟩⟩
theorem plain_map {α : Type} {f : α → D} {l : List α} {k : Nat} (hl : l.length ≤ 1000) (h : ∀ x ∈ l, plain k (f x)) : plain (k + 1) (.tup (l.map f)) := by
  refine ⟨by simpa using hl, fun d hd => ?_⟩
  obtain ⟨x, hx, rfl⟩ := List.mem_map.mp hd
  exact h x hx
theorem plain_Sv {s : Sv} (w : WfS 1000 s) : plain 3 (eSv s) := by
  refine ⟨by simp, fun d hd => ?_⟩
  have h1 : plain 2 (ePr s.pr) := plain_map w.nB fun r hr => plain_map (by rw [w.sq r hr]; exact w.nB) fun _ _ => trivial
  have h2 : plain 2 (eCo s.co) := plain_map w.cB fun r hr => plain_map (by rw [w.cw r hr]; exact w.nB) fun o _ => by cases o <;> trivial
  simp only [List.mem_cons, List.not_mem_nil, or_false] at hd
  rcases hd with rfl | rfl
  · exact h1
  · exact h2
theorem plain_Bk {b : Bk} (w : WfB 1000 b) : plain 3 (eBk b) := plain_map w.nB fun r hr => plain_map (w.rB r hr) fun s _ => by
  rcases s with _ | ⟨a, b, c⟩
  · trivial
  · exact ⟨by simp, fun d hd => by
      simp only [List.mem_cons, List.not_mem_nil, or_false] at hd
      rcases hd with rfl | rfl | rfl <;> trivial⟩
theorem plain_Cs {c : Cs} (w : WfC 1000 c) : plain 4 (eCs c) := by
  refine ⟨by simp, fun d hd => ?_⟩
  simp only [List.mem_cons, List.not_mem_nil, or_false] at hd
  rcases hd with rfl | rfl | rfl
  · exact plain_Sv w.m
  · exact plain_Sv w.t
  · exact plain_Bk w.b
theorem wf_ring {l : List (Int × Int × Int)} (h1 : 1 ≤ l.length) (h3 : l.length ≤ 3) : WfC 3 (lawRing l) := by
  have hr : ∀ r ∈ ([[0]] : List (List Int)), r.length = ([[0]] : List (List Int)).length := by simp
  refine ⟨⟨by simp [lawRing], by simp [lawRing], hr, by simpa [lawRing] using h3, ?_⟩, ⟨by simp [lawRing], by simp [lawRing], hr, by simpa [lawRing] using h3, ?_⟩, ⟨by simp [lawRing], by simp [lawRing], ?_⟩⟩
  · intro r hr; simp [lawRing] at hr; obtain ⟨a, _, rfl⟩ := hr; simp [lawRing]
  · intro r hr; simp [lawRing] at hr; obtain ⟨_, _, _, rfl⟩ := hr; simp [lawRing]
  · intro r hr; simp [lawRing] at hr; subst hr; simpa using h3

def fx1 : Cs := ⟨⟨[[0, 3], [1, 0]], [[some 0, none]]⟩, ⟨[[0]], [[some 2]]⟩, [[some (0, 1, 0)]]⟩
def fx2 : Cs := ⟨⟨[[0]], [[some 5], [some 7]]⟩, ⟨[[0, 4], [4, 0]], [[some 1, some 2], [none, some 0]]⟩, [[some (1, 0, 1), none], [some (0, 2, 0), some (1, 0, 1)]]⟩
theorem wf_fx1 : WfC 10 fx1 := ⟨⟨by decide, by decide, by decide, by decide, by decide⟩, ⟨by decide, by decide, by decide, by decide, by decide⟩, ⟨by decide, by decide, by decide⟩⟩
theorem wf_fx2 : WfC 10 fx2 := ⟨⟨by decide, by decide, by decide, by decide, by decide⟩, ⟨by decide, by decide, by decide, by decide, by decide⟩, ⟨by decide, by decide, by decide⟩⟩
theorem wf_up2 {a b : Cs} (ha : WfC 10 a) (hb : WfC 10 b) : WfC 1000 (bothCs a b) := wf_both ha hb (by decide) (by decide)
theorem pf_law_fixed : ∀ (ds : List D) (R : D → En → Prop), ds.length = 0 → ph_law_fixed ds R → t_law_fixed { nx := fun ρ => R .non (maskE [] ρ), rt := fun d ρ => R d (maskE [] ρ) } (startE N_law_fixed ds) := by
  rintro ds R _ ⟨rfl, hR⟩
  show t_law_fixed _ [none, none, none, none, none, none, none, none]
  unfold t_law_fixed
  walk_at "ev"
  refine ⟨fx1, fx2, rfl, wf_fx1, wf_fx2, ?_⟩
  walk_at "ev"
  refine ⟨eCs (bothCs fx1 fx2), ?_, plain_Cs (wf_up2 wf_fx1 wf_fx2), lf_eCs _, ?_⟩
  · rfl
  walk_at "ev"
  refine ⟨fx2, fx1, rfl, wf_fx2, wf_fx1, ?_⟩
  walk_at "ev"
  refine ⟨eCs (bothCs fx2 fx1), ?_, plain_Cs (wf_up2 wf_fx2 wf_fx1), lf_eCs _, ?_⟩
  · rfl
  walk_at "ev"
  exact hR

theorem pf_law : ∀ (ds : List D) (R : D → En → Prop), ds.length = 1 → ph_law ds R → t_law { nx := fun ρ => R .non (maskE [false] ρ), rt := fun d ρ => R d (maskE [false] ρ) } (startE N_law ds) := by
  rintro ds R _ ⟨ns, rfl, hn, hR⟩
  show t_law _ [some (.lst (ns.map D.int)), none, none, none, none, none, none, none, none, none]
  unfold t_law
  walk_at "es"
  rw [sIf_eq]
  walk_at "es"
  refine ⟨rfl, ?_⟩
  walk_at "es"
  obtain ⟨m, hm, hm5⟩ : ∃ m : Nat, (if (if (5 : Int) < ((ns.map D.int).length : Int) then (5 : Int) else ((ns.map D.int).length : Int)) > 2 then (if (5 : Int) < ((ns.map D.int).length : Int) then (5 : Int) else ((ns.map D.int).length : Int)) else 2) = (m : Int) ∧ m ≤ 5 := by
    generalize (ns.map D.int).length = n
    by_cases h : (5 : Int) < (n : Int)
    · exact ⟨5, by simp [h], by omega⟩
    · by_cases h2 : (n : Int) > 2
      · exact ⟨n, by simp [h, h2], by omega⟩
      · exact ⟨2, by simp [h, h2], by omega⟩
  refine sFor_inv (fun (i : Nat) => D.int (i : Int)) (List.range m) ?r1_1 ?hi_1 (fun pre ρ => ∃ (a b c d e f g h i : Option D), ρ = [some (.lst (ns.map D.int)), a, b, c, d, e, f, g, h, i]) ?h0_1 ?hs_1 ?hd_1
  case hi_1 =>
    intro R hR
    walk_at "es"
    rw [hm]
    refine ⟨by omega, by omega, ?_⟩
    rw [rangeD_eq]
    exact hR
  case h0_1 => exact ⟨_, _, _, _, _, _, _, _, _, rfl⟩
  case hs_1 =>
    rintro I hI pre k post ρ e ⟨a, b, c, d, e1, f, g, h, i, rfl⟩
    have hk : k ∈ List.range m := by rw [e]; simp
    rw [List.mem_range] at hk
    walk_at "es"
    refine ⟨ns, k, rfl, hn, by omega, fun g r => ?_⟩
    walk_at "es"
    refine ⟨g, r, [2, 3, 4, 4], rfl, by simp, by simp, fun st g r hst => ?_⟩
    obtain ⟨s, rfl, hs1, hs2⟩ : ∃ s : Nat, st = (s : Int) ∧ 1 ≤ s ∧ s ≤ 10 := ⟨st.toNat, by simp at hst; omega, by simp at hst; omega, by simp at hst; omega⟩
    walk_at "es"
    refine ⟨g, r, s, rfl, hs1, hs2, fun one g r w1 => ?_⟩
    walk_at "es"
    refine ⟨g, r, s, rfl, hs1, hs2, fun two g r w2 => ?_⟩
    walk_at "es"
    rw [sIf_eq, bAnd_eq]
    walk_at "es"
    split
    · refine ⟨g, r, _, rfl, by omega, by omega, fun v g r _ _ => ?_⟩
      walk_at "es"
      split
      · refine ⟨g, r, 10, rfl, by omega, by omega, fun one g r w1 => ?_⟩
        walk_at "es"
        refine ⟨g, r, 10, 3, 3, 3, 5, rfl, by omega, by omega, by omega, by omega, by omega, by omega, by omega, by omega, by omega, by omega, fun two g r w2 => ?_⟩
        walk_at "es"
        refine ⟨one, two, rfl, w1, w2, ?_⟩
        rw [beside_eq w1 w2]
        walk_at "es"
        refine ⟨one, two, rfl, w1, w2, ?_⟩
        walk_at "es"
        rw [sIf_eq, bOr_eq]
        walk_at "es"
        refine ⟨_, rfl, plain_Cs (wf_up2 w1 w2), lf_eCs _, ?_⟩
        walk_at "es"
        refine ⟨two, one, rfl, w2, w1, ?_⟩
        walk_at "es"
        refine ⟨two, one, rfl, w2, w1, ?_⟩
        rw [beside_eq w2 w1]
        walk_at "es"
        refine ⟨_, rfl, plain_Cs (wf_up2 w2 w1), lf_eCs _, ?_⟩
        walk_at "es"
        refine ⟨g, r, 3, 2, 2, 2, 3, rfl, by omega, by omega, by omega, by omega, by omega, by omega, by omega, by omega, by omega, by omega, fun small g r w3 => ?_⟩
        walk_at "es"
        rw [sIf_eq]
        walk_at "es"
        have w3' : WfC 10 small := w3.up (by decide)
        have w4 : WfC 10 (bothCs small small) := wf_both w3 w3 (by decide) (by decide)
        refine ⟨small, small, rfl, w3', w3', ?_⟩
        walk_at "es"
        refine ⟨small, small, rfl, w3', w3', ?_⟩
        rw [beside_eq w3' w3']
        walk_at "es"
        refine ⟨_, rfl, plain_Cs (wf_up2 w3' w3'), lf_eCs _, ?_⟩
        walk_at "es"
        refine ⟨g, r, _, rfl, by omega, by omega, fun va g r _ _ => ?_⟩
        walk_at "es"
        refine ⟨g, r, _, rfl, by omega, by omega, fun vb g r _ _ => ?_⟩
        walk_at "es"
        refine ⟨[(1 + va, vb, 3)], rfl, by simp, ?_⟩
        walk_at "es"
        rw [sIf_eq]
        walk_at "es"
        have w5 : WfC 10 (lawRing [(1 + va, vb, 3)]) := (wf_ring (by simp) (by simp)).up (by decide)
        refine ⟨small, small, rfl, w3', w3', ?_⟩
        walk_at "es"
        refine ⟨_, _, rfl, w4, w5, ?_⟩
        walk_at "es"
        refine ⟨small, small, rfl, w3', w3', ?_⟩
        rw [beside_eq w3' w3']
        walk_at "es"
        refine ⟨_, _, rfl, w4, w5, ?_⟩
        rw [beside_eq w4 w5]
        walk_at "es"
        refine ⟨_, rfl, plain_Cs (wf_up2 w4 w5), lf_eCs _, ?_⟩
        walk_at "es"
        rw [sIf_eq, bOr_eq]
        walk_at "es"
        refine ⟨_, rfl, plain_Cs (wf_up2 w1 w2), lf_eCs _, ?_⟩
        walk_at "es"
        refine ⟨one, two, rfl, w1, w2, ?_⟩
        walk_at "es"
        refine ⟨_, rfl, plain_Cs (wf_up2 w1 w2), lf_eCs _, ?_⟩
        walk_at "es"
        exact hI _ _ ⟨_, _, _, _, _, _, _, _, _, rfl⟩
      · skip
        refine ⟨one, two, rfl, w1, w2, ?_⟩
        rw [beside_eq w1 w2]
        walk_at "es"
        refine ⟨one, two, rfl, w1, w2, ?_⟩
        walk_at "es"
        rw [sIf_eq, bOr_eq]
        walk_at "es"
        refine ⟨_, rfl, plain_Cs (wf_up2 w1 w2), lf_eCs _, ?_⟩
        walk_at "es"
        refine ⟨two, one, rfl, w2, w1, ?_⟩
        walk_at "es"
        refine ⟨two, one, rfl, w2, w1, ?_⟩
        rw [beside_eq w2 w1]
        walk_at "es"
        refine ⟨_, rfl, plain_Cs (wf_up2 w2 w1), lf_eCs _, ?_⟩
        walk_at "es"
        refine ⟨g, r, 3, 2, 2, 2, 3, rfl, by omega, by omega, by omega, by omega, by omega, by omega, by omega, by omega, by omega, by omega, fun small g r w3 => ?_⟩
        walk_at "es"
        rw [sIf_eq]
        walk_at "es"
        have w3' : WfC 10 small := w3.up (by decide)
        have w4 : WfC 10 (bothCs small small) := wf_both w3 w3 (by decide) (by decide)
        refine ⟨small, small, rfl, w3', w3', ?_⟩
        walk_at "es"
        refine ⟨small, small, rfl, w3', w3', ?_⟩
        rw [beside_eq w3' w3']
        walk_at "es"
        refine ⟨_, rfl, plain_Cs (wf_up2 w3' w3'), lf_eCs _, ?_⟩
        walk_at "es"
        refine ⟨g, r, _, rfl, by omega, by omega, fun va g r _ _ => ?_⟩
        walk_at "es"
        refine ⟨g, r, _, rfl, by omega, by omega, fun vb g r _ _ => ?_⟩
        walk_at "es"
        refine ⟨[(1 + va, vb, 3)], rfl, by simp, ?_⟩
        walk_at "es"
        rw [sIf_eq]
        walk_at "es"
        have w5 : WfC 10 (lawRing [(1 + va, vb, 3)]) := (wf_ring (by simp) (by simp)).up (by decide)
        refine ⟨small, small, rfl, w3', w3', ?_⟩
        walk_at "es"
        refine ⟨_, _, rfl, w4, w5, ?_⟩
        walk_at "es"
        refine ⟨small, small, rfl, w3', w3', ?_⟩
        rw [beside_eq w3' w3']
        walk_at "es"
        refine ⟨_, _, rfl, w4, w5, ?_⟩
        rw [beside_eq w4 w5]
        walk_at "es"
        refine ⟨_, rfl, plain_Cs (wf_up2 w4 w5), lf_eCs _, ?_⟩
        walk_at "es"
        rw [sIf_eq, bOr_eq]
        walk_at "es"
        refine ⟨_, rfl, plain_Cs (wf_up2 w1 w2), lf_eCs _, ?_⟩
        walk_at "es"
        refine ⟨one, two, rfl, w1, w2, ?_⟩
        walk_at "es"
        refine ⟨_, rfl, plain_Cs (wf_up2 w1 w2), lf_eCs _, ?_⟩
        walk_at "es"
        exact hI _ _ ⟨_, _, _, _, _, _, _, _, _, rfl⟩
    · skip
      refine ⟨one, two, rfl, w1, w2, ?_⟩
      rw [beside_eq w1 w2]
      walk_at "es"
      refine ⟨one, two, rfl, w1, w2, ?_⟩
      walk_at "es"
      rw [sIf_eq, bOr_eq]
      walk_at "es"
      refine ⟨_, rfl, plain_Cs (wf_up2 w1 w2), lf_eCs _, ?_⟩
      walk_at "es"
      refine ⟨two, one, rfl, w2, w1, ?_⟩
      walk_at "es"
      refine ⟨two, one, rfl, w2, w1, ?_⟩
      rw [beside_eq w2 w1]
      walk_at "es"
      refine ⟨_, rfl, plain_Cs (wf_up2 w2 w1), lf_eCs _, ?_⟩
      walk_at "es"
      refine ⟨g, r, 3, 2, 2, 2, 3, rfl, by omega, by omega, by omega, by omega, by omega, by omega, by omega, by omega, by omega, by omega, fun small g r w3 => ?_⟩
      walk_at "es"
      rw [sIf_eq]
      walk_at "es"
      have w3' : WfC 10 small := w3.up (by decide)
      have w4 : WfC 10 (bothCs small small) := wf_both w3 w3 (by decide) (by decide)
      refine ⟨small, small, rfl, w3', w3', ?_⟩
      walk_at "es"
      refine ⟨small, small, rfl, w3', w3', ?_⟩
      rw [beside_eq w3' w3']
      walk_at "es"
      refine ⟨_, rfl, plain_Cs (wf_up2 w3' w3'), lf_eCs _, ?_⟩
      walk_at "es"
      refine ⟨g, r, _, rfl, by omega, by omega, fun va g r _ _ => ?_⟩
      walk_at "es"
      refine ⟨g, r, _, rfl, by omega, by omega, fun vb g r _ _ => ?_⟩
      walk_at "es"
      refine ⟨[(1 + va, vb, 3)], rfl, by simp, ?_⟩
      walk_at "es"
      rw [sIf_eq]
      walk_at "es"
      have w5 : WfC 10 (lawRing [(1 + va, vb, 3)]) := (wf_ring (by simp) (by simp)).up (by decide)
      refine ⟨small, small, rfl, w3', w3', ?_⟩
      walk_at "es"
      refine ⟨_, _, rfl, w4, w5, ?_⟩
      walk_at "es"
      refine ⟨small, small, rfl, w3', w3', ?_⟩
      rw [beside_eq w3' w3']
      walk_at "es"
      refine ⟨_, _, rfl, w4, w5, ?_⟩
      rw [beside_eq w4 w5]
      walk_at "es"
      refine ⟨_, rfl, plain_Cs (wf_up2 w4 w5), lf_eCs _, ?_⟩
      walk_at "es"
      rw [sIf_eq, bOr_eq]
      walk_at "es"
      refine ⟨_, rfl, plain_Cs (wf_up2 w1 w2), lf_eCs _, ?_⟩
      walk_at "es"
      refine ⟨one, two, rfl, w1, w2, ?_⟩
      walk_at "es"
      refine ⟨_, rfl, plain_Cs (wf_up2 w1 w2), lf_eCs _, ?_⟩
      walk_at "es"
      exact hI _ _ ⟨_, _, _, _, _, _, _, _, _, rfl⟩
  rintro ρ ⟨a, b, c, d, e, f, g, h, i, rfl⟩
  walk_at "es"
  exact hR

end VL

set_option Elab.async false
set_option linter.all false
set_option maxRecDepth 100000
set_option maxHeartbeats 4000000
namespace VL
open PySem L2
def d_pair_prices : He.DefD := ⟨("pair_prices", none), "pair_prices", "pair_prices", defArgs s_pair_prices, defBody s_pair_prices, defScope s_pair_prices, [], []⟩
def d_pair_costs : He.DefD := ⟨("pair_costs", none), "pair_costs", "pair_costs", defArgs s_pair_costs, defBody s_pair_costs, defScope s_pair_costs, [], []⟩
def d_pair_room : He.DefD := ⟨("pair_room", none), "pair_room", "pair_room", defArgs s_pair_room, defBody s_pair_room, defScope s_pair_room, [], []⟩
def d_law_take : He.DefD := ⟨("_law_take", none), "_law_take", "_law_take", defArgs s_law_take, defBody s_law_take, defScope s_law_take, [], []⟩
def d_law_closed : He.DefD := ⟨("_law_closed", none), "_law_closed", "_law_closed", defArgs s_law_closed, defBody s_law_closed, defScope s_law_closed, [], []⟩
def d_law_ring : He.DefD := ⟨("_law_ring", none), "_law_ring", "_law_ring", defArgs s_law_ring, defBody s_law_ring, defScope s_law_ring, [], []⟩
def d_law_paired : He.DefD := ⟨("_law_paired", none), "_law_paired", "_law_paired", defArgs s_law_paired, defBody s_law_paired, defScope s_law_paired, [], []⟩
def d_law_box : He.DefD := ⟨("_law_box", none), "_law_box", "_law_box", defArgs s_law_box, defBody s_law_box, defScope s_law_box, [], []⟩
def d_pair_service : He.DefD := ⟨("pair_service", none), "pair_service", "pair_service", defArgs s_pair_service, defBody s_pair_service, defScope s_pair_service, [], []⟩
def d_pair_book : He.DefD := ⟨("pair_book", none), "pair_book", "pair_book", defArgs s_pair_book, defBody s_pair_book, defScope s_pair_book, [], []⟩
def d_law_pick : He.DefD := ⟨("_law_pick", none), "_law_pick", "_law_pick", defArgs s_law_pick, defBody s_law_pick, defScope s_law_pick, [], []⟩
def d_law_beside : He.DefD := ⟨("_law_beside", none), "_law_beside", "_law_beside", defArgs s_law_beside, defBody s_law_beside, defScope s_law_beside, [], []⟩
def d_both_case : He.DefD := ⟨("both_case", none), "both_case", "both_case", defArgs s_both_case, defBody s_both_case, defScope s_both_case, [], []⟩
def d_law_service : He.DefD := ⟨("_law_service", none), "_law_service", "_law_service", defArgs s_law_service, defBody s_law_service, defScope s_law_service, [], []⟩
def d_law_book : He.DefD := ⟨("_law_book", none), "_law_book", "_law_book", defArgs s_law_book, defBody s_law_book, defScope s_law_book, [], []⟩
def d_law_case : He.DefD := ⟨("_law_case", none), "_law_case", "_law_case", defArgs s_law_case, defBody s_law_case, defScope s_law_case, [], []⟩
def d_law_wide : He.DefD := ⟨("_law_wide", none), "_law_wide", "_law_wide", defArgs s_law_wide, defBody s_law_wide, defScope s_law_wide, [], []⟩
def d_law_same : He.DefD := ⟨("_law_same", none), "_law_same", "_law_same", defArgs s_law_same, defBody s_law_same, defScope s_law_same, [], []⟩
def d_law_fixed : He.DefD := ⟨("_law_fixed", none), "_law_fixed", "_law_fixed", defArgs s_law_fixed, defBody s_law_fixed, defScope s_law_fixed, [], []⟩
def d_law : He.DefD := ⟨("law", none), "law", "law", defArgs s_law, defBody s_law, defScope s_law, [], []⟩
def fn : List He.DefD := [d_pair_prices, d_pair_costs, d_pair_room, d_law_take, d_law_closed, d_law_ring, d_law_paired, d_law_box, d_pair_service, d_pair_book, d_law_pick, d_law_beside, d_both_case, d_law_service, d_law_book, d_law_case, d_law_wide, d_law_same, d_law_fixed, d_law]
def fa : List He.Fa := [.glo "pair_prices", .glo "pair_costs", .glo "pair_room", .glo "_law_take", .glo "_law_closed", .glo "_law_ring", .glo "_law_paired", .glo "_law_box", .glo "pair_service", .glo "pair_book", .glo "_law_pick", .glo "_law_beside", .glo "both_case", .glo "_law_service", .glo "_law_book", .glo "_law_case", .glo "_law_wide", .glo "_law_same", .glo "_law_fixed", .glo "law", .free "tuple", .free "len", .free "range", .free "int", .free "list", .free "min", .free "enumerate", .free "abs", .free "isinstance", .free "zip", .free "bool", .free "max"]
abbrev Rw : PySem.W.OpenRow := PySem.W.OpenLaw.row PySem.Challenge.rw_wordsworth_k75_two_cases_side_by_side
abbrev hk : PySem.W.Hook := He.hookD 4 fa fn
def ob (s : PySem.W.SharedT) : He.AlD := He.obsDG 4 fa fn (HandSHeadRun.getT s)
theorem ob_eq (s : PySem.W.SharedT) : ob s = hk.obs s.abs := He.obsDG_eq (HandSHeadRun.getT_eq s)
def loose : List Str := ["pair_prices", "pair_costs", "pair_room", "_law_take", "_law_closed", "_law_ring", "_law_paired", "_law_box", "pair_service", "pair_book", "_law_pick", "_law_beside", "both_case", "_law_service", "_law_book", "_law_case", "_law_wide", "_law_same", "_law_fixed", "OwnError"]
theorem run (w : World) : HandSHeadRun.RunEq Rw (PySem.W.view Rw.prog [23]) hk ob 4000 ["pair_prices", "pair_costs", "pair_room", "_law_take", "_law_closed", "_law_ring", "_law_paired", "_law_box", "pair_service", "pair_book", "_law_pick", "_law_beside", "both_case", "_law_service", "_law_book", "_law_case", "_law_wide", "_law_same", "_law_fixed", "OwnError"] w := by
  intro os
  kernel_rfl
theorem kb_of {K : PySem.W.Frag} {x qual : Str} {params : Arguments} {body : List Stmt} {scope : Scope} {kws : List (Str × V)} {f : Addr} {fd : FuncData} {ps ks : List Str} {g : {α : Type} → List α → List α} (F : FunD K x qual params body scope [] kws f fd)
    (h : ∀ (kV doc pm : Value) (an : Option Addr) (cdv ct : Value) (ws : List Value), ws.length = ks.length → bindArgs (PySem.W.fnOf x qual params body scope .none kV doc pm an cdv ct) ⟨[], ks.zip ws⟩ = pure (ps.zip (g ws))) (hr : ∀ {zs : List V} {ws : List Value}, Vals zs ws → Vals (g zs) (g ws)) (hl : ∀ {α : Type} (l : List α), l.length = ks.length → (g l).length = ps.length) : KB K fd ps ks g where
  to := fun s ws e => by
    obtain ⟨oc, od, dV, kV, doc, pm, an, cdv, ct, osl, rfl, lk, hcd, hD, hK⟩ := F.ex
    rcases hD with ⟨_, rfl⟩ | ⟨e', _⟩
    · exact .of_eq (h kV doc pm an cdv ct ws e)
    · exact absurd rfl e'
  rel := hr
  len := hl
theorem ok_none {P : Program} {w : World} {K : PySem.W.Frag} {mg : Str → Option Value} {base : Heap} {k n : Nat} {f : Addr} {fd : FuncData} {ps : List Str} : FnOk P w K mg base CX0 k f fd ps (spD K n fun _ _ => False) :=
  ⟨fun _ _ _ _ ⟨_, _, _, _, _, _, _, _, _, h, _⟩ => False.elim h, fun _ _ _ _ _ _ _ _ _ _ _ _ _ ⟨_, _, _, _, _, _, _, _, _, h, _⟩ => False.elim h⟩
theorem reps_ints {K : PySem.W.Frag} (S : Hp) : ∀ ns : List Int, RepSs K S (ns.map D.int) (ns.map V.int)
  | [] => by simp only [List.map_nil, RepSs]
  | n :: ns => by
    simp only [List.map_cons, RepSs]
    exact ⟨_, _, rfl, by simp only [RepS], reps_ints S ns⟩
theorem law_sp {K : PySem.W.Frag} (H : Hp) (a : Addr) (ns : List Int) (hl : ns.length ≤ 63) (hS : SqL K H a (ns.map V.int)) : spD K 1 ph_law [.ref a] H (fun v _ => v = .bl true) (fun _ _ _ => False) := by
  refine ⟨rfl, H, [.lst (ns.map D.int)], [], .refl _, fun _ _ e => .inr e, ?_, .nil, fun d _ => d = .bl true, ⟨ns, rfl, hl, rfl⟩, fun S' H' v d ds' F' Fd _ _ _ _ r _ _ e => ?_⟩
  · simp only [RepOs, RepO, RepS]
    exact ⟨_, _, [], [], rfl, rfl, ⟨⟨a, _, rfl, hS, reps_ints H ns⟩, rfl⟩, rfl, rfl⟩
  · subst e
    exact r.bl_inv
theorem facts {P : Program} {w : World} {K : PySem.W.Frag} {h : Heap} {mg : Str → Option Value} {f : Addr} (X : K.In h) (G : h.Ns mainGlobals mg) (hfa : mg ("law" : Str) = some (.ref f)) (c : He.SaysD fa fn K) :
    ∃ fd : FuncData, (∀ (s : Shared) (v : Value), BindsTo s fd ⟨[v], []⟩ [("script", v)]) ∧ ∀ base : Heap, K.In base → base.Ns mainGlobals mg → FnOk P w K mg base CX0 7 f fd ["script"] (spD K 1 ph_law) := by
  obtain ⟨fd_pair_prices, F_pair_prices⟩ := c.def_ 0 (d := d_pair_prices) rfl
  obtain ⟨fd_pair_costs, F_pair_costs⟩ := c.def_ 1 (d := d_pair_costs) rfl
  obtain ⟨fd_pair_room, F_pair_room⟩ := c.def_ 2 (d := d_pair_room) rfl
  obtain ⟨fd_law_take, F_law_take⟩ := c.def_ 3 (d := d_law_take) rfl
  obtain ⟨fd_law_closed, F_law_closed⟩ := c.def_ 4 (d := d_law_closed) rfl
  obtain ⟨fd_law_ring, F_law_ring⟩ := c.def_ 5 (d := d_law_ring) rfl
  obtain ⟨fd_law_paired, F_law_paired⟩ := c.def_ 6 (d := d_law_paired) rfl
  obtain ⟨fd_law_box, F_law_box⟩ := c.def_ 7 (d := d_law_box) rfl
  obtain ⟨fd_pair_service, F_pair_service⟩ := c.def_ 8 (d := d_pair_service) rfl
  obtain ⟨fd_pair_book, F_pair_book⟩ := c.def_ 9 (d := d_pair_book) rfl
  obtain ⟨fd_law_pick, F_law_pick⟩ := c.def_ 10 (d := d_law_pick) rfl
  obtain ⟨fd_law_beside, F_law_beside⟩ := c.def_ 11 (d := d_law_beside) rfl
  obtain ⟨fd_both_case, F_both_case⟩ := c.def_ 12 (d := d_both_case) rfl
  obtain ⟨fd_law_service, F_law_service⟩ := c.def_ 13 (d := d_law_service) rfl
  obtain ⟨fd_law_book, F_law_book⟩ := c.def_ 14 (d := d_law_book) rfl
  obtain ⟨fd_law_case, F_law_case⟩ := c.def_ 15 (d := d_law_case) rfl
  obtain ⟨fd_law_wide, F_law_wide⟩ := c.def_ 16 (d := d_law_wide) rfl
  obtain ⟨fd_law_same, F_law_same⟩ := c.def_ 17 (d := d_law_same) rfl
  obtain ⟨fd_law_fixed, F_law_fixed⟩ := c.def_ 18 (d := d_law_fixed) rfl
  obtain ⟨fd_law, F_law⟩ := c.def_ 19 (d := d_law) rfl
  have e := hfa.symm.trans (He.glo_ok X G (c.fact 19 (f := .glo "law") rfl))
  cases e
  have b := FunD.bindsA (ps := ["script"]) F_law fun _ _ _ _ _ _ us hl => match us, hl with | [_], _ => rfl
  refine ⟨fd_law, fun s v => b s [v] rfl, fun base _ _ => ?_⟩
  have T : Txt mg := ⟨He.free_ok X G (c.fact 20 (f := .free "tuple") rfl), He.free_ok X G (c.fact 21 (f := .free "len") rfl), He.free_ok X G (c.fact 22 (f := .free "range") rfl), He.free_ok X G (c.fact 23 (f := .free "int") rfl), He.free_ok X G (c.fact 24 (f := .free "list") rfl), He.free_ok X G (c.fact 25 (f := .free "min") rfl), He.free_ok X G (c.fact 26 (f := .free "enumerate") rfl), He.free_ok X G (c.fact 27 (f := .free "abs") rfl), He.free_ok X G (c.fact 28 (f := .free "isinstance") rfl), He.free_ok X G (c.fact 29 (f := .free "zip") rfl), He.free_ok X G (c.fact 30 (f := .free "bool") rfl), He.free_ok X G (c.fact 31 (f := .free "max") rfl)⟩
  have c_pair_prices : Cal P w K mg base "pair_prices" ["one", "two"] 1 2 ph_pair_prices := ⟨_, fd_pair_prices, ok_pair_prices F_pair_prices T  pf_pair_prices, He.glo_ok X G (c.fact 0 (f := .glo "pair_prices") rfl), F_pair_prices.kp, F_pair_prices.bindsN fun _ _ _ _ _ _ us hl => match us, hl with | [_, _], _ => rfl⟩
  have c_pair_costs : Cal P w K mg base "pair_costs" ["one", "two"] 1 2 ph_pair_costs := ⟨_, fd_pair_costs, ok_pair_costs F_pair_costs T  pf_pair_costs, He.glo_ok X G (c.fact 1 (f := .glo "pair_costs") rfl), F_pair_costs.kp, F_pair_costs.bindsN fun _ _ _ _ _ _ us hl => match us, hl with | [_, _], _ => rfl⟩
  have c_pair_room : Cal P w K mg base "pair_room" ["first", "second", "one", "two", "tasks"] 1 5 ph_pair_room := ⟨_, fd_pair_room, ok_pair_room F_pair_room T  pf_pair_room, He.glo_ok X G (c.fact 2 (f := .glo "pair_room") rfl), F_pair_room.kp, F_pair_room.bindsN fun _ _ _ _ _ _ us hl => match us, hl with | [_, _, _, _, _], _ => rfl⟩
  have c_law_take : Cal P w K mg base "_law_take" ["box", "many"] 1 2 ph_law_take := ⟨_, fd_law_take, ok_law_take F_law_take T  pf_law_take, He.glo_ok X G (c.fact 3 (f := .glo "_law_take") rfl), F_law_take.kp, F_law_take.bindsN fun _ _ _ _ _ _ us hl => match us, hl with | [_, _], _ => rfl⟩
  have c_law_closed : Cal P w K mg base "_law_closed" ["prices"] 1 1 ph_law_closed := ⟨_, fd_law_closed, ok_law_closed F_law_closed T  pf_law_closed, He.glo_ok X G (c.fact 4 (f := .glo "_law_closed") rfl), F_law_closed.kp, F_law_closed.bindsN fun _ _ _ _ _ _ us hl => match us, hl with | [_], _ => rfl⟩
  have c_law_ring : Cal P w K mg base "_law_ring" ["signs"] 1 1 ph_law_ring := ⟨_, fd_law_ring, ok_law_ring F_law_ring T  pf_law_ring, He.glo_ok X G (c.fact 5 (f := .glo "_law_ring") rfl), F_law_ring.kp, F_law_ring.bindsN fun _ _ _ _ _ _ us hl => match us, hl with | [_], _ => rfl⟩
  have c_law_paired : Cal P w K mg base "_law_paired" ["one", "two"] 1 2 ph_law_paired := ⟨_, fd_law_paired, ok_law_paired F_law_paired T  pf_law_paired, He.glo_ok X G (c.fact 6 (f := .glo "_law_paired") rfl), F_law_paired.kp, F_law_paired.bindsN fun _ _ _ _ _ _ us hl => match us, hl with | [_, _], _ => rfl⟩
  have c_law_box : Cal P w K mg base "_law_box" ["script", "k"] 1 2 ph_law_box := ⟨_, fd_law_box, ok_law_box F_law_box T  pf_law_box, He.glo_ok X G (c.fact 7 (f := .glo "_law_box") rfl), F_law_box.kp, F_law_box.bindsN fun _ _ _ _ _ _ us hl => match us, hl with | [_, _], _ => rfl⟩
  have c_pair_service : Cal P w K mg base "pair_service" ["one", "two"] 2 2 ph_pair_service := ⟨_, fd_pair_service, ok_pair_service F_pair_service T c_pair_prices c_pair_costs pf_pair_service, He.glo_ok X G (c.fact 8 (f := .glo "pair_service") rfl), F_pair_service.kp, F_pair_service.bindsN fun _ _ _ _ _ _ us hl => match us, hl with | [_, _], _ => rfl⟩
  have c_pair_book : Cal P w K mg base "pair_book" ["one", "two", "tasks"] 2 3 ph_pair_book := ⟨_, fd_pair_book, ok_pair_book F_pair_book T c_pair_room pf_pair_book, He.glo_ok X G (c.fact 9 (f := .glo "pair_book") rfl), F_pair_book.kp, F_pair_book.bindsN fun _ _ _ _ _ _ us hl => match us, hl with | [_, _, _], _ => rfl⟩
  have c_law_pick : Cal P w K mg base "_law_pick" ["box", "some"] 2 2 ph_law_pick := ⟨_, fd_law_pick, ok_law_pick F_law_pick T c_law_take pf_law_pick, He.glo_ok X G (c.fact 10 (f := .glo "_law_pick") rfl), F_law_pick.kp, F_law_pick.bindsN fun _ _ _ _ _ _ us hl => match us, hl with | [_, _], _ => rfl⟩
  have c_law_beside : Cal P w K mg base "_law_beside" ["one", "two"] 2 2 ph_law_beside := ⟨_, fd_law_beside, ok_law_beside F_law_beside T c_law_paired pf_law_beside, He.glo_ok X G (c.fact 11 (f := .glo "_law_beside") rfl), F_law_beside.kp, F_law_beside.bindsN fun _ _ _ _ _ _ us hl => match us, hl with | [_, _], _ => rfl⟩
  have c_both_case : Cal P w K mg base "both_case" ["one", "two"] 3 2 ph_both_case := ⟨_, fd_both_case, ok_both_case F_both_case T c_pair_service c_pair_book pf_both_case, He.glo_ok X G (c.fact 12 (f := .glo "both_case") rfl), F_both_case.kp, F_both_case.bindsN fun _ _ _ _ _ _ us hl => match us, hl with | [_, _], _ => rfl⟩
  have k_both_case : CalK P w K mg base "both_case" ["one", "two"] ["one", "two"] 3 2 ph_both_case @idK := ⟨_, fd_both_case, ok_both_case F_both_case T c_pair_service c_pair_book pf_both_case, He.glo_ok X G (c.fact 12 (f := .glo "both_case") rfl), F_both_case.kp, kb_of F_both_case (fun _ _ _ _ _ _ ws hl => match ws, hl with | [_, _], _ => rfl) (fun r => r) (fun _ h => h)⟩
  have c_law_service : Cal P w K mg base "_law_service" ["box", "standings", "tasks", "dear", "bars"] 3 5 ph_law_service := ⟨_, fd_law_service, ok_law_service F_law_service T c_law_closed c_law_take c_law_pick pf_law_service, He.glo_ok X G (c.fact 13 (f := .glo "_law_service") rfl), F_law_service.kp, F_law_service.bindsN fun _ _ _ _ _ _ us hl => match us, hl with | [_, _, _, _, _], _ => rfl⟩
  have c_law_book : Cal P w K mg base "_law_book" ["box", "rooms", "signs", "tasks", "worst"] 3 5 ph_law_book := ⟨_, fd_law_book, ok_law_book F_law_book T c_law_pick c_law_take pf_law_book, He.glo_ok X G (c.fact 14 (f := .glo "_law_book") rfl), F_law_book.kp, F_law_book.bindsN fun _ _ _ _ _ _ us hl => match us, hl with | [_, _, _, _, _], _ => rfl⟩
  have c_law_case : Cal P w K mg base "_law_case" ["box", "standings", "rooms", "signs", "dear"] 4 5 ph_law_case := ⟨_, fd_law_case, ok_law_case F_law_case T c_law_service c_law_take c_law_pick c_law_book pf_law_case, He.glo_ok X G (c.fact 15 (f := .glo "_law_case") rfl), F_law_case.kp, F_law_case.bindsN fun _ _ _ _ _ _ us hl => match us, hl with | [_, _, _, _, _], _ => rfl⟩
  have c_law_wide : Cal P w K mg base "_law_wide" ["box", "standings"] 4 2 ph_law_wide := ⟨_, fd_law_wide, ok_law_wide F_law_wide T c_law_service c_law_take c_law_pick c_law_book pf_law_wide, He.glo_ok X G (c.fact 16 (f := .glo "_law_wide") rfl), F_law_wide.kp, F_law_wide.bindsN fun _ _ _ _ _ _ us hl => match us, hl with | [_, _], _ => rfl⟩
  have r_0 : Cal P w K mg base "_law_same" ["told", "due"] 0 2 (fun _ _ => False) := ⟨_, fd_law_same, ok_none, He.glo_ok X G (c.fact 17 (f := .glo "_law_same") rfl), F_law_same.kp, F_law_same.bindsN fun _ _ _ _ _ _ us hl => match us, hl with | [_, _], _ => rfl⟩
  have r_1 : Cal P w K mg base "_law_same" ["told", "due"] 1 2 (ph_same 0) := ⟨_, fd_law_same, ok_law_same (Nat.le_refl 0) F_law_same T r_0 pf_law_same0, He.glo_ok X G (c.fact 17 (f := .glo "_law_same") rfl), F_law_same.kp, F_law_same.bindsN fun _ _ _ _ _ _ us hl => match us, hl with | [_, _], _ => rfl⟩
  have r_2 : Cal P w K mg base "_law_same" ["told", "due"] 2 2 (ph_same 1) := ⟨_, fd_law_same, ok_law_same (Nat.le_refl 1) F_law_same T r_1 (pf_law_same 0), He.glo_ok X G (c.fact 17 (f := .glo "_law_same") rfl), F_law_same.kp, F_law_same.bindsN fun _ _ _ _ _ _ us hl => match us, hl with | [_, _], _ => rfl⟩
  have r_3 : Cal P w K mg base "_law_same" ["told", "due"] 3 2 (ph_same 2) := ⟨_, fd_law_same, ok_law_same (Nat.le_refl 2) F_law_same T r_2 (pf_law_same 1), He.glo_ok X G (c.fact 17 (f := .glo "_law_same") rfl), F_law_same.kp, F_law_same.bindsN fun _ _ _ _ _ _ us hl => match us, hl with | [_, _], _ => rfl⟩
  have r_4 : Cal P w K mg base "_law_same" ["told", "due"] 4 2 (ph_same 3) := ⟨_, fd_law_same, ok_law_same (Nat.le_refl 3) F_law_same T r_3 (pf_law_same 2), He.glo_ok X G (c.fact 17 (f := .glo "_law_same") rfl), F_law_same.kp, F_law_same.bindsN fun _ _ _ _ _ _ us hl => match us, hl with | [_, _], _ => rfl⟩
  have r_5 : Cal P w K mg base "_law_same" ["told", "due"] 5 2 (ph_same 4) := ⟨_, fd_law_same, ok_law_same (Nat.le_refl 4) F_law_same T r_4 (pf_law_same 3), He.glo_ok X G (c.fact 17 (f := .glo "_law_same") rfl), F_law_same.kp, F_law_same.bindsN fun _ _ _ _ _ _ us hl => match us, hl with | [_, _], _ => rfl⟩
  have c_law_same : Cal P w K mg base "_law_same" ["told", "due"] 5 2 ph_law_same := r_5
  have c_law_fixed : Cal P w K mg base "_law_fixed" [] 6 0 ph_law_fixed := ⟨_, fd_law_fixed, ok_law_fixed F_law_fixed T c_law_same c_both_case k_both_case pf_law_fixed, He.glo_ok X G (c.fact 18 (f := .glo "_law_fixed") rfl), F_law_fixed.kp, F_law_fixed.bindsN fun _ _ _ _ _ _ us hl => match us, hl with | [], _ => rfl⟩
  exact ok_law F_law T c_law_fixed c_law_box c_law_pick c_law_beside c_both_case c_law_case c_law_ring c_law_wide c_law_same c_law_take pf_law
end VL
open PySem PySem.W PySem.Calls PyProof.Rows
theorem PySem.Challenge.cw_wordsworth_k75_two_cases_side_by_side_holds : PySem.Challenge.rw_wordsworth_k75_two_cases_side_by_side.Holds := by
  w_on; o_law
  refine HandSHeadRun.head_any (r := OpenLaw.row PySem.Challenge.rw_wordsworth_k75_two_cases_side_by_side) (q := view (OpenLaw.row PySem.Challenge.rw_wordsworth_k75_two_cases_side_by_side).prog [23]) (H := VL.hk) (ob := VL.ob) (M := 4000) (loose := ["pair_prices", "pair_costs", "pair_room", "_law_take", "_law_closed", "_law_ring", "_law_paired", "_law_box", "pair_service", "pair_book", "_law_pick", "_law_beside", "both_case", "_law_service", "_law_book", "_law_case", "_law_wide", "_law_same", "_law_fixed", "OwnError"]) (d := HandSHeadRun.topDef (OpenLaw.row PySem.Challenge.rw_wordsworth_k75_two_cases_side_by_side).prog 23) (kwd := []) VL.ob_eq
    (by kernel_rfl) (fun s => by kernel_rfl) VL.run (by kernel_rfl) (by kernel_rfl) (by kernel_rfl) (by rfl) (by first | assumption | decide +kernel) (by decide +kernel) ⟨rfl, rfl, rfl, rfl, rfl, by decide +kernel⟩ ?hw ?hc
  case hw => w_witness2
  case hc =>
    refine L2.walk_ofE (l := PySem.Challenge.rw_wordsworth_k75_two_cases_side_by_side) (n := 63) (k := 7) (x := "script") (CX := L2.CX0) rfl (by decide) (by kernel_rfl) ⟨rfl, by decide, by decide⟩ ?F (fun _ _ _ _ z => z)
    intro w mg fa h Y G hmg0
    obtain ⟨K, KX, c⟩ := Y
    have hmg : mg ("law" : PySem.Str) = some (.ref fa) := by
      have e : (HandSHeadRun.topDef (OpenLaw.row PySem.Challenge.rw_wordsworth_k75_two_cases_side_by_side).prog 23).name = ("law" : PySem.Str) := by kernel_rfl
      rw [← e]
      exact hmg0
    obtain ⟨fd, hb, hF⟩ := VL.facts (P := (PySem.Challenge.rw_wordsworth_k75_two_cases_side_by_side).prog) (w := w) KX G hmg c
    exact ⟨K, fd, _, KX, hb, fun H a ns hl _ hS => VL.law_sp H a ns hl hS, hF⟩
