import PyProof.Rows.All
import Wide.All
import OpenK.AllK
import Wide.FinOn
import HandS.ForMost
import HandS.ForExc
import HandS.Defaults
import HandS.ExcOwn
import HandS.Ends
import HandS.Deep
import HandS.Wide
import HandS.IsInst
import HandS.SetFor
import HandS.More
import HandS.Words
import HandS.WordsExc
import HandS.Head0
import HandS.Head1
import HandS.Head2
import HandS.HeadEnd
import HandS.HeadHook1
import HandS.HeadHook2
import HandS.EndBits
import KE.KStateDown
import Lean
import HandS.Conv
import HandS.Codes
import HandS.Style
import HandS.ExcInit
import HandS.ClsMeth
import HandS.TryMany
import HandS.ExcField
import HandS.HeadHook4
import HandS.Dict
import HandS.RaiseMore
import PyProof.ReprText
import HandS.List
import PyProof.Rows.StrMeet
import PyProof.Rows.StrMul
import PyProof.Rows.SortShellAny
import PyProof.EqAt
import HandS.Text
import HandS.HeadHook3
import HandS.Flow
import HandS.Strs
import HandS.SetKeys
import HandS.Rev
import HandS.NoneIn
import HandS.Finally
import PyProof.StrLawsRepr
import PySem.Challenge.RW_reachmarks_k16_markings_told
set_option Elab.async false
set_option linter.all false
set_option maxRecDepth 100000
set_option maxHeartbeats 0
namespace Rm
open PySem PySem.Spec L2
/-- pure data -/
inductive D where
  | non | bl (b : Bool) | int (i : Int) | str (x : Str)
  | tup (xs : List D) | lst (xs : List D)
  | dK (kvs : List (Key × D)) | dT (kvs : List (List Key × D))
  | ins (c : Nat) (fs : List (Str × D))
  | fn (n : Nat)
  /-- a list that is only read (the script) -/
  | rol (xs : List D)
  /-- a built-in class, a class of the text -/
  | ty (n : String) | cls (c : Nat)
  /-- what stands at a -/
  | tok (a : Addr) (d : D)
  deriving Inhabited
/-- where the text's classes and defs stand -/
structure Gx0 where
  K : PySem.W.Frag
  cl : Nat → Addr
  fa : Nat → Addr
abbrev Rg := Addr → Prop
mutual
def Den (G : Gx0) (S : Rg) (H : Hp) : D → V → Prop
  | .non, v => v = .non
  | .bl b, v => v = .bl b
  | .int i, v => v = .int i
  | .str x, v => v = .str x
  | .tup ds, v => ∃ a vs, v = .ref a ∧ ((S a ∧ Rd H a (.tup vs)) ∨ (∀ H', SqT G.K H' a vs)) ∧ DenL G S H ds vs
  | .lst ds, v => ∃ a vs, v = .ref a ∧ S a ∧ H a = some (.lst vs) ∧ DenL G S H ds vs
  | .rol ds, v => ∃ a vs, v = .ref a ∧ ((S a ∧ Rd H a (.lst vs)) ∨ (∀ H', SqL G.K H' a vs)) ∧ DenL G S H ds vs
  | .dK kvs, v => ∃ a ws, v = .ref a ∧ S a ∧ Rd H a (.dK ws) ∧ DenK G S H kvs ws
  | .dT kvs, v => ∃ a ws, v = .ref a ∧ S a ∧ Rd H a (.dT ws) ∧ DenT G S H kvs ws
  | .ins c fs, v => ∃ a dx ws, v = .ref a ∧ S a ∧ S dx ∧ H a = some (.ins (G.cl c) dx ws) ∧ H dx = some (.own a) ∧ DenF G S H fs ws
  | .fn n, v => v = .ref (G.fa n)
  | .ty n, v => v = .ty n
  | .cls c, v => v = .ref (G.cl c)
  | .tok a d, v => v = .ref a ∧ Den G S H d v
def DenL (G : Gx0) (S : Rg) (H : Hp) : List D → List V → Prop
  | [], vs => vs = []
  | d :: ds, vs => ∃ v r, vs = v :: r ∧ Den G S H d v ∧ DenL G S H ds r
def DenK (G : Gx0) (S : Rg) (H : Hp) : List (Key × D) → List (Key × V) → Prop
  | [], vs => vs = []
  | (k, d) :: ds, vs => ∃ v r, vs = (k, v) :: r ∧ Den G S H d v ∧ DenK G S H ds r
def DenT (G : Gx0) (S : Rg) (H : Hp) : List (List Key × D) → List (List Key × V) → Prop
  | [], vs => vs = []
  | (k, d) :: ds, vs => ∃ v r, vs = (k, v) :: r ∧ Den G S H d v ∧ DenT G S H ds r
def DenF (G : Gx0) (S : Rg) (H : Hp) : List (Str × D) → List (Str × V) → Prop
  | [], vs => vs = []
  | (k, d) :: ds, vs => ∃ v r, vs = (k, v) :: r ∧ Den G S H d v ∧ DenF G S H ds r
end
/-- a dict that a loop walks is locked: it reads as ever -/
def vw : Option HO → Option HO
  | some (.frz _ (.dK k)) => some (.dK k)
  | some (.frz _ (.dT k)) => some (.dT k)
  | o => o
/-- more is shared; what is shared stays -/
def Grow (S : Rg) (H : Hp) (S' : Rg) (H' : Hp) : Prop := ∀ a, S a → S' a ∧ H' a = H a
theorem Grow.refl {S H} : Grow S H S H := fun _ h => ⟨h, rfl⟩
theorem Grow.trans {S H S' H' S'' H''} (h : Grow S H S' H') (k : Grow S' H' S'' H'') : Grow S H S'' H'' := fun a s =>
  have p := h a s
  have q := k a p.1
  ⟨q.1, q.2.trans p.2⟩
theorem Grow.of {S H S' H'} (h : ∀ a, S a → S' a ∧ H' a = H a) : Grow S H S' H' := h
/-- .. as it reads: a dict may be locked, unlocked -/
def GrowW (S : Rg) (H : Hp) (S' : Rg) (H' : Hp) : Prop := ∀ a, S a → S' a ∧ vw (H' a) = vw (H a)
theorem Grow.w {S H S' H'} (h : Grow S H S' H') : GrowW S H S' H' := fun a s => ⟨(h a s).1, by rw [(h a s).2]⟩
theorem vw_lst {o : Option HO} {vs} (h : vw o = some (.lst vs)) : o = some (.lst vs) := by
  unfold vw at h; split at h <;> first | exact h | cases h
theorem vw_tup {o : Option HO} {vs} (h : vw o = some (.tup vs)) : o = some (.tup vs) := by
  unfold vw at h; split at h <;> first | exact h | cases h
theorem vw_ins {o : Option HO} {c d fs} (h : vw o = some (.ins c d fs)) : o = some (.ins c d fs) := by
  unfold vw at h; split at h <;> first | exact h | cases h
theorem vw_own {o : Option HO} {c} (h : vw o = some (.own c)) : o = some (.own c) := by
  unfold vw at h; split at h <;> first | exact h | cases h
theorem vw_xd {o : Option HO} {c} (h : vw o = some (.xd c)) : o = some (.xd c) := by
  unfold vw at h; split at h <;> first | exact h | cases h
theorem vw_frz {o : Option HO} {ob u} (h : vw o = some (.frz ob u)) : o = some (.frz ob u) := by
  unfold vw at h; split at h <;> first | exact h | cases h
theorem vw_dK {o : Option HO} {k} (h : vw o = some (.dK k)) : o = some (.dK k) ∨ ∃ ob, o = some (.frz ob (.dK k)) := by
  unfold vw at h
  split at h
  · cases h; exact .inr ⟨_, rfl⟩
  · cases h
  · exact .inl h
theorem vw_dT {o : Option HO} {k} (h : vw o = some (.dT k)) : o = some (.dT k) ∨ ∃ ob, o = some (.frz ob (.dT k)) := by
  unfold vw at h
  split at h
  · cases h
  · cases h; exact .inr ⟨_, rfl⟩
  · exact .inl h
theorem vw_none {o : Option HO} (h : o ≠ none) : vw o ≠ none := by
  unfold vw
  split
  · intro q; cases q
  · intro q; cases q
  · exact h
theorem Rd.growW {S H S' H' a u} (g : GrowW S H S' H') (s : S a) (h : Rd H a u) (hu : (∃ vs, u = .lst vs) ∨ (∃ vs, u = .tup vs) ∨ (∃ k, u = .dK k) ∨ (∃ k, u = .dT k)) : Rd H' a u := by
  have e := (g a s).2
  rcases hu with ⟨vs, rfl⟩ | ⟨vs, rfl⟩ | ⟨vs, rfl⟩ | ⟨vs, rfl⟩
  · rcases h with h | ⟨o, h⟩
    · rw [h] at e; exact .inl (vw_lst e)
    · rw [h] at e; exact .inr ⟨o, vw_frz e⟩
  · rcases h with h | ⟨o, h⟩
    · rw [h] at e; exact .inl (vw_tup e)
    · rw [h] at e; exact .inr ⟨o, vw_frz e⟩
  · rcases h with h | ⟨o, h⟩
    · rw [h] at e; exact vw_dK e
    · rw [h] at e; exact vw_dK e
  · rcases h with h | ⟨o, h⟩
    · rw [h] at e; exact vw_dT e
    · rw [h] at e; exact vw_dT e
mutual
theorem Den.growW {G S H S' H'} (g : GrowW S H S' H') : ∀ {d v}, Den G S H d v → Den G S' H' d v
  | .non, _, h | .bl _, _, h | .int _, _, h | .str _, _, h | .fn _, _, h | .ty _, _, h | .cls _, _, h => by simpa only [Den] using h
  | .tup ds, v, h => by
    simp only [Den] at h ⊢
    obtain ⟨a, vs, e, q, l⟩ := h
    refine ⟨a, vs, e, ?_, DenL.growW g l⟩
    rcases q with ⟨s, r⟩ | q
    · exact .inl ⟨(g a s).1, Rd.growW g s r (.inr (.inl ⟨_, rfl⟩))⟩
    · exact .inr q
  | .lst ds, v, h => by
    simp only [Den] at h ⊢
    obtain ⟨a, vs, e, s, r, l⟩ := h
    exact ⟨a, vs, e, (g a s).1, vw_lst ((g a s).2.trans (by rw [r]; rfl)), DenL.growW g l⟩
  | .rol ds, v, h => by
    simp only [Den] at h ⊢
    obtain ⟨a, vs, e, q, l⟩ := h
    refine ⟨a, vs, e, ?_, DenL.growW g l⟩
    rcases q with ⟨s, r⟩ | q
    · exact .inl ⟨(g a s).1, Rd.growW g s r (.inl ⟨_, rfl⟩)⟩
    · exact .inr q
  | .dK ds, v, h => by
    simp only [Den] at h ⊢
    obtain ⟨a, vs, e, s, r, l⟩ := h
    exact ⟨a, vs, e, (g a s).1, Rd.growW g s r (.inr (.inr (.inl ⟨_, rfl⟩))), DenK.growW g l⟩
  | .dT ds, v, h => by
    simp only [Den] at h ⊢
    obtain ⟨a, vs, e, s, r, l⟩ := h
    exact ⟨a, vs, e, (g a s).1, Rd.growW g s r (.inr (.inr (.inr ⟨_, rfl⟩))), DenT.growW g l⟩
  | .ins c ds, v, h => by
    simp only [Den] at h ⊢
    obtain ⟨a, dx, vs, e, s, s2, r, r2, l⟩ := h
    exact ⟨a, dx, vs, e, (g a s).1, (g dx s2).1, vw_ins ((g a s).2.trans (by rw [r]; rfl)), vw_own ((g dx s2).2.trans (by rw [r2]; rfl)), DenF.growW g l⟩
  | .tok a d, v, h => by
    simp only [Den] at h ⊢
    exact ⟨h.1, Den.growW g h.2⟩
theorem DenL.growW {G S H S' H'} (g : GrowW S H S' H') : ∀ {d v}, DenL G S H d v → DenL G S' H' d v
  | [], _, h => by simpa only [DenL] using h
  | d :: ds, v, h => by
    simp only [DenL] at h ⊢
    obtain ⟨v, r, e, p, q⟩ := h
    exact ⟨v, r, e, Den.growW g p, DenL.growW g q⟩
theorem DenK.growW {G S H S' H'} (g : GrowW S H S' H') : ∀ {d v}, DenK G S H d v → DenK G S' H' d v
  | [], _, h => by simpa only [DenK] using h
  | (k, d) :: ds, v, h => by
    simp only [DenK] at h ⊢
    obtain ⟨v, r, e, p, q⟩ := h
    exact ⟨v, r, e, Den.growW g p, DenK.growW g q⟩
theorem DenT.growW {G S H S' H'} (g : GrowW S H S' H') : ∀ {d v}, DenT G S H d v → DenT G S' H' d v
  | [], _, h => by simpa only [DenT] using h
  | (k, d) :: ds, v, h => by
    simp only [DenT] at h ⊢
    obtain ⟨v, r, e, p, q⟩ := h
    exact ⟨v, r, e, Den.growW g p, DenT.growW g q⟩
theorem DenF.growW {G S H S' H'} (g : GrowW S H S' H') : ∀ {d v}, DenF G S H d v → DenF G S' H' d v
  | [], _, h => by simpa only [DenF] using h
  | (k, d) :: ds, v, h => by
    simp only [DenF] at h ⊢
    obtain ⟨v, r, e, p, q⟩ := h
    exact ⟨v, r, e, Den.growW g p, DenF.growW g q⟩
end
theorem Rd.grow {S H S' H' a u} (g : Grow S H S' H') (s : S a) (h : Rd H a u) (hu : (∃ vs, u = .lst vs) ∨ (∃ vs, u = .tup vs) ∨ (∃ k, u = .dK k) ∨ (∃ k, u = .dT k)) : Rd H' a u := Rd.growW g.w s h hu
theorem Den.grow {G S H S' H'} (g : Grow S H S' H') {d v} (h : Den G S H d v) : Den G S' H' d v := h.growW g.w
theorem DenL.grow {G S H S' H'} (g : Grow S H S' H') {d v} (h : DenL G S H d v) : DenL G S' H' d v := h.growW g.w
theorem DenK.grow {G S H S' H'} (g : Grow S H S' H') {d v} (h : DenK G S H d v) : DenK G S' H' d v := h.growW g.w
theorem DenT.grow {G S H S' H'} (g : Grow S H S' H') {d v} (h : DenT G S H d v) : DenT G S' H' d v := h.growW g.w
theorem DenF.grow {G S H S' H'} (g : Grow S H S' H') {d v} (h : DenF G S H d v) : DenF G S' H' d v := h.growW g.w
/-- .. and what else holds of the region, whatever is done -/
structure Gx extends Gx0 where
  Φ : Rg → Hp → Prop
  st : ∀ S H S' H', GrowW S H S' H' → Φ S H → Φ S' H'
instance : Coe Gx Gx0 := ⟨Gx.toGx0⟩
abbrev gx (K : PySem.W.Frag) (cl fa : Nat → Addr) : Gx := ⟨⟨K, cl, fa⟩, fun _ _ => True, fun _ _ _ _ _ _ => trivial⟩
end Rm
namespace Rm
open PySem PySem.Spec L2
def All3 (P : D → V → List Addr → Prop) : List D → List V → List Addr → Prop
  | [], vs, M => vs = [] ∧ M = []
  | d :: ds, vs, M => ∃ v r L1 L2, vs = v :: r ∧ M = L1 ++ L2 ∧ P d v L1 ∧ All3 P ds r L2
/-- owned down to a depth; the addresses that are owned -/
def DenO (G : Gx0) (S : Rg) (H : Hp) : Nat → D → V → List Addr → Prop
  | 0, d, v, L => Den G S H d v ∧ L = []
  | k + 1, .lst ds, v, L => ∃ a vs M, v = .ref a ∧ H a = some (.lst vs) ∧ L = a :: M ∧ All3 (DenO G S H k) ds vs M
  | k + 1, .dK ds, v, L => ∃ a ws M, v = .ref a ∧ H a = some (.dK ws) ∧ L = a :: M ∧ ws.map (·.1) = ds.map (·.1) ∧ All3 (DenO G S H k) (ds.map (·.2)) (ws.map (·.2)) M
  | k + 1, .dT ds, v, L => ∃ a ws M, v = .ref a ∧ H a = some (.dT ws) ∧ L = a :: M ∧ ws.map (·.1) = ds.map (·.1) ∧ All3 (DenO G S H k) (ds.map (·.2)) (ws.map (·.2)) M
  | k + 1, .ins c ds, v, L => ∃ a dx ws M, v = .ref a ∧ H a = some (.ins (G.cl c) dx ws) ∧ H dx = some (.own a) ∧ L = a :: dx :: M ∧ ws.map (·.1) = ds.map (·.1) ∧ All3 (DenO G S H k) (ds.map (·.2)) (ws.map (·.2)) M
  | _ + 1, d, v, L => Den G S H d v ∧ L = []
theorem All3.imp {P Q : D → V → List Addr → Prop} : ∀ {ds vs M}, (∀ d v L, (∀ a ∈ L, a ∈ M) → P d v L → Q d v L) → All3 P ds vs M → All3 Q ds vs M
  | [], _, _, _, h => h
  | d :: ds, vs, M, f, h => by
    obtain ⟨v, r, L1, L2, e1, e2, p, q⟩ := h
    subst e2
    exact ⟨v, r, L1, L2, e1, rfl, f _ _ _ (fun a m => List.mem_append_left _ m) p, All3.imp (fun d v L hs => f d v L fun a m => List.mem_append_right _ (hs a m)) q⟩
theorem DenK_iff {G S H} : ∀ {kvs : List (Key × D)} {ws}, DenK G S H kvs ws ↔ ws.map (·.1) = kvs.map (·.1) ∧ DenL G S H (kvs.map (·.2)) (ws.map (·.2))
  | [], ws => by cases ws <;> simp [DenK, DenL]
  | (k, d) :: r, ws => by
    cases ws with
    | nil => simp [DenK, DenL]
    | cons w ws =>
      obtain ⟨k', v⟩ := w
      simp only [DenK, DenL, List.map_cons, List.cons.injEq, Prod.mk.injEq]
      constructor
      · rintro ⟨v', r', ⟨⟨rfl, rfl⟩, rfl⟩, h, q⟩
        have := DenK_iff.mp q
        exact ⟨⟨rfl, this.1⟩, _, _, ⟨rfl, rfl⟩, h, this.2⟩
      · rintro ⟨⟨rfl, e⟩, v', r', ⟨rfl, e2⟩, h, q⟩
        subst e2
        exact ⟨_, _, ⟨⟨rfl, rfl⟩, rfl⟩, h, DenK_iff.mpr ⟨e, q⟩⟩
theorem DenT_iff {G S H} : ∀ {kvs : List (List Key × D)} {ws}, DenT G S H kvs ws ↔ ws.map (·.1) = kvs.map (·.1) ∧ DenL G S H (kvs.map (·.2)) (ws.map (·.2))
  | [], ws => by cases ws <;> simp [DenT, DenL]
  | (k, d) :: r, ws => by
    cases ws with
    | nil => simp [DenT, DenL]
    | cons w ws =>
      obtain ⟨k', v⟩ := w
      simp only [DenT, DenL, List.map_cons, List.cons.injEq, Prod.mk.injEq]
      constructor
      · rintro ⟨v', r', ⟨⟨rfl, rfl⟩, rfl⟩, h, q⟩
        have := DenT_iff.mp q
        exact ⟨⟨rfl, this.1⟩, _, _, ⟨rfl, rfl⟩, h, this.2⟩
      · rintro ⟨⟨rfl, e⟩, v', r', ⟨rfl, e2⟩, h, q⟩
        subst e2
        exact ⟨_, _, ⟨⟨rfl, rfl⟩, rfl⟩, h, DenT_iff.mpr ⟨e, q⟩⟩
theorem DenF_iff {G S H} : ∀ {kvs : List (Str × D)} {ws}, DenF G S H kvs ws ↔ ws.map (·.1) = kvs.map (·.1) ∧ DenL G S H (kvs.map (·.2)) (ws.map (·.2))
  | [], ws => by cases ws <;> simp [DenF, DenL]
  | (k, d) :: r, ws => by
    cases ws with
    | nil => simp [DenF, DenL]
    | cons w ws =>
      obtain ⟨k', v⟩ := w
      simp only [DenF, DenL, List.map_cons, List.cons.injEq, Prod.mk.injEq]
      constructor
      · rintro ⟨v', r', ⟨⟨rfl, rfl⟩, rfl⟩, h, q⟩
        have := DenF_iff.mp q
        exact ⟨⟨rfl, this.1⟩, _, _, ⟨rfl, rfl⟩, h, this.2⟩
      · rintro ⟨⟨rfl, e⟩, v', r', ⟨rfl, e2⟩, h, q⟩
        subst e2
        exact ⟨_, _, ⟨⟨rfl, rfl⟩, rfl⟩, h, DenF_iff.mpr ⟨e, q⟩⟩
theorem All3_zero {G S H} : ∀ {ds vs M}, All3 (DenO G S H 0) ds vs M ↔ DenL G S H ds vs ∧ M = []
  | [], vs, M => by simp [All3, DenL]
  | d :: ds, vs, M => by
    constructor
    · rintro ⟨v, r, L1, L2, rfl, rfl, p, q⟩
      have q' := All3_zero.mp q
      have p' : Den G S H d v ∧ L1 = [] := p
      exact ⟨by simp only [DenL]; exact ⟨v, r, rfl, p'.1, q'.1⟩, by rw [p'.2, q'.2]; rfl⟩
    · rintro ⟨h, rfl⟩
      simp only [DenL] at h
      obtain ⟨v, r, rfl, p, q⟩ := h
      exact ⟨v, r, [], [], rfl, rfl, ⟨p, rfl⟩, All3_zero.mpr ⟨q, rfl⟩⟩
/-- what is owned becomes shared -/
theorem All3.freeze {G S H S'} {k : Nat} (ih : ∀ d v L, (∀ a ∈ L, S' a) → DenO G S H k d v L → Den G S' H d v) : ∀ {ds vs M}, (∀ a ∈ M, S' a) → All3 (DenO G S H k) ds vs M → DenL G S' H ds vs
  | [], _, _, _, h => h.1
  | d :: ds, vs, M, f, h => by
    obtain ⟨v, r, L1, L2, e1, e2, p, q⟩ := h
    subst e2
    exact ⟨v, r, e1, ih _ _ _ (fun a m => f a (List.mem_append_left _ m)) p, All3.freeze ih (fun a m => f a (List.mem_append_right _ m)) q⟩
theorem DenO.freeze {G S H S'} (g : ∀ a, S a → S' a) : ∀ {k : Nat} {d v L}, (∀ a ∈ L, S' a) → DenO G S H k d v L → Den G S' H d v
  | 0, d, v, L, _, h => h.1.grow (Grow.of fun a s => ⟨g a s, rfl⟩)
  | k + 1, .lst ds, v, L, f, h => by
    obtain ⟨a, vs, M, rfl, e, rfl, q⟩ := h
    simp only [Den]
    exact ⟨a, vs, rfl, f a (List.mem_cons_self ..), e, All3.freeze (fun _ _ _ f h => DenO.freeze g f h) (fun b m => f b (List.mem_cons_of_mem _ m)) q⟩
  | k + 1, .dK ds, v, L, f, h => by
    obtain ⟨a, vs, M, rfl, e, rfl, kk, q⟩ := h
    simp only [Den]
    exact ⟨a, vs, rfl, f a (List.mem_cons_self ..), .inl e, DenK_iff.mpr ⟨kk, All3.freeze (fun _ _ _ f h => DenO.freeze g f h) (fun b m => f b (List.mem_cons_of_mem _ m)) q⟩⟩
  | k + 1, .dT ds, v, L, f, h => by
    obtain ⟨a, vs, M, rfl, e, rfl, kk, q⟩ := h
    simp only [Den]
    exact ⟨a, vs, rfl, f a (List.mem_cons_self ..), .inl e, DenT_iff.mpr ⟨kk, All3.freeze (fun _ _ _ f h => DenO.freeze g f h) (fun b m => f b (List.mem_cons_of_mem _ m)) q⟩⟩
  | k + 1, .ins c ds, v, L, f, h => by
    obtain ⟨a, dx, vs, M, rfl, e, e2, rfl, kk, q⟩ := h
    simp only [Den]
    exact ⟨a, dx, vs, rfl, f a (List.mem_cons_self ..), f dx (List.mem_cons_of_mem _ (List.mem_cons_self ..)), e, e2, DenF_iff.mpr ⟨kk, All3.freeze (fun _ _ _ f h => DenO.freeze g f h) (fun b m => f b (List.mem_cons_of_mem _ (List.mem_cons_of_mem _ m))) q⟩⟩
  | k + 1, .non, v, L, _, h | k + 1, .bl _, v, L, _, h | k + 1, .int _, v, L, _, h | k + 1, .str _, v, L, _, h | k + 1, .tup _, v, L, _, h | k + 1, .fn _, v, L, _, h | k + 1, .rol _, v, L, _, h | k + 1, .ty _, v, L, _, h | k + 1, .cls _, v, L, _, h | k + 1, .tok _ _, v, L, _, h => by
    simp only [DenO] at h
    exact h.1.grow (Grow.of fun a s => ⟨g a s, rfl⟩)
theorem DenO.growW {G S H S' H'} (g : GrowW S H S' H') : ∀ {k : Nat} {d v L}, (∀ a ∈ L, H' a = H a) → DenO G S H k d v L → DenO G S' H' k d v L
  | 0, d, v, L, _, h => ⟨h.1.growW g, h.2⟩
  | k + 1, .lst ds, v, L, f, h => by
    obtain ⟨a, vs, M, rfl, e, rfl, q⟩ := h
    exact ⟨a, vs, M, rfl, (f a (List.mem_cons_self ..)).trans e, rfl, All3.imp (fun d v L hs h => DenO.growW g (fun b m => f b (List.mem_cons_of_mem _ (hs b m))) h) q⟩
  | k + 1, .dK ds, v, L, f, h => by
    obtain ⟨a, vs, M, rfl, e, rfl, kk, q⟩ := h
    exact ⟨a, vs, M, rfl, (f a (List.mem_cons_self ..)).trans e, rfl, kk, All3.imp (fun d v L hs h => DenO.growW g (fun b m => f b (List.mem_cons_of_mem _ (hs b m))) h) q⟩
  | k + 1, .dT ds, v, L, f, h => by
    obtain ⟨a, vs, M, rfl, e, rfl, kk, q⟩ := h
    exact ⟨a, vs, M, rfl, (f a (List.mem_cons_self ..)).trans e, rfl, kk, All3.imp (fun d v L hs h => DenO.growW g (fun b m => f b (List.mem_cons_of_mem _ (hs b m))) h) q⟩
  | k + 1, .ins c ds, v, L, f, h => by
    obtain ⟨a, dx, vs, M, rfl, e, e2, rfl, kk, q⟩ := h
    exact ⟨a, dx, vs, M, rfl, (f a (List.mem_cons_self ..)).trans e, (f dx (List.mem_cons_of_mem _ (List.mem_cons_self ..))).trans e2, rfl, kk, All3.imp (fun d v L hs h => DenO.growW g (fun b m => f b (List.mem_cons_of_mem _ (List.mem_cons_of_mem _ (hs b m)))) h) q⟩
  | k + 1, .non, v, L, _, h | k + 1, .bl _, v, L, _, h | k + 1, .int _, v, L, _, h | k + 1, .str _, v, L, _, h | k + 1, .tup _, v, L, _, h | k + 1, .fn _, v, L, _, h | k + 1, .rol _, v, L, _, h | k + 1, .ty _, v, L, _, h | k + 1, .cls _, v, L, _, h | k + 1, .tok _ _, v, L, _, h => by
    simp only [DenO] at h ⊢
    exact ⟨h.1.growW g, h.2⟩
theorem DenO.grow {G S H S' H'} (g : Grow S H S' H') {k : Nat} {d v L} (f : ∀ a ∈ L, H' a = H a) (h : DenO G S H k d v L) : DenO G S' H' k d v L := DenO.growW g.w f h
/-- an owned object, field by field: shared (none), owned down to a depth -/
def AllF (G : Gx0) (S : Rg) (H : Hp) : List (Option Nat) → List D → List V → List Addr → Prop
  | [], [], vs, M => vs = [] ∧ M = []
  | k :: ks, d :: ds, vs, M => ∃ v r L1 L2, vs = v :: r ∧ M = L1 ++ L2 ∧ (match k with | none => L1 = [] ∧ Den G S H d v | some j => DenO G S H (j + 1) d v L1) ∧ AllF G S H ks ds r L2
  | _, _, _, _ => False
inductive Own where
  | n (k : Nat) | ob (ks : List (Option Nat))
  /-- a tuple whose parts are shared (none), owned -/
  | tp (ks : List (Option Nat))
  deriving DecidableEq
instance (n : Nat) : OfNat Own n := ⟨.n n⟩
def DenW (G : Gx0) (S : Rg) (H : Hp) : Own → D → V → List Addr → Prop
  | .n k, d, v, L => DenO G S H (k + 1) d v L
  | .ob ks, .ins c fs, v, L => ∃ a dx ws M, v = .ref a ∧ H a = some (.ins (G.cl c) dx ws) ∧ H dx = some (.own a) ∧ L = a :: dx :: M ∧ ws.map (·.1) = fs.map (·.1) ∧ AllF G S H ks (fs.map (·.2)) (ws.map (·.2)) M
  | .ob _, d, v, L => Den G S H d v ∧ L = []
  | .tp ks, .tup ds, v, L => ∃ a vs, v = .ref a ∧ S a ∧ Rd H a (.tup vs) ∧ AllF G S H ks ds vs L
  | .tp _, d, v, L => Den G S H d v ∧ L = []
theorem AllF.freeze {G S H S'} (g : ∀ a, S a → S' a) : ∀ {ks ds vs M}, (∀ a ∈ M, S' a) → AllF G S H ks ds vs M → DenL G S' H ds vs
  | [], [], vs, M, _, h => by simp only [DenL]; exact h.1
  | k :: ks, d :: ds, vs, M, f, h => by
    obtain ⟨v, r, L1, L2, rfl, rfl, p, q⟩ := h
    simp only [DenL]
    refine ⟨v, r, rfl, ?_, AllF.freeze g (fun a m => f a (List.mem_append_right _ m)) q⟩
    cases k with
    | none => exact p.2.grow (Grow.of fun a s => ⟨g a s, rfl⟩)
    | some j => exact DenO.freeze g (fun a m => f a (List.mem_append_left _ m)) p
  | [], _ :: _, _, _, _, h => h.elim
  | _ :: _, [], _, _, _, h => h.elim
theorem AllF.growW {G S H S' H'} (g : GrowW S H S' H') : ∀ {ks ds vs M}, (∀ a ∈ M, H' a = H a) → AllF G S H ks ds vs M → AllF G S' H' ks ds vs M
  | [], [], vs, M, _, h => h
  | k :: ks, d :: ds, vs, M, f, h => by
    obtain ⟨v, r, L1, L2, rfl, rfl, p, q⟩ := h
    refine ⟨v, r, L1, L2, rfl, rfl, ?_, AllF.growW g (fun a m => f a (List.mem_append_right _ m)) q⟩
    cases k with
    | none => exact ⟨p.1, p.2.growW g⟩
    | some j => exact DenO.growW g (fun a m => f a (List.mem_append_left _ m)) p
  | [], _ :: _, _, _, _, h => h.elim
  | _ :: _, [], _, _, _, h => h.elim
theorem AllF.grow {G S H S' H'} (g : Grow S H S' H') {ks ds vs M} (f : ∀ a ∈ M, H' a = H a) (h : AllF G S H ks ds vs M) : AllF G S' H' ks ds vs M := AllF.growW g.w f h
theorem DenW.freeze {G S H S'} (g : ∀ a, S a → S' a) {o : Own} {d v L} (f : ∀ a ∈ L, S' a) (h : DenW G S H o d v L) : Den G S' H d v := by
  cases o with
  | n k => exact DenO.freeze g f h
  | ob ks =>
    cases d with
    | ins c ds =>
      obtain ⟨a, dx, vs, M, rfl, e, e2, rfl, kk, q⟩ := h
      simp only [Den]
      exact ⟨a, dx, vs, rfl, f a (List.mem_cons_self ..), f dx (List.mem_cons_of_mem _ (List.mem_cons_self ..)), e, e2, DenF_iff.mpr ⟨kk, AllF.freeze g (fun b m => f b (List.mem_cons_of_mem _ (List.mem_cons_of_mem _ m))) q⟩⟩
    | _ => exact h.1.grow (Grow.of fun a s => ⟨g a s, rfl⟩)
  | tp ks =>
    cases d with
    | tup ds =>
      obtain ⟨a, vs, rfl, s, e, q⟩ := h
      simp only [Den]
      exact ⟨a, vs, rfl, .inl ⟨g a s, e⟩, AllF.freeze g f q⟩
    | _ => exact h.1.grow (Grow.of fun a s => ⟨g a s, rfl⟩)
theorem DenW.growW {G S H S' H'} (g : GrowW S H S' H') {o : Own} {d v L} (f : ∀ a ∈ L, H' a = H a) (h : DenW G S H o d v L) : DenW G S' H' o d v L := by
  cases o with
  | n k => exact DenO.growW g f h
  | ob ks =>
    cases d with
    | ins c ds =>
      obtain ⟨a, dx, vs, M, rfl, e, e2, rfl, kk, q⟩ := h
      exact ⟨a, dx, vs, M, rfl, (f a (List.mem_cons_self ..)).trans e, (f dx (List.mem_cons_of_mem _ (List.mem_cons_self ..))).trans e2, rfl, kk, AllF.growW g (fun b m => f b (List.mem_cons_of_mem _ (List.mem_cons_of_mem _ m))) q⟩
    | _ => exact ⟨h.1.growW g, h.2⟩
  | tp ks =>
    cases d with
    | tup ds =>
      obtain ⟨a, vs, rfl, s, e, q⟩ := h
      exact ⟨a, vs, rfl, (g a s).1, Rd.growW g s e (.inr (.inl ⟨_, rfl⟩)), AllF.growW g f q⟩
    | _ => exact ⟨h.1.growW g, h.2⟩
theorem DenW.grow {G S H S' H'} (g : Grow S H S' H') {o : Own} {d v L} (f : ∀ a ∈ L, H' a = H a) (h : DenW G S H o d v L) : DenW G S' H' o d v L := DenW.growW g.w f h
/-- kinds: unknown, shared, owned -/
inductive Kd where
  | un | sh | ow (k : Own)
  /-- an exception at hand, at a -/
  | at_ (a : Addr)
  deriving DecidableEq
def Kd.seen : Kd → Bool | .sh => true | .ow _ => true | _ => false
structure Ent where
  k : Kd
  d : D
  v : Option V
def EntOk (G : Gx0) (S : Rg) (H : Hp) (x : Ent) (L : List Addr) : Prop :=
  match x.k with
  | .un => L = []
  | .sh => L = [] ∧ ∃ v, x.v = some v ∧ Den G S H x.d v
  | .ow k => ∃ v, x.v = some v ∧ DenW G S H k x.d v L
  | .at_ a => L = [] ∧ x.v = some (.ref a)
theorem EntOk.growW {G S H S' H' x L} (g : GrowW S H S' H') (f : ∀ a ∈ L, H' a = H a) (h : EntOk G S H x L) : EntOk G S' H' x L := by
  unfold EntOk at h ⊢
  cases e : x.k with
  | un => rw [e] at h; exact h
  | sh => rw [e] at h; obtain ⟨h1, v, h2, h3⟩ := h; exact ⟨h1, v, h2, h3.growW g⟩
  | ow k => rw [e] at h; obtain ⟨v, h2, h3⟩ := h; exact ⟨v, h2, h3.growW g f⟩
  | at_ a => rw [e] at h; exact h
theorem EntOk.grow {G S H S' H' x L} (g : Grow S H S' H') (f : ∀ a ∈ L, H' a = H a) (h : EntOk G S H x L) : EntOk G S' H' x L := EntOk.growW g.w f h
/-- entries with the addresses that they own -/
inductive RelP (G : Gx0) (S : Rg) (H : Hp) : List Ent → List Addr → Prop
  | nil : RelP G S H [] []
  | cons {x xs L M} : EntOk G S H x L → L.Nodup → (∀ a ∈ L, ¬ S a ∧ H a ≠ none ∧ a ∉ M) → RelP G S H xs M → RelP G S H (x :: xs) (L ++ M)
theorem RelP.off {G S H xs L} (h : RelP G S H xs L) : ∀ a ∈ L, ¬ S a ∧ H a ≠ none := by
  induction h with
  | nil => intro a m; cases m
  | cons _ _ f _ ih =>
    intro a m
    rcases List.mem_append.mp m with m | m
    · exact ⟨(f a m).1, (f a m).2.1⟩
    · exact ih a m
theorem RelP.split {G S H} : ∀ {ys xs L}, RelP G S H (ys ++ xs) L → ∃ L1 L2, L = L1 ++ L2 ∧ RelP G S H ys L1 ∧ RelP G S H xs L2 ∧ ∀ a ∈ L1, a ∉ L2
  | [], xs, L, h => ⟨[], L, rfl, .nil, h, fun _ m => nomatch m⟩
  | y :: ys, xs, L, h => by
    cases h with
    | @cons _ _ L0 M he nd f hr =>
      obtain ⟨L1, L2, rfl, h1, h2, dj⟩ := RelP.split hr
      refine ⟨L0 ++ L1, L2, by rw [List.append_assoc], .cons he nd (fun a m => ⟨(f a m).1, (f a m).2.1, fun q => (f a m).2.2 (List.mem_append_left _ q)⟩) h1, h2, fun a m => ?_⟩
      rcases List.mem_append.mp m with m | m
      · exact fun q => (f a m).2.2 (List.mem_append_right _ q)
      · exact dj a m
theorem RelP.join {G S H} : ∀ {ys xs L1 L2}, RelP G S H ys L1 → RelP G S H xs L2 → (∀ a ∈ L1, a ∉ L2) → RelP G S H (ys ++ xs) (L1 ++ L2)
  | _, _, _, _, .nil, h, _ => h
  | _, _, _, L2, .cons (x := x) (xs := xs) (L := L) (M := M) he nd f hr, h, dj => by
    rw [List.append_assoc]
    refine .cons he nd (fun a m => ⟨(f a m).1, (f a m).2.1, fun q => ?_⟩) (RelP.join hr h fun a m => dj a (List.mem_append_right _ m))
    rcases List.mem_append.mp q with q | q
    · exact (f a m).2.2 q
    · exact dj a (List.mem_append_left _ m) q
theorem RelP.keepW {G S H S' H'} (g : GrowW S H S' H') : ∀ {xs L}, (∀ a ∈ L, H' a = H a ∧ ¬ S' a) → RelP G S H xs L → RelP G S' H' xs L
  | _, _, _, .nil => .nil
  | _, _, k, .cons he nd f hr => .cons (he.growW g fun a m => (k a (List.mem_append_left _ m)).1) nd
      (fun a m => ⟨(k a (List.mem_append_left _ m)).2, by rw [(k a (List.mem_append_left _ m)).1]; exact (f a m).2.1, (f a m).2.2⟩)
      (RelP.keepW g (fun a m => k a (List.mem_append_right _ m)) hr)
theorem RelP.keep {G S H S' H'} (g : Grow S H S' H') {xs L} (k : ∀ a ∈ L, H' a = H a ∧ ¬ S' a) (h : RelP G S H xs L) : RelP G S' H' xs L := RelP.keepW g.w k h
theorem RelP.perm {G S H xs ys} (p : xs.Perm ys) : ∀ {L}, RelP G S H xs L → ∃ L', L'.Perm L ∧ RelP G S H ys L' := by
  induction p with
  | nil => exact fun h => ⟨_, .refl _, h⟩
  | cons x p ih =>
    intro L h
    cases h with
    | @cons _ _ L0 M he nd f hr =>
      obtain ⟨L', pl, h'⟩ := ih hr
      exact ⟨L0 ++ L', List.Perm.append_left _ pl, .cons he nd (fun a m => ⟨(f a m).1, (f a m).2.1, fun q => (f a m).2.2 (pl.mem_iff.mp q)⟩) h'⟩
  | swap x y l =>
    intro L h
    cases h with
    | @cons _ _ L0 M he nd f hr =>
      cases hr with
      | @cons _ _ L1 M1 he1 nd1 f1 hr1 =>
        refine ⟨L1 ++ (L0 ++ M1), ?_, .cons he1 nd1 (fun a m => ⟨(f1 a m).1, (f1 a m).2.1, fun q => ?_⟩) (.cons he nd (fun a m => ⟨(f a m).1, (f a m).2.1, fun q => (f a m).2.2 (List.mem_append_right _ q)⟩) hr1)⟩
        · rw [← List.append_assoc, ← List.append_assoc]
          exact List.Perm.append_right _ List.perm_append_comm
        · rcases List.mem_append.mp q with q | q
          · exact (f a q).2.2 (List.mem_append_left _ m)
          · exact (f1 a m).2.2 q
  | trans _ _ ih1 ih2 =>
    intro L h
    obtain ⟨L1, p1, h1⟩ := ih1 h
    obtain ⟨L2, p2, h2⟩ := ih2 h1
    exact ⟨L2, p2.trans p1, h2⟩
structure Al (G : Gx) (S : Rg) (H : Hp) : Prop where
  al : ∀ a, S a → H a ≠ none
  ph : G.Φ S H
def Rel (G : Gx) (S : Rg) (H : Hp) (xs : List Ent) : Prop := Al G S H ∧ ∃ L, RelP G S H xs L
theorem Rel.perm {G : Gx} {S H xs ys} (h : Rel G S H xs) (p : xs.Perm ys) : Rel G S H ys := by
  obtain ⟨al, L, h⟩ := h
  obtain ⟨L', _, h'⟩ := h.perm p
  exact ⟨al, L', h'⟩
/-- the head entry is made into others: the one step of all that is done -/
theorem Rel.step {G : Gx} {S H x xs S' H'} (h : Rel G S H (x :: xs)) {ys : List Ent}
    (f : ∀ L, EntOk G S H x L → L.Nodup → (∀ a ∈ L, ¬ S a ∧ H a ≠ none) → Grow S H S' H' ∧ (∀ a, H a ≠ none → a ∉ L → (S a ∨ H' a = H a)) ∧ (∀ a, S' a → S a ∨ a ∈ L ∨ H a = none) ∧ (∀ a, S' a → H' a ≠ none) ∧
      ∃ L', (∀ a ∈ L', a ∈ L ∨ H a = none) ∧ RelP G S' H' ys L') : Grow S H S' H' ∧ Rel G S' H' (ys ++ xs) := by
  obtain ⟨al, L, h⟩ := h
  cases h with
  | @cons _ _ L0 M he nd f0 hr =>
    obtain ⟨g, k, s', al', L', hl, r⟩ := f L0 he nd fun a m => ⟨(f0 a m).1, (f0 a m).2.1⟩
    refine ⟨g, ⟨al', G.st _ _ _ _ g.w al.ph⟩, L' ++ M, RelP.join r (hr.keep g fun a m => ?_) fun a m q => ?_⟩
    · have o := hr.off a m
      have na : a ∉ L0 := fun q => (f0 a q).2.2 m
      refine ⟨(k a o.2 na).resolve_left o.1, fun s => ?_⟩
      rcases s' a s with s | s | s
      · exact o.1 s
      · exact na s
      · exact o.2 s
    · rcases hl a m with m | m
      · exact (f0 a m).2.2 q
      · exact (hr.off a q).2 m
/-- without looking at any entry -/
theorem Rel.step0 {G : Gx} {S H xs S' H'} (h : Rel G S H xs) {ys : List Ent}
    (g : Grow S H S' H') (k : ∀ a, H a ≠ none → S a ∨ H' a = H a) (s' : ∀ a, S' a → S a ∨ H a = none) (al' : ∀ a, S' a → H' a ≠ none) (f : ∃ L', (∀ a ∈ L', H a = none) ∧ RelP G S' H' ys L') : Grow S H S' H' ∧ Rel G S' H' (ys ++ xs) := by
  obtain ⟨al, L, h⟩ := h
  obtain ⟨L', hl, r⟩ := f
  refine ⟨g, ⟨al', G.st _ _ _ _ g.w al.ph⟩, L' ++ L, RelP.join r (h.keep g fun a m => ⟨(k a (h.off a m).2).resolve_left (h.off a m).1, fun s => ?_⟩) fun a m q => (h.off a q).2 (hl a m)⟩
  rcases s' a s with s | s
  · exact (h.off a m).1 s
  · exact (h.off a m).2 s
theorem Rel.drop {G : Gx} {S H x xs} (h : Rel G S H (x :: xs)) : Rel G S H xs := by
  obtain ⟨al, L, h⟩ := h
  cases h with
  | cons _ _ _ hr => exact ⟨al, _, hr⟩
theorem Rel.shared {G : Gx} {S H xs d v} (h : Rel G S H (⟨.sh, d, some v⟩ :: xs)) : Den G S H d v := by
  obtain ⟨al, L, h⟩ := h
  cases h with
  | cons he _ _ _ =>
    obtain ⟨_, w, e, q⟩ := he
    cases e
    exact q
theorem Rel.push {G : Gx} {S H xs d v} (h : Rel G S H xs) (q : Den G S H d v) : Rel G S H (⟨.sh, d, some v⟩ :: xs) := by
  obtain ⟨al, L, h⟩ := h
  exact ⟨al, [] ++ L, .cons ⟨rfl, v, rfl, q⟩ .nil (fun _ m => nomatch m) h⟩
/-- owned becomes shared -/
theorem Rel.freeze {G : Gx} {S H xs k d v} (h : Rel G S H (⟨.ow k, d, some v⟩ :: xs)) : ∃ S', Grow S H S' H ∧ Rel G S' H (⟨.sh, d, some v⟩ :: xs) := by
  obtain ⟨al, L, h⟩ := h
  cases h with
  | @cons _ _ L0 M he nd f hr =>
    obtain ⟨w, e, q⟩ := he
    cases e
    have g : Grow S H (fun a => S a ∨ a ∈ L0) H := Grow.of fun a s => ⟨.inl s, rfl⟩
    refine ⟨fun a => S a ∨ a ∈ L0, g, ⟨fun a s => ?_, G.st _ _ _ _ g.w al.ph⟩, [] ++ M, .cons ⟨rfl, v, rfl, DenW.freeze (fun a s => Or.inl s) (fun a m => Or.inr m) q⟩ .nil (fun _ m => nomatch m) (hr.keep g fun a m => ⟨rfl, fun s => ?_⟩)⟩
    · rcases s with s | s
      · exact al.al a s
      · exact (f a s).2.1
    · rcases s with s | s
      · exact (hr.off a m).1 s
      · exact (f a s).2.2 m
/-- a shared dict is locked, unlocked -/
theorem Rel.reads {G : Gx} {S H H' xs} (h : Rel G S H xs) (k : ∀ a, vw (H' a) = vw (H a)) (o : ∀ a, ¬ S a → H' a = H a) : Rel G S H' xs := by
  obtain ⟨al, L, hp⟩ := h
  refine ⟨⟨fun a s e => ?_, G.st _ _ _ _ (fun a s => ⟨s, k a⟩) al.ph⟩, L, hp.keepW (fun a s => ⟨s, k a⟩) fun a m => ⟨o a (hp.off a m).1, (hp.off a m).1⟩⟩
  exact vw_none (al.al a s) (by rw [← k a, e]; rfl)
end Rm
namespace Rm
open PySem PySem.Spec L2
def ents : List Kd → List D → List (Option V) → List Ent
  | k :: ks, d :: ds, v :: vs => ⟨k, d, v⟩ :: ents ks ds vs
  | _, _, _ => []
theorem ents_split : ∀ {ks : List Kd} {ds : List D} {vs : List (Option V)} {i : Nat} {k d v}, ks[i]? = some k → ds[i]? = some d → vs[i]? = some v →
    ∃ l r, ents ks ds vs = l ++ ⟨k, d, v⟩ :: r ∧ ∀ k' d' v', ents (ks.set i k') (ds.set i d') (vs.set i v') = l ++ ⟨k', d', v'⟩ :: r
  | [], _, _, i, _, _, _, h, _, _ => by simp at h
  | _ :: _, [], _, i, _, _, _, _, h, _ => by simp at h
  | _ :: _, _ :: _, [], i, _, _, _, _, _, h => by simp at h
  | k :: ks, d :: ds, v :: vs, 0, _, _, _, h1, h2, h3 => by
    simp at h1 h2 h3
    subst h1 h2 h3
    exact ⟨[], ents ks ds vs, rfl, fun _ _ _ => rfl⟩
  | k :: ks, d :: ds, v :: vs, i + 1, _, _, _, h1, h2, h3 => by
    simp at h1 h2 h3
    obtain ⟨l, r, e, f⟩ := ents_split h1 h2 h3
    refine ⟨⟨k, d, v⟩ :: l, r, by simp [ents, e], fun k' d' v' => ?_⟩
    simp only [List.set_cons_succ, ents, List.cons_append, List.cons.injEq, true_and]
    exact f k' d' v'
theorem Rel.un_eq {G S H xs d v d' v'} (h : Rel G S H (⟨.un, d, v⟩ :: xs)) : Rel G S H (⟨.un, d', v'⟩ :: xs) := by
  obtain ⟨al, L, h⟩ := h
  cases h with
  | cons he nd f hr => exact ⟨al, _, .cons he nd f hr⟩
theorem Rel.un {G S H xs d v} (h : Rel G S H xs) : Rel G S H (⟨.un, d, v⟩ :: xs) := by
  obtain ⟨al, L, h⟩ := h
  exact ⟨al, [] ++ L, .cons rfl .nil (fun _ m => nomatch m) h⟩
theorem Rel.toUn {G S H x xs d v} (h : Rel G S H (x :: xs)) : Rel G S H (⟨.un, d, v⟩ :: xs) := h.drop.un
theorem Rel.has {G S H xs d v} (h : Rel G S H xs) (m : ⟨.sh, d, v⟩ ∈ xs) : ∃ w, v = some w ∧ Den G S H d w := by
  obtain ⟨l, r, rfl⟩ := List.append_of_mem m
  obtain ⟨al, L, q⟩ := h.perm (List.perm_middle (l₁ := l) (l₂ := r))
  cases q with
  | cons he _ _ _ =>
    obtain ⟨_, w, e, q⟩ := he
    exact ⟨w, e, q⟩
/-- the slots (kinds, data, values) and what else is in hand -/
structure Rl (G : Gx) (S : Rg) (H : Hp) (κ : List Kd) (env : List D) (σ : St) (R : List Ent) : Prop where
  l1 : κ.length = σ.length
  l2 : env.length = σ.length
  rel : Rel G S H (R ++ ents κ env σ)
section
variable {G : Gx} {S : Rg} {H : Hp} {κ : List Kd} {env : List D} {σ : St} {R : List Ent}
theorem Rl.drop {x} (h : Rl G S H κ env σ (x :: R)) : Rl G S H κ env σ R := ⟨h.l1, h.l2, h.rel.drop⟩
theorem Rl.slot {i : Nat} {k : Kd} {d : D} (h : Rl G S H κ env σ R) (hk : κ[i]? = some k) (hd : env[i]? = some d) : ∃ v, σ[i]? = some v := by
  have : i < σ.length := by
    have := (List.getElem?_eq_some_iff.mp hk).1
    rw [h.l1] at this
    exact this
  exact ⟨σ[i], List.getElem?_eq_getElem this⟩
/-- a shared slot is read -/
theorem Rl.read {i : Nat} {d : D} (h : Rl G S H κ env σ R) (hk : κ[i]? = some .sh) (hd : env[i]? = some d) : ∃ v, σ[i]? = some (some v) ∧ Rl G S H κ env σ (⟨.sh, d, some v⟩ :: R) := by
  obtain ⟨v, hv⟩ := h.slot hk hd
  obtain ⟨l, r, e, _⟩ := ents_split hk hd hv
  have m : (⟨.sh, d, v⟩ : Ent) ∈ R ++ ents κ env σ := by rw [e]; simp
  obtain ⟨w, rfl, q⟩ := h.rel.has m
  exact ⟨w, hv, h.l1, h.l2, h.rel.push q⟩
theorem List.set_self' {α} : ∀ {l : List α} {i : Nat} {a : α}, l[i]? = some a → l.set i a = l
  | [], _, _, h => by simp at h
  | x :: l, 0, a, h => by simp at h; simp [h]
  | x :: l, i + 1, a, h => by simp at h; simp [List.set_self' h]
/-- an owned slot is taken out -/
theorem Rl.take {i : Nat} {k : Own} {d : D} (h : Rl G S H κ env σ R) (hk : κ[i]? = some (.ow k)) (hd : env[i]? = some d) : ∃ v, σ[i]? = some (some v) ∧ ∀ d', Rl G S H (κ.set i .un) (env.set i d') σ (⟨.ow k, d, some v⟩ :: R) := by
  obtain ⟨v, hv⟩ := h.slot hk hd
  obtain ⟨l, r, e, f⟩ := ents_split hk hd hv
  have p : (R ++ ents κ env σ).Perm (⟨.ow k, d, v⟩ :: (R ++ (l ++ r))) := by
    rw [e]
    refine (List.Perm.append_left R List.perm_middle).trans ?_
    exact List.perm_middle
  have h1 := h.rel.perm p
  obtain ⟨w, rfl⟩ : ∃ w, v = some w := by
    obtain ⟨al, L, q⟩ := h1
    cases q with
    | cons he _ _ _ =>
      obtain ⟨w, e, _⟩ := he
      exact ⟨w, e⟩
  refine ⟨w, hv, fun d' => ⟨by rw [List.length_set]; exact h.l1, by rw [List.length_set]; exact h.l2, ?_⟩⟩
  have e2 : ents (κ.set i .un) (env.set i d') σ = l ++ ⟨.un, d', some w⟩ :: r := by
    have := f .un d' (some w)
    rwa [List.set_self' hv] at this
  rw [e2]
  have h2 : Rel G S H (⟨.un, d', some w⟩ :: ⟨.ow k, d, some w⟩ :: (R ++ (l ++ r))) := h1.un
  refine h2.perm ?_
  refine (List.Perm.swap _ _ _).trans (List.Perm.cons _ ?_)
  refine (List.perm_middle (a := (⟨.un, d', some w⟩ : Ent)) (l₁ := R) (l₂ := l ++ r)).symm.trans ?_
  exact List.Perm.append_left R List.perm_middle.symm
/-- .. and put back -/
theorem Rl.put {i : Nat} {k k0 : Kd} {d : D} {v : V} {d0 : D} (h : Rl G S H κ env σ (⟨k, d, some v⟩ :: R)) (hk : κ[i]? = some k0) (hd : env[i]? = some d0) (hv : σ[i]? = some (some v)) : Rl G S H (κ.set i k) (env.set i d) σ R := by
  obtain ⟨l, r, e, f⟩ := ents_split hk hd hv
  refine ⟨by rw [List.length_set]; exact h.l1, by rw [List.length_set]; exact h.l2, ?_⟩
  have e2 : ents (κ.set i k) (env.set i d) σ = l ++ ⟨k, d, some v⟩ :: r := by
    have := f k d (some v)
    rwa [List.set_self' hv] at this
  rw [e2]
  have h1 : Rel G S H (⟨k, d, some v⟩ :: (R ++ (l ++ ⟨k0, d0, some v⟩ :: r))) := by
    have := h.rel
    rw [e] at this
    exact this
  have p : (⟨k, d, some v⟩ :: (R ++ (l ++ ⟨k0, d0, some v⟩ :: r))).Perm (⟨k0, d0, some v⟩ :: ⟨k, d, some v⟩ :: (R ++ (l ++ r))) := by
    refine (List.Perm.cons _ ((List.Perm.append_left R List.perm_middle).trans List.perm_middle)).trans (List.Perm.swap _ _ _)
  have h2 := (h1.perm p).drop
  refine h2.perm ?_
  exact (List.perm_middle (a := (⟨k, d, some v⟩ : Ent)) (l₁ := R) (l₂ := l ++ r)).symm.trans (List.Perm.append_left R List.perm_middle.symm)
/-- a slot is stored -/
theorem Rl.store {i : Nat} {k k0 : Kd} {d : D} {v : V} {d0 : D} (h : Rl G S H κ env σ (⟨k, d, some v⟩ :: R)) (hk : κ[i]? = some k0) (hd : env[i]? = some d0) : Rl G S H (κ.set i k) (env.set i d) (σ.set i (some v)) R := by
  obtain ⟨v0, hv⟩ := h.slot hk hd
  obtain ⟨l, r, e, f⟩ := ents_split hk hd hv
  refine ⟨by rw [List.length_set, List.length_set]; exact h.l1, by rw [List.length_set, List.length_set]; exact h.l2, ?_⟩
  rw [f k d (some v)]
  have h1 : Rel G S H (⟨k, d, some v⟩ :: (R ++ (l ++ ⟨k0, d0, v0⟩ :: r))) := by
    have := h.rel
    rw [e] at this
    exact this
  have p : (⟨k, d, some v⟩ :: (R ++ (l ++ ⟨k0, d0, v0⟩ :: r))).Perm (⟨k0, d0, v0⟩ :: ⟨k, d, some v⟩ :: (R ++ (l ++ r))) := by
    refine (List.Perm.cons _ ((List.Perm.append_left R List.perm_middle).trans List.perm_middle)).trans (List.Perm.swap _ _ _)
  have h2 := (h1.perm p).drop
  refine h2.perm ?_
  exact (List.perm_middle (a := (⟨k, d, some v⟩ : Ent)) (l₁ := R) (l₂ := l ++ r)).symm.trans (List.Perm.append_left R List.perm_middle.symm)
/-- a slot is forgotten -/
theorem Rl.forget {i : Nat} (h : Rl G S H κ env σ R) : Rl G S H (κ.set i .un) env σ R := by
  by_cases hi : i < κ.length
  · have hk : κ[i]? = some κ[i] := List.getElem?_eq_getElem hi
    have hd : env[i]? = some (env[i]'(by rw [h.l2, ← h.l1]; exact hi)) := List.getElem?_eq_getElem _
    obtain ⟨v0, hv⟩ := h.slot hk hd
    obtain ⟨l, r, e, f⟩ := ents_split hk hd hv
    refine ⟨by rw [List.length_set]; exact h.l1, h.l2, ?_⟩
    have e2 := f .un (env[i]'(by rw [h.l2, ← h.l1]; exact hi)) v0
    rw [List.set_self' hd, List.set_self' hv] at e2
    rw [e2]
    have h1 := h.rel
    rw [e] at h1
    have h2 := h1.perm ((List.Perm.append_left R List.perm_middle).trans List.perm_middle)
    exact (h2.toUn (d := _) (v := v0)).perm (List.perm_middle.symm.trans (List.Perm.append_left R List.perm_middle.symm))
  · rw [List.set_eq_of_length_le (Nat.le_of_not_lt hi)]
    exact h
end
/-- less is known of the slots -/
def Kd.le : Kd → Kd → Bool
  | .un, _ => true
  | k, k' => k == k'
def kle (a b : List Kd) : Bool := a.length == b.length && (a.zip b).all fun p => p.1.le p.2
theorem Rl.weak {G S H} {κ κ' : List Kd} {env σ R} (h : Rl G S H κ env σ R) (l : kle κ' κ = true) : Rl G S H κ' env σ R := by
  obtain ⟨h1, h2, hr⟩ := h
  simp only [kle, Bool.and_eq_true, beq_iff_eq] at l
  obtain ⟨l1, l2⟩ := l
  refine ⟨l1.trans h1, h2, ?_⟩
  clear h1 h2
  have key : ∀ (κ κ' : List Kd) (env : List D) (σ : St) (R : List Ent), κ'.length = κ.length → (κ'.zip κ).all (fun p => p.1.le p.2) = true → Rel G S H (R ++ ents κ env σ) → Rel G S H (R ++ ents κ' env σ) := by
    intro κ
    induction κ with
    | nil =>
      intro κ' env σ R e1 _ h
      have : κ' = [] := List.length_eq_zero_iff.mp e1
      subst this
      exact h
    | cons k ks ih =>
      intro κ' env σ R e1 e2 h
      cases κ' with
      | nil => simp at e1
      | cons k' ks' =>
        cases env with
        | nil => exact h
        | cons d ds =>
          cases σ with
          | nil => exact h
          | cons v vs =>
            simp only [List.zip_cons_cons, List.all_cons, Bool.and_eq_true] at e2
            have e1' : ks'.length = ks.length := by simpa using e1
            have h1 : Rel G S H ((R ++ [⟨k, d, v⟩]) ++ ents ks ds vs) := by simpa [ents] using h
            have h2 := ih ks' ds vs (R ++ [⟨k, d, v⟩]) e1' e2.2 h1
            have h3 : Rel G S H (R ++ ⟨k, d, v⟩ :: ents ks' ds vs) := by simpa using h2
            show Rel G S H (R ++ ⟨k', d, v⟩ :: ents ks' ds vs)
            cases k' with
            | un => exact (h3.perm List.perm_middle).toUn.perm List.perm_middle.symm
            | sh =>
              have : k = .sh := by
                have q := e2.1
                cases k <;> simp_all [Kd.le]
              subst this; exact h3
            | ow j =>
              have : k = .ow j := by
                have q := e2.1
                cases k <;> simp_all [Kd.le]
              subst this; exact h3
            | at_ j =>
              have : k = .at_ j := by
                have q := e2.1
                cases k <;> simp_all [Kd.le]
              subst this; exact h3
  exact key κ κ' env σ R l1 l2 hr
theorem Rl.frz1 {G S H κ env σ R} {i : Nat} {j : Own} (h : Rl G S H κ env σ R) (hk : κ[i]? = some (.ow j)) : ∃ S', Grow S H S' H ∧ Rl G S' H (κ.set i .sh) env σ R := by
  have hi : i < env.length := by rw [h.l2, ← h.l1]; exact (List.getElem?_eq_some_iff.mp hk).1
  have ed : env[i]? = some env[i] := List.getElem?_eq_getElem hi
  obtain ⟨v, hv, h'⟩ := h.take hk ed
  have h2 := h' env[i]
  rw [List.set_self' ed] at h2
  obtain ⟨S', g, r⟩ := h2.rel.freeze
  have h3 : Rl G S' H (κ.set i .un) env σ (⟨.sh, env[i], some v⟩ :: R) := ⟨h2.l1, h2.l2, r⟩
  have h4 := h3.put (i := i) (k0 := .un) (d0 := env[i]) (by rw [List.getElem?_set_self]; exact (List.getElem?_eq_some_iff.mp hk).1) ed hv
  rw [List.set_set, List.set_self' ed] at h4
  exact ⟨S', g, h4⟩
def frzAll (κ : List Kd) : List Nat → List Kd
  | [] => κ
  | i :: is => frzAll (match κ[i]? with | some (.ow _) => κ.set i .sh | _ => κ) is
theorem Rl.frzAll {G S H env σ R} : ∀ {is : List Nat} {κ : List Kd}, Rl G S H κ env σ R → ∃ S', Grow S H S' H ∧ Rl G S' H (Rm.frzAll κ is) env σ R
  | [], κ, h => ⟨S, .refl, h⟩
  | i :: is, κ, h => by
    unfold Rm.frzAll
    split
    · rename_i j hk
      obtain ⟨S1, g1, h1⟩ := h.frz1 hk
      obtain ⟨S2, g2, h2⟩ := Rl.frzAll (is := is) h1
      exact ⟨S2, g1.trans g2, h2⟩
    · exact Rl.frzAll (is := is) h
/-- a may be asked where b is known, what is owned being shared first -/
def kleF (a b : List Kd) : Bool := kle a (frzAll b ((List.range a.length).filter fun i => a[i]? == some .sh))
theorem Rl.weakF {G S H} {κ κ' : List Kd} {env σ R} (h : Rl G S H κ env σ R) (l : kleF κ' κ = true) : ∃ S', Grow S H S' H ∧ Rl G S' H κ' env σ R := by
  obtain ⟨S', g, h'⟩ := h.frzAll (is := (List.range κ'.length).filter fun i => κ'[i]? == some .sh)
  exact ⟨S', g, h'.weak l⟩
end Rm
namespace Rm
open PySem PySem.Spec PyProof.Rows L2
abbrev Gd (A : Around) : Prop := A.guards = some []
structure FnG (P : Program) (w : World) (K : PySem.W.Frag) (mg : Str → Option Value) (base : Heap) (CX : CXT) (n : Nat) (g : Addr) (fd : FuncData) (ps : List Str) (sp : Sp) : Prop where
  lng : ∀ vs H Q E, sp vs H Q E →
    vs.length = ps.length
  go : ∀ (A : Around) (st : List Env) (s : Shared) (H : Hp) (ar : Args) (us : List Value) (vs : List V) (Q : VK) (E : XK),
    Room n A → Gd A → Env0 P w K mg base A st s H → BindsTo s fd ar (ps.zip us) → Vals vs us →
    sp vs H Q E → codeAny (model P w) A (.call (.ref g) ar) (CR CX st P w H s Q E) s
section
variable {P : Program} {w : World} {K : PySem.W.Frag} {mg : Str → Option Value} {base : Heap} {CX : CXT} {n : Nat} {g : Addr} {fd : FuncData} {ps : List Str} {sp : Sp}
theorem FnG.of (F : FnOk P w K mg base CX n g fd ps sp) : FnG P w K mg base CX n g fd ps sp :=
  ⟨F.len, fun A st s H ar us vs Q E r _ => F.run A st s H ar us vs Q E r⟩
theorem FnG.mono {m : Nat} (F : FnG P w K mg base CX m g fd ps sp) (h : m ≤ n) : FnG P w K mg base CX n g fd ps sp :=
  ⟨F.lng, fun A st s H ar us vs Q E r => F.go A st s H ar us vs Q E (r.mono h)⟩
end
section
variable {X : Cx} {CX : CXT} {n : Nat} {g C : Addr} {fd : FuncData} {ps : List Str} {sp : Sp} {x : Str} {p pos : Pos} {e : Expr} {es : List Expr} {t : TA}
/-- it is called -/
theorem run_g {pins : List (Addr × Obj)} {σ : L2.St} {H : Hp} {s : Shared} {Q : VK} {us : List Value} {vs : List V} {E : L2.St → XK}
    (F : FnG X.prog X.w X.K X.mg X.base CX n g fd ps sp) (gd : Gd X.A) (hr : Room n X.A) (hb : Binds X.K fd ps [])
    (hx : PassesAt CX X σ (E σ)) (I : Inv X pins σ H s) (r : Vals vs us) (h : sp vs H Q (E σ)) :
    wpAny (model X.prog X.w) X.A (call (.ref g) us) (EP X pins σ Q) X.xe s := by
  have ln : us.length = ps.length := (r.length).symm.trans (F.lng _ _ _ _ h)
  have bd := hb s us I.kIn ((by rw [List.append_nil]; exact ln))
  simp only [List.append_nil] at bd
  refine wpAny_call (codeAny_mono (F.go _ X.stack s H ⟨us, []⟩ us vs Q _ hr gd I.env0 bd r h) ?_)
  intro res s2 hq
  match res, hq with
  | .error ex, hq => exact hx pins H s ex s2 I hq
  | .ok (.ret v), hq => exact I.after hq
  | .ok .next, hq => exact hq.elim
  | .ok .brk, hq => exact hq.elim
  | .ok .cont, hq => exact hq.elim
theorem pe_g {E : L2.St → XK} (F : FnG X.prog X.w X.K X.mg X.base CX n g fd ps sp) (gd : Gd X.A) (hr : Room n X.A) (hg : Gl X x)
    (hm : X.mg x = some (.ref g)) (hk : PySem.W.keepIn X.K (.ref g) = true) (hb : Binds X.K fd ps [])
    (hx : ∀ σ, PassesAt CX X σ (E σ)) (ha : PA X (e :: es) t) (hdb : (x == ("__debug__" : Str)) = false)
    (he : starEach (e :: es) X.env = (false, eval e X.env) :: starEach es X.env) (hpl : (backTo pos (starEach es X.env)).any (·.1) = false) :
    PE X (.Call (.Name x p) (e :: es) [] pos) (tCallS sp E t) := by
  refine ⟨fun pi s σ H Q I h => wpAny_Call_Name_kw (ld_glob I hg hm ?_ hdb)⟩
  refine PySem.W.callWith_K (h₀ := X.base) I.ok.mod.kin hk ?_ he hpl
  refine thn (ha.run pos pi s σ H _ I h) fun us s1 ⟨vs, H1, I1, r, q⟩ => ⟨I1.kIn, run_g F gd hr hb (hx σ) I1 r q⟩
end
/-- THE RULE for a def, from its body -/
theorem FunD.okG {P : Program} {w : World} {K : PySem.W.Frag} {mg : Str → Option Value} {base : Heap} {x qual : Str} {pr : Arguments} {body : List Stmt} {sc : Scope} {dvs : List V} {kws : List (Str × V)} {f : Addr} {fd : FuncData} {CX : CXT} {N ps : List Str} {n : Nat} {sp : Sp}
    (F : FunD K x qual pr body sc dvs kws f fd) (S : FnScope N ps sc) (ln : ∀ vs H Q E, sp vs H Q E → vs.length = ps.length)
    (hB : ∀ (cv : Value) (A : Around) (st : List Env) (s : Shared) (H : Hp) (vs : List V) (Q : VK) (E : XK),
      Gd (A.deeper (envOfC qual sc s.heap.objs.size f cv)) → Room n (A.deeper (envOfC qual sc s.heap.objs.size f cv)) → sp vs H Q E →
      ∃ t, PSs (cxOf CX P w K mg base N qual sc f cv A st s H E) body t ∧ t { nx := fun _ H' => Q .non H', rt := Q } (start N vs) H) :
    FnG P w K mg base CX (n + 1) f fd ps sp := by
  obtain ⟨oc, od, dV, kV, dc, pm, an, cv, ct, os, rfl, lk, hcd, _, _⟩ := F.ex
  refine ⟨ln, ?_⟩
  intro A st s H ar us vs Q E hr gd e0 hb r hs
  have l2 := ln _ _ _ _ hs
  have kin : K.In s.heap := e0.mod.kin.keeps (fun b o e => (e0.bs b o e).1)
  have nolim : s.heap.NoLimit := e0.mod.nolimit.keeps (fun b o e => (e0.bs b o e).1)
  have kinds : ∀ y ∈ ps.zip us, sc.names.lookup y.1 = some .local ∨ (sc.names.lookup y.1 = some .cell ∧ ((cellsFrom (s.heap.objs.size + 1) sc.names []).lookup y.1).isSome = true) := by
    rintro ⟨z, v⟩ m
    cases S.par z (List.of_mem_zip m).1 with
    | inl q => exact Or.inl q
    | inr q => exact Or.inr ⟨q, PySem.W.cellsFrom_some _ _ _ (Or.inl q)⟩
  refine codeAny_call_function hr.depth (kin _ _ lk) rfl S.co S.gen rfl (PySem.W.codeRec_of kin hcd) (hb _ _ _ _ ?_)
  refine wpAny_newFunctionEnv_cells S.kind kinds ?_
  rintro env he s1 xx
  subst he
  refine ⟨nolim.keeps xx.toInCall.keep, ?_⟩
  refine codeAny_func ?_
  obtain ⟨t, pt, hq⟩ := hB cv A st s H vs Q E (show A.guards = some [] from gd) (hr.deeper _) hs
  have I := inv_start (CX := CX) (P := P) (w := w) (E := E) S hr.hd e0 l2 r xx
  have last : ∀ {σ2 : L2.St} {H2 : Hp} {v : V} {u : Value} {s2 : Shared}, Inv (cxOf CX P w K mg base N qual sc f cv A st s H E) [] σ2 H2 s2 → RelV v u → Q v H2 → CE st P w H s Q u s2 :=
    fun J rv q => ⟨_, _, J.os, J.bare, J.base, J.hok, rv, q⟩
  refine wpAny_mono (pt.run [] s1 (start N vs) H _ I hq) ?_ (fun _ _ h => h)
  intro fl s2 hs2
  match fl, hs2 with
  | .ret u, ⟨v, σ2, H2, J, rv, q⟩ => exact last J rv q
  | .next, ⟨σ2, H2, J, q⟩ => exact last (v := .non) (u := .none) J rfl q
  | .brk, ⟨_, _, _, q⟩ => exact q.elim
  | .cont, ⟨_, _, _, q⟩ => exact q.elim
end Rm
namespace Rm
open PySem PySem.Spec PyProof.Rows L2
/-- the script's own object -/
abbrev scO (vs : List Value) : Obj := { cls := .type "list", data := .seq vs.toArray }
abbrev EndQ (s1 : Shared) (r : Result) (s2 : Shared) : Prop := r = .ok (.ret (.bool true)) ∧ OldK s1.heap s2.heap ∧ s2.os = s1.os ∧ AllBare s2.gens
section
variable {P : Program} {w : World} {K : PySem.W.Frag} {mg mb : Str → Option Value} {CX : CXT} {k : Nat} {fa a : Addr} {fd : FuncData} {x : Str} {sp : Sp} {s1 : Shared} {vs : List Value} {ns : List Int}
theorem call_core (KX : K.In s1.heap) (hns : s1.heap.Ns mainGlobals mg) (hb : s1.heap.Ns builtinsNs mb) (hbb : ∀ z : Str, z ≠ "__name__" → mb z = bootBuiltins z)
    (hlim : s1.heap.NoLimit) (hg : s1.gens = #[]) (ha : s1.heap.get? a = some (scO vs)) (hr : Room k callerA)
    (F : ∀ b : Heap, K.In b → b.Ns mainGlobals mg → FnG P w K mg b CX k fa fd [x] sp) (hbind : ∀ (s : Shared) (u : Value), BindsTo s fd ⟨[u], []⟩ [(x, u)])
    (hsp : ∀ H : Hp, Only H → SqL K H a (ns.map V.int) → sp [.ref a] H (fun v _ => v = .bl true) fun _ _ _ => False)
    (hCX : ∀ H e s2, CX [] H s1 (fun _ _ _ => False) e s2 → False)
    (H : Hp) (hO : Only H) (hS : SqL K H a (ns.map V.int)) (hok : HOk P w H s1.heap) (hA : ∀ b, H b ≠ none → b = a) (hK : H a ≠ none → K.lookup a = none) :
    codeAny (model P w) callerA (.call (.ref fa) ⟨[.ref a], []⟩) (EndQ s1) s1 := by
  have only : ∀ {b : Addr} {u : HO}, H b = some u → b = a := fun e => hA _ (by simp [e])
  have left : ∀ {b : Addr} {o : Obj}, s1.heap.get? b = some o → H b = none → (hidT s1.heap H).get? b = some o := fun p q => hidT_get p q
  have nodict : ∀ {b : Addr} {o : Obj} {es : Array DictEntry} {ep : Nat}, s1.heap.get? b = some o → o.data = .dict es ep → H b = none := by
    intro b o es ep p d
    cases q : H b with
    | none => rfl
    | some u =>
      have := only q
      subst this
      cases ha.symm.trans p
      exact nomatch (show Data.seq vs.toArray _ = Data.dict es ep from d)
  have names : ∀ {b : Addr} {m : Str → Option Value}, s1.heap.Ns b m → (hidT s1.heap H).Ns b m := by
    rintro b m ⟨o, es, ep, p, d, r⟩
    exact ⟨o, es, ep, left p (nodict p d), d, r⟩
  have kin : K.In (hidT s1.heap H) := by
    intro b o p
    refine left (KX b o p) ?_
    cases q : H b with
    | none => rfl
    | some u =>
      have := only q
      subst this
      rw [hK (by simp [q])] at p
      cases p
  obtain ⟨mc, l1, l2⟩ := hlim
  have md : Mod K mg (hidT s1.heap H) := ⟨kin, names hns, ⟨mb, names hb, hbb⟩, mc, names l1, l2⟩
  have e0 : Env0 P w K mg (hidT s1.heap H) callerA [] s1 H := ⟨rfl, md, fun b o p => of_hidT p, Nat.le_of_eq (hidT_size _ _), trivial, fun b m => (List.not_mem_nil m).elim, hok, .of_eq hg⟩
  refine codeAny_mono ((F _ kin (names hns)).go callerA [] s1 H ⟨[.ref a], []⟩ [.ref a] [.ref a] _ _ hr rfl e0 (hbind s1 (.ref a)) (.cons rfl .nil) (hsp H hO hS)) ?_
  intro r s2 h
  match r, h with
  | .error e, h => exact (hCX H e s2 h).elim
  | .ok .next, h => exact h.elim
  | .ok .brk, h => exact h.elim
  | .ok .cont, h => exact h.elim
  | .ok (.ret u), ⟨v, H2, os, bare, un, hok2, rv, q⟩ =>
    have ev : v = .bl true := q
    subst ev
    obtain rfl : u = Value.bool true := rv
    refine ⟨rfl, OldK.of_keep ?_, os, bare⟩
    intro b o p
    cases q : H b with
    | none => exact un.keep b o p q (fun z => (List.not_mem_nil (show b ∈ ([] : List Addr) from z)).elim) (by simp)
    | some u =>
      cases hO b with
      | inl z => cases q.symm.trans z
      | inr z =>
        obtain ⟨ob, xs, z⟩ := z
        cases p.symm.trans (hok b _ z).1
        exact (hok2 b _ (un.frzs b _ _ z)).1
theorem law_callG (KX : K.In s1.heap) (hns : s1.heap.Ns mainGlobals mg) (hb : s1.heap.Ns builtinsNs mb) (hbb : ∀ z : Str, z ≠ "__name__" → mb z = bootBuiltins z)
    (hlim : s1.heap.NoLimit) (hg : s1.gens = #[]) (ha : s1.heap.get? a = some (scO vs)) (hi : IntsAre vs ns) (hl : ns.length ≤ sizeLine) (hr : Room k callerA)
    (F : ∀ b : Heap, K.In b → b.Ns mainGlobals mg → FnG P w K mg b CX k fa fd [x] sp) (hbind : ∀ (s : Shared) (u : Value), BindsTo s fd ⟨[u], []⟩ [(x, u)])
    (hsp : ∀ H : Hp, Only H → SqL K H a (ns.map V.int) → sp [.ref a] H (fun v _ => v = .bl true) fun _ _ _ => False)
    (hCX : ∀ H e s2, CX [] H s1 (fun _ _ _ => False) e s2 → False) :
    codeAny (model P w) callerA (.call (.ref fa) ⟨[.ref a], []⟩) (EndQ s1) s1 := by
  have rv := vals_ints hi
  have core := call_core KX hns hb hbb hlim hg ha hr F hbind hsp hCX
  cases hk : K.lookup a with
  | some o =>
    cases ha.symm.trans (KX a o hk)
    refine core (fun _ => none) (fun _ => Or.inl rfl) (Or.inr ?_) ?_ (fun b z => (z rfl).elim) (fun z => (z rfl).elim)
    · exact ⟨_, vs.toArray, _, hk, rfl, rfl, rfl, by rw [List.size_toArray, hi.length]; exact hl, by simpa using rv⟩
    · intro b u z
      exact nomatch (show (none : Option HO) = some u from z)
  | none =>
    refine core (fun b => if b = a then some (.frz (scO vs) (.lst (ns.map V.int))) else none) ?_ (Or.inl (Or.inr ⟨scO vs, if_pos rfl⟩)) ?_ ?_ (fun _ => hk)
    · intro b
      by_cases q : b = a
      · exact Or.inr ⟨_, _, if_pos q⟩
      · exact Or.inl (if_neg q)
    · intro b u z
      by_cases q : b = a
      · cases (if_pos q).symm.trans z
        subst q
        exact ⟨ha, by rw [List.length_map]; exact hl, vs, _, rv, ha⟩
      · cases (if_neg q).symm.trans z
    · intro b z
      by_cases q : b = a
      · exact q
      · exact (z (if_neg q)).elim
end
end Rm
namespace Rm
open PySem PySem.Spec L2
inductive Out (α : Type) where
  | ok (a : α) (e : List D)
  | ex (c : Nat) (fs : List (Str × D)) (e : List D)
  | stuck
abbrev M (α : Type) := List D → Out α
def Out.bind {α β : Type} (o : Out α) (f : α → List D → Out β) : Out β :=
  match o with
  | .ok a e => f a e
  | .ex c fs e => .ex c fs e
  | .stuck => .stuck
@[simp] theorem Out.bind_ok {α β} (a : α) (e) (f : α → List D → Out β) : (Out.ok a e).bind f = f a e := rfl
@[simp] theorem Out.bind_ex {α β} (c fs e) (f : α → List D → Out β) : (Out.ex c fs e : Out α).bind f = .ex c fs e := rfl
@[simp] theorem Out.bind_stuck {α β} (f : α → List D → Out β) : (Out.stuck : Out α).bind f = .stuck := rfl
inductive Fl where
  | nx | rt (d : D) | bk | ct
/-- an exception: its class, its fields -/
def RelX (G : Gx0) (S : Rg) (H : Hp) (c : Nat) (fs : List (Str × D)) (cls : Value) (dx : Option Addr) : Prop :=
  cls = .ref (G.cl c) ∧ ((fs = [] ∧ dx = none) ∨ ∃ d ws, dx = some d ∧ S d ∧ H d = some (.xd ws) ∧ DenF G S H fs ws)
theorem RelX.growW {G S H S' H' c fs cls dx} (g : GrowW S H S' H') (h : RelX G S H c fs cls dx) : RelX G S' H' c fs cls dx := by
  obtain ⟨e, h⟩ := h
  refine ⟨e, h.imp id ?_⟩
  rintro ⟨d, ws, e2, s, eH, df⟩
  exact ⟨d, ws, e2, (g d s).1, vw_xd ((g d s).2.trans (by rw [eH]; rfl)), df.growW g⟩
theorem RelX.grow {G S H S' H' c fs cls dx} (g : Grow S H S' H') (h : RelX G S H c fs cls dx) : RelX G S' H' c fs cls dx := h.growW g.w
/-- where a def's body stands; kx: the parameters that are handed back; kr: how the answer is handed on; kb, kc: the slots at a break, at a continue -/
structure Jc where
  X : Cx
  cl : Nat → Addr
  fa : Nat → Addr
  W : WX
  kx : List Kd
  kr : Kd
  kb : List Kd
  kc : List Kd
  tk : Takes X W
  /-- an exception is being handled -/
  hot : Bool
  calm : hot = false → X.calm = true
  po : PassesOwn (model X.prog X.w) X.A X.env X.xe
  gd : Gd X.A
  Φ : Rg → Hp → Prop
  st : ∀ S H S' H', GrowW S H S' H' → Φ S H → Φ S' H'
abbrev Jc.G (J : Jc) : Gx := ⟨⟨J.X.K, J.cl, J.fa⟩, J.Φ, J.st⟩
def XPost (J : Jc) (R : List Ent) (S : Rg) (H : Hp) (σ : St) (c : Nat) (fs : List (Str × D)) (e : List D) : Prop :=
  ∀ S' H' cls dx, Grow S H S' H' → RelX J.G S' H' c fs cls dx → Rl J.G S' H' J.kx e σ R → J.W cls dx σ H'
def Req {α : Type} (J : Jc) (R : List Ent) (S : Rg) (H : Hp) (σ : St) (o : Out α) (K : α → List D → Prop) : Prop :=
  match o with
  | .ok a e => K a e
  | .ex c fs e => XPost J R S H σ c fs e
  | .stuck => False
theorem Req.mono {α J R S H σ} {o : Out α} {K K' : α → List D → Prop} (h : Req J R S H σ o K) (f : ∀ a e, o = .ok a e → K a e → K' a e) : Req J R S H σ o K' := by
  cases o with
  | ok a e => exact f a e rfl h
  | ex c fs e => exact h
  | stuck => exact h
theorem Req.bind {α β J R S H σ} {o : Out α} {F : α → List D → Out β} {K : β → List D → Prop} (h : Req J R S H σ (o.bind F) K) : Req J R S H σ o fun a e => Req J R S H σ (F a e) K := by
  cases o with
  | ok a e => exact h
  | ex c fs e => exact h
  | stuck => exact h
theorem Req.later {α J R S H S' H' σ} {o : Out α} {K : α → List D → Prop} (h : Req J R S H σ o K) (g : Grow S H S' H') : Req J R S' H' σ o K := by
  cases o with
  | ok a e => exact h
  | ex c fs e => exact fun S2 H2 cls dx g2 => h S2 H2 cls dx (g.trans g2)
  | stuck => exact h
theorem Req.tmp {α J R S H σ} {o : Out α} {K : α → List D → Prop} (h : Req J R S H σ o K) (x : Ent) : Req J (x :: R) S H σ o K := by
  cases o with
  | ok a e => exact h
  | ex c fs e => exact fun S2 H2 cls dx g2 rx rl => h S2 H2 cls dx g2 rx rl.drop
  | stuck => exact h
structure Ex (J : Jc) (κ : List Kd) (e : Expr) (k : Kd) (f : M D) (κ' : List Kd) : Prop where
  ex : ∃ t : TE, PE J.X e t ∧ ∀ R S H σ env Q, Rl J.G S H κ env σ R →
    Req J R S H σ (f env) (fun d e => ∀ S' H' v, Grow S H S' H' → Rl J.G S' H' κ' e σ (⟨k, d, some v⟩ :: R) → Q v H') → t σ H Q
structure Tx (J : Jc) (κ : List Kd) (e : Expr) (f : M Bool) (κ' : List Kd) : Prop where
  ex : ∃ t : TT, PT J.X e t ∧ ∀ R S H σ env Q, Rl J.G S H κ env σ R →
    Req J R S H σ (f env) (fun b e => ∀ S' H', Grow S H S' H' → Rl J.G S' H' κ' e σ R → Q b H') → t σ H Q
def vr (i : Nat) : M D := fun e => match e[i]? with | some d => .ok d e | none => .stuck
def cn (d : D) : M D := fun e => .ok d e
section
variable {J : Jc} {κ κ1 κ2 κ3 κ' : List Kd} {a b c e : Expr} {pos : Pos} {fa fb fc f : M D} {k ka kb kc : Kd}
theorem ex_var (i : Nat) {x : Str} (hN : J.X.N[i]? = some x) (hv : Vis J.X.env.scope x) (hk : κ[i]? = some .sh) (hd : (x == ("__debug__" : Str)) = false := by decide) (hcd : (x == ("__classdict__" : Str)) = false := by decide) :
    Ex J κ (.Name x pos) .sh (vr i) κ := by
  refine ⟨tVar i, pe_var hN hv hd hcd, fun R S H σ env Q h q => ?_⟩
  unfold vr at q
  cases ed : env[i]? with
  | none => rw [ed] at q; exact q.elim
  | some d =>
    rw [ed] at q
    obtain ⟨v, hv, h'⟩ := h.read hk ed
    exact ⟨v, hv, q S H v .refl h'⟩
/-- an owned name is handed on: the slot is empty behind it -/
theorem ex_move (i : Nat) (j : Own) {x : Str} (hN : J.X.N[i]? = some x) (hv : Vis J.X.env.scope x) (hk : κ[i]? = some (.ow j)) (hd : (x == ("__debug__" : Str)) = false := by decide) (hcd : (x == ("__classdict__" : Str)) = false := by decide) :
    Ex J κ (.Name x pos) (.ow j) (vr i) (κ.set i .un) := by
  refine ⟨tVar i, pe_var hN hv hd hcd, fun R S H σ env Q h q => ?_⟩
  unfold vr at q
  cases ed : env[i]? with
  | none => rw [ed] at q; exact q.elim
  | some d =>
    rw [ed] at q
    obtain ⟨v, hv, h'⟩ := h.take hk ed
    have h2 := h' d
    rw [List.set_self' ed] at h2
    exact ⟨v, hv, q S H v .refl h2⟩
/-- an owned name is read: it is shared from here on -/
theorem ex_share (i : Nat) (j : Own) {x : Str} (hN : J.X.N[i]? = some x) (hv : Vis J.X.env.scope x) (hk : κ[i]? = some (.ow j)) (hd : (x == ("__debug__" : Str)) = false := by decide) (hcd : (x == ("__classdict__" : Str)) = false := by decide) :
    Ex J κ (.Name x pos) .sh (vr i) (κ.set i .sh) := by
  refine ⟨tVar i, pe_var hN hv hd hcd, fun R S H σ env Q h q => ?_⟩
  unfold vr at q
  cases ed : env[i]? with
  | none => rw [ed] at q; exact q.elim
  | some d =>
    rw [ed] at q
    obtain ⟨v, hv, h'⟩ := h.take hk ed
    have h2 := h' d
    rw [List.set_self' ed] at h2
    obtain ⟨S', g, r⟩ := h2.rel.freeze
    have h3 : Rl J.G S' H (κ.set i .un) env σ (⟨.sh, d, some v⟩ :: ⟨.sh, d, some v⟩ :: R) := ⟨h2.l1, h2.l2, Rel.push r (Rel.shared r)⟩
    have h4 := h3.put (i := i) (k0 := .un) (d0 := d) (by rw [List.getElem?_set_self]; exact (List.getElem?_eq_some_iff.mp hk).1) ed hv
    rw [List.set_set, List.set_self' ed] at h4
    exact ⟨v, hv, q S' H v g h4⟩
theorem ex_cn {v : V} {d : D} (h : PE J.X e (tC v)) (hd : ∀ S H, Den J.G S H d v) : Ex J κ e .sh (cn d) κ :=
  ⟨tC v, h, fun R S H σ env Q h q => q S H v .refl ⟨h.l1, h.l2, h.rel.push (hd S H)⟩⟩
theorem ex_int {i j pos} : Ex J κ (.Constant (.int i) j pos) .sh (cn (.int i)) κ := ex_cn pe_int fun _ _ => by simp only [Den]
theorem ex_bl {i j pos} : Ex J κ (.Constant (.bool i) j pos) .sh (cn (.bl i)) κ := ex_cn pe_bl fun _ _ => by simp only [Den]
theorem ex_str {x j pos} : Ex J κ (.Constant (.str x) j pos) .sh (cn (.str x)) κ := ex_cn pe_str fun _ _ => by simp only [Den]
/-- a module's constant -/
theorem ex_glob {x : Str} {v : V} {u : Value} {d : D} (hg : Gl J.X x) (hm : J.X.mg x = some u) (r : RelV v u) (hd : ∀ S H, Den J.G S H d v) (hdb : (x == ("__debug__" : Str)) = false := by decide) : Ex J κ (.Name x pos) .sh (cn d) κ :=
  ex_cn (pe_glob hg hm r hdb) hd
/-- forgetting -/
theorem Ex.weak (h : Ex J κ e k f κ1) (l : kle κ' κ1 = true) : Ex J κ e k f κ' := by
  obtain ⟨t, p, q⟩ := h.ex
  exact ⟨t, p, fun R S H σ env Q h hq => q R S H σ env Q h (hq.mono fun d e _ z S' H' v g r => z S' H' v g (r.weak l))⟩
/-- what is new and owned is shared -/
theorem Ex.frz {j : Own} (h : Ex J κ e (.ow j) f κ1) : Ex J κ e .sh f κ1 := by
  obtain ⟨t, p, q⟩ := h.ex
  refine ⟨t, p, fun R S H σ env Q h hq => q R S H σ env Q h (hq.mono fun d e _ z S' H' v g r => ?_)⟩
  obtain ⟨S2, g2, r2⟩ := r.rel.freeze
  exact z S2 H' v (g.trans g2) ⟨r.l1, r.l2, r2⟩
def asB (f : M D) : M Bool := fun e => (f e).bind fun d e => match d with | .bl b => .ok b e | _ => .stuck
theorem tx_val (h : Ex J κ e .sh f κ1) (he : ∀ whole, isTrue e J.X.env whole = (do let v ← whole; standAt e.pos; holding [v] (truthy v)) := by intro _; rfl) : Tx J κ e (asB f) κ1 := by
  obtain ⟨t, p, q⟩ := h.ex
  refine ⟨tB t, pt_val p he, fun R S H σ env Q h hq => q _ _ _ _ _ _ h (hq.bind.mono fun d e _ z S1 H1 v g1 r1 => ?_)⟩
  cases d with
  | bl b =>
    have := r1.rel.shared
    simp only [Den] at this
    exact ⟨b, this, z S1 H1 g1 r1.drop⟩
  | _ => exact z.elim
def notB (f : M Bool) : M Bool := fun e => (f e).bind fun b e => .ok (!b) e
def andB (f g : M Bool) : M Bool := fun e => (f e).bind fun b e => if b = true then g e else .ok false e
def orB (f g : M Bool) : M Bool := fun e => (f e).bind fun b e => if b = true then .ok true e else g e
variable {f1 f2 : M Bool}
theorem tx_not (h : Tx J κ e f1 κ1) : Tx J κ (.UnaryOp .Not e pos) (notB f1) κ1 := by
  obtain ⟨t, p, q⟩ := h.ex
  exact ⟨tNot t, pt_not p, fun R S H σ env Q h hq => q _ _ _ _ _ _ h (hq.bind.mono fun d e _ z S1 H1 g1 r1 => z S1 H1 g1 r1)⟩
/-- chains of and, of or -/
structure Wx (J : Jc) (κ : List Kd) (e : Expr) (f : M Bool) (κ' : List Kd) : Prop where
  ex : ∃ t : TT, PW J.X e t ∧ ∀ R S H σ env Q, Rl J.G S H κ env σ R →
    Req J R S H σ (f env) (fun b e => ∀ S' H', Grow S H S' H' → Rl J.G S' H' κ' e σ R → Q b H') → t σ H Q
theorem Wx.tx (h : Wx J κ e f1 κ1) : Tx J κ e f1 κ1 := by
  obtain ⟨t, p, q⟩ := h.ex
  exact ⟨t, p.pt, q⟩
theorem wx_and1 (h : Tx J κ a f1 κ) : Wx J κ (.BoolOp .And [a] pos) f1 κ := by
  obtain ⟨t, p, q⟩ := h.ex
  exact ⟨t, pw_and1 p, q⟩
theorem wx_or1 (h : Tx J κ a f1 κ) : Wx J κ (.BoolOp .Or [a] pos) f1 κ := by
  obtain ⟨t, p, q⟩ := h.ex
  exact ⟨t, pw_or1 p, q⟩
theorem wx_and {rest : List Expr} (h1 : Tx J κ a f1 κ) (h2 : Wx J κ (.BoolOp .And (b :: rest) pos) f2 κ) : Wx J κ (.BoolOp .And (a :: b :: rest) pos) (andB f1 f2) κ := by
  obtain ⟨t, p, q⟩ := h1.ex
  obtain ⟨t2, p2, q2⟩ := h2.ex
  refine ⟨tAnd t t2, pw_and p p2, fun R S H σ env Q h hq => q _ _ _ _ _ _ h (hq.bind.mono fun d e _ z S1 H1 g1 r1 => ?_)⟩
  cases d with
  | true => exact iteT (q2 _ _ _ _ _ _ r1 ((Req.later z g1).mono fun b e _ z S2 H2 g2 r2 => z S2 H2 (g1.trans g2) r2))
  | false => exact iteF (z S1 H1 g1 r1)
theorem wx_or {rest : List Expr} (h1 : Tx J κ a f1 κ) (h2 : Wx J κ (.BoolOp .Or (b :: rest) pos) f2 κ) : Wx J κ (.BoolOp .Or (a :: b :: rest) pos) (orB f1 f2) κ := by
  obtain ⟨t, p, q⟩ := h1.ex
  obtain ⟨t2, p2, q2⟩ := h2.ex
  refine ⟨tOr t t2, pw_or p p2, fun R S H σ env Q h hq => q _ _ _ _ _ _ h (hq.bind.mono fun d e _ z S1 H1 g1 r1 => ?_)⟩
  cases d with
  | true => exact iteT (z S1 H1 g1 r1)
  | false => exact iteF (q2 _ _ _ _ _ _ r1 ((Req.later z g1).mono fun b e _ z S2 H2 g2 r2 => z S2 H2 (g1.trans g2) r2))
/-- .. as values, all of them truths -/
def bD (f : M Bool) : M D := fun e => (f e).bind fun b e => .ok (.bl b) e
/-- a if t else b -/
def ifM {α : Type} (t : M Bool) (fa fb : M α) : M α := fun e => (t e).bind fun b e => if b = true then fa e else fb e
end
end Rm
namespace Rm
open PySem PySem.Spec L2
inductive Ak where
  | sh | io (i : Nat) (j : Own)
  /-- one's own, not wanted behind the call -/
  | tm (j : Own)
  deriving DecidableEq
def Ak.kd : Ak → Kd | .sh => .sh | .io _ j => .ow j | .tm j => .ow j
/-- what a parameter is behind the call -/
def Kd.out : Kd → Kd | .ow k => .ow k | _ => .un
def AOk : List Ak → List D → List V → St → Prop
  | [], [], [], _ => True
  | a :: as, _ :: ds, v :: vs, σ => (match a with | .io i _ => σ[i]? = some (some v) | .sh => True | .tm _ => True) ∧ AOk as ds vs σ
  | _, _, _, _ => False
def backE : List Ak → List D → List D → List D
  | .io i _ :: as, o :: os, e => backE as os (e.set i o)
  | .sh :: as, _ :: os, e => backE as os e
  | .tm _ :: as, _ :: os, e => backE as os e
  | _, _, e => e
def backK : List Ak → List Kd → List Kd
  | .io i k :: as, κ => backK as (κ.set i (.ow k))
  | .sh :: as, κ => backK as κ
  | .tm _ :: as, κ => backK as κ
  | [], κ => κ
theorem AOk.len : ∀ {as ds vs σ}, AOk as ds vs σ → ds.length = as.length ∧ vs.length = as.length
  | [], [], [], _, _ => ⟨rfl, rfl⟩
  | _ :: as, _ :: ds, _ :: vs, σ, h => by
    obtain ⟨_, h⟩ := h
    have := h.len
    simp [this.1, this.2]
  | [], _ :: _, _, _, h => h.elim
  | [], [], _ :: _, _, h => h.elim
  | _ :: _, [], _, _, h => h.elim
  | _ :: _, _ :: _, [], _, h => h.elim
theorem Rl.back {G S H} : ∀ {as : List Ak} {os ds : List D} {vs : List V} {κ : List Kd} {e : List D} {σ : St} {T R : List Ent}, AOk as ds vs σ → os.length = as.length →
    Rl G S H κ e σ (T ++ (ents ((as.map Ak.kd).map Kd.out) os (vs.map some) ++ R)) → Rl G S H (backK as κ) (backE as os e) σ (T ++ R)
  | [], [], [], [], κ, e, σ, T, R, _, _, h => h
  | a :: as, o :: os, d :: ds, v :: vs, κ, e, σ, T, R, ok, l, h => by
    obtain ⟨h0, ok⟩ := ok
    have l' : os.length = as.length := by simpa using l
    have hx : Rl G S H κ e σ (⟨a.kd.out, o, some v⟩ :: (T ++ (ents ((as.map Ak.kd).map Kd.out) os (vs.map some) ++ R))) := by
      refine ⟨h.l1, h.l2, h.rel.perm ?_⟩
      simp only [List.map_cons, ents, List.append_assoc, List.cons_append]
      exact List.perm_middle
    cases a with
    | sh =>
      exact Rl.back (as := as) ok l' hx.drop
    | tm k =>
      exact Rl.back (as := as) ok l' hx.drop
    | io i k =>
      have hi : i < σ.length := (List.getElem?_eq_some_iff.mp h0).1
      have e1 : κ[i]? = some (κ[i]'(by rw [h.l1]; exact hi)) := List.getElem?_eq_getElem _
      have e2 : e[i]? = some (e[i]'(by rw [h.l2]; exact hi)) := List.getElem?_eq_getElem _
      exact Rl.back (as := as) ok l' (hx.put e1 e2 h0)
  | [], _ :: _, _, _, _, _, _, _, _, _, l, _ => by simp at l
  | _ :: _, [], _, _, _, _, _, _, _, _, l, _ => by simp at l
  | [], [], _ :: _, _, _, _, _, _, _, ok, _, _ => ok.elim
  | [], [], [], _ :: _, _, _, _, _, _, ok, _, _ => ok.elim
  | _ :: _, _ :: _, [], _, _, _, _, _, _, ok, _, _ => ok.elim
  | _ :: _, _ :: _, _ :: _, [], _, _, _, _, _, ok, _, _ => ok.elim
structure Ax (J : Jc) (κ : List Kd) (es : List Expr) (as : List Ak) (f : M (List D)) (κ' : List Kd) : Prop where
  ex : ∃ t : TA, PA J.X es t ∧ ∀ R S H σ env Q, Rl J.G S H κ env σ R →
    Req J R S H σ (f env) (fun ds e => ∀ S' H' vs, Grow S H S' H' → AOk as ds vs σ → Rl J.G S' H' κ' e σ (ents (as.map Ak.kd) ds (vs.map some) ++ R) → Q vs H') → t σ H Q
def aNil : M (List D) := fun e => .ok [] e
def aCons (fa : M D) (fr : M (List D)) : M (List D) := fun e => (fa e).bind fun d e => (fr e).bind fun ds e => .ok (d :: ds) e
section
variable {J : Jc} {κ κ1 κ2 κ3 κ' : List Kd} {a b c e : Expr} {es : List Expr} {pos p apos : Pos} {fa fb fc f : M D} {fr : M (List D)} {k ka kb kc : Kd} {as : List Ak}
theorem ax_nil : Ax J κ [] [] aNil κ := ⟨tNil, pa_nil, fun R S H σ env Q h q => q S H [] .refl trivial h⟩
theorem ax_cons (ha : Ex J κ a .sh fa κ1) (hr : Ax J κ1 es as fr κ2) (hs : starEach (a :: es) J.X.env = (false, eval a J.X.env) :: starEach es J.X.env := by rfl) : Ax J κ (a :: es) (.sh :: as) (aCons fa fr) κ2 := by
  obtain ⟨ta, pa, ra⟩ := ha.ex
  obtain ⟨tr, pr, rr⟩ := hr.ex
  refine ⟨tCons ta tr, pa_cons pa pr hs, fun R S H σ env Q h q => ra _ _ _ _ _ _ h (q.bind.mono fun d e1 _ z S1 H1 u g1 r1 => ?_)⟩
  refine rr _ _ _ _ _ _ r1 (((z.bind.later g1).tmp _).mono fun ds e2 _ z2 S2 H2 vs g2 ok r2 => ?_)
  refine z2 S2 H2 (u :: vs) (g1.trans g2) ⟨trivial, ok⟩ ⟨r2.l1, r2.l2, ?_⟩
  refine r2.rel.perm ?_
  simp only [List.map_cons, ents, Ak.kd, List.cons_append, List.append_assoc]
  exact List.perm_middle
theorem ax_io (i : Nat) (j : Own) {x : Str} (hN : J.X.N[i]? = some x) (hv : Vis J.X.env.scope x) (hk : κ[i]? = some (.ow j)) (hr : Ax J (κ.set i .un) es as fr κ2)
    (hs : starEach (.Name x pos :: es) J.X.env = (false, eval (.Name x pos) J.X.env) :: starEach es J.X.env := by rfl) (hd : (x == ("__debug__" : Str)) = false := by decide) (hcd : (x == ("__classdict__" : Str)) = false := by decide) :
    Ax J κ (.Name x pos :: es) (.io i j :: as) (aCons (vr i) fr) κ2 := by
  obtain ⟨tr, pr, rr⟩ := hr.ex
  refine ⟨tCons (tVar i) tr, pa_cons (pe_var hN hv hd hcd) pr hs, fun R S H σ env Q h q => ?_⟩
  cases ed : env[i]? with
  | none => simp only [aCons, vr, ed] at q; exact q.elim
  | some d =>
    simp only [aCons, vr, ed] at q
    have q : Req J R S H σ ((fr env).bind fun ds e => .ok (d :: ds) e) _ := q
    obtain ⟨v, hv', h'⟩ := h.take hk ed
    have r1 := h' d
    rw [List.set_self' ed] at r1
    refine ⟨v, hv', rr _ _ _ _ _ _ r1 (((Req.bind q).tmp _).mono fun ds e2 _ z2 S2 H2 vs g2 ok r2 => ?_)⟩
    refine z2 S2 H2 (v :: vs) g2 ⟨hv', ok⟩ ⟨r2.l1, r2.l2, r2.rel.perm ?_⟩
    simp only [List.map_cons, ents, Ak.kd, List.cons_append, List.append_assoc]
    exact List.perm_middle
end
/-- ko: what the parameters are behind the call -/
def SpG (G : Gx) (kp ko : List Kd) (kr : Kd) (F : List D → Out D) : Sp := fun vs H Q E => ∃ (S : Rg) (R : List Ent) (ds : List D), vs.length = kp.length ∧ ds.length = kp.length ∧ Rel G S H (ents kp ds (vs.map some) ++ R) ∧
  match F ds with
  | .ok d e => ∀ S' H' v, Grow S H S' H' → e.length = kp.length → Rel G S' H' (⟨kr, d, some v⟩ :: (ents ko e (vs.map some) ++ R)) → Q v H'
  | .ex c fs e => ∀ S' H' cls dx, Grow S H S' H' → RelX G S' H' c fs cls dx → e.length = kp.length → Rel G S' H' (ents ko e (vs.map some) ++ R) → E cls dx H'
  | .stuck => False
abbrev SpF (G : Gx) (kp : List Kd) (kr : Kd) (F : List D → Out D) : Sp := SpG G kp (kp.map Kd.out) kr F
def callM (F : List D → Out D) (as : List Ak) (fa : M (List D)) : M D := fun e => (fa e).bind fun ds e => match F ds with
  | .ok d o => .ok d (backE as o e)
  | .ex c fs o => .ex c fs (backE as o e)
  | .stuck => .stuck
section
variable {J : Jc} {κ κ1 κ2 κ3 κ' : List Kd} {a b c e : Expr} {es : List Expr} {pos p apos : Pos} {fa fb fc f : M D} {fr : M (List D)} {k ka kb kc kr : Kd} {as : List Ak} {x m : Str} {n : Nat} {fd : FuncData} {ps : List Str} {g : Addr} {F : List D → Out D}
/-- behind a call -/
theorem call_req {R S H σ env S1 H1 vs ds} {Q : VK} {o : Out D} (hl : kleF J.kx (backK as κ1) = true) (g1 : Grow S H S1 H1) (ok : AOk as ds vs σ) (r1 : Rl J.G S1 H1 κ1 env σ (ents (as.map Ak.kd) ds (vs.map some) ++ R)) (ho : F ds = o)
    (hq : Req J R S H σ (match F ds with | .ok d o => .ok d (backE as o env) | .ex c fs o => .ex c fs (backE as o env) | .stuck => .stuck) (fun d e => ∀ S' H' v, Grow S H S' H' → Rl J.G S' H' (backK as κ1) e σ (⟨kr, d, some v⟩ :: R) → Q v H')) :
    SpF J.G (as.map Ak.kd) kr F vs H1 Q (WE J.W σ) := by
  have l := ok.len
  refine ⟨S1, R ++ ents κ1 env σ, ds, by rw [l.2, List.length_map], by rw [l.1, List.length_map], by rw [← List.append_assoc]; exact r1.rel, ?_⟩
  rw [ho] at hq ⊢
  cases o with
  | stuck => exact hq
  | ok d o =>
    intro S2 H2 v g2 le r2
    refine hq S2 H2 v (g1.trans g2) (Rl.back (T := [⟨kr, d, some v⟩]) ok (by rw [le, List.length_map]) ⟨r1.l1, r1.l2, ?_⟩)
    simpa only [List.cons_append, List.nil_append, List.append_assoc] using r2
  | ex c fs o =>
    intro S2 H2 cls dx g2 rx le r2
    have r3 : Rl J.G S2 H2 (backK as κ1) (backE as o env) σ ([] ++ R) := Rl.back (T := []) ok (by rw [le, List.length_map]) ⟨r1.l1, r1.l2, by simpa only [List.nil_append, List.append_assoc] using r2⟩
    obtain ⟨S3, g3, r4⟩ := r3.weakF hl
    exact hq S3 H2 cls dx ((g1.trans g2).trans g3) (rx.grow g3) r4
theorem ex_call (Fk : FnG J.X.prog J.X.w J.X.K J.X.mg J.X.base (L2.CX J.X.prog J.X.w) n g fd ps (SpF J.G (as.map Ak.kd) kr F)) (hr : Room n J.X.A) (hg : Gl J.X x) (hm : J.X.mg x = some (.ref g)) (hk : PySem.W.keepIn J.X.K (.ref g) = true) (hb : Binds J.X.K fd ps [])
    (ha : Ax J κ (e :: es) as fr κ1) (hl : kleF J.kx (backK as κ1) = true) (hdb : (x == ("__debug__" : Str)) = false := by decide)
    (he : starEach (e :: es) J.X.env = (false, eval e J.X.env) :: starEach es J.X.env := by rfl) (hpl : (backTo pos (starEach es J.X.env)).any (·.1) = false := by rfl) :
    Ex J κ (.Call (.Name x p) (e :: es) [] pos) kr (callM F as fr) (backK as κ1) := by
  obtain ⟨t, pt, rt⟩ := ha.ex
  refine ⟨_, pe_g Fk J.gd hr hg hm hk hb (fun σ => passAt J.tk σ) pt hdb he hpl, fun R S H σ env Q h hq => rt _ _ _ _ _ _ h (hq.bind.mono fun ds e1 _ z S1 H1 vs g1 ok r1 => ?_)⟩
  exact call_req hl g1 ok r1 rfl z
end
def Fix (kx : List Kd) (σ σ' : St) : Prop := ∀ (i : Nat) (k : Kd), kx[i]? = some k → k ≠ .un → σ'[i]? = σ[i]?
theorem Fix.refl {kx σ} : Fix kx σ σ := fun _ _ _ _ => rfl
theorem Fix.trans {kx σ σ' σ''} (h : Fix kx σ σ') (h' : Fix kx σ' σ'') : Fix kx σ σ'' := fun i k e n => (h' i k e n).trans (h i k e n)
def SReq (J : Jc) (κ' : List Kd) (R : List Ent) (S : Rg) (H : Hp) (σ : St) (o : Out Fl) (D : Ends) : Prop :=
  match o with
  | .ok .nx e => ∀ S' H' σ', Grow S H S' H' → Fix J.kx σ σ' → Rl J.G S' H' κ' e σ' R → D.nx σ' H'
  | .ok (.rt d) e => ∀ S' H' σ' v, Grow S H S' H' → Fix J.kx σ σ' → Rl J.G S' H' J.kx e σ' (⟨J.kr, d, some v⟩ :: R) → D.rt v H'
  | .ok .bk e => ∀ S' H' σ', Grow S H S' H' → Fix J.kx σ σ' → Rl J.G S' H' J.kb e σ' R → D.bk σ' H'
  | .ok .ct e => ∀ S' H' σ', Grow S H S' H' → Fix J.kx σ σ' → Rl J.G S' H' J.kc e σ' R → D.ct σ' H'
  | .ex c fs e => ∀ S' H' σ' cls dx, Grow S H S' H' → Fix J.kx σ σ' → RelX J.G S' H' c fs cls dx → Rl J.G S' H' J.kx e σ' R → J.W cls dx σ' H'
  | .stuck => False
theorem SReq.bind {α J κ' R S H σ} {o : Out α} {F : α → List D → Out Fl} {D : Ends} (h : SReq J κ' R S H σ (o.bind F) D) : Req J R S H σ o fun a e => SReq J κ' R S H σ (F a e) D := by
  cases o with
  | ok a e => exact h
  | ex c fs e => exact fun S' H' cls dx g rx rl => h S' H' σ cls dx g .refl rx rl
  | stuck => exact h
theorem SReq.later {J κ' R S H S1 H1 σ σ1} {o : Out Fl} {D : Ends} (h : SReq J κ' R S H σ o D) (g : Grow S H S1 H1) (f : Fix J.kx σ σ1) : SReq J κ' R S1 H1 σ1 o D := by
  cases o with
  | ok fl e =>
    cases fl with
    | nx => exact fun S' H' σ' g' f' => h S' H' σ' (g.trans g') (f.trans f')
    | rt d => exact fun S' H' σ' v g' f' => h S' H' σ' v (g.trans g') (f.trans f')
    | bk => exact fun S' H' σ' g' f' => h S' H' σ' (g.trans g') (f.trans f')
    | ct => exact fun S' H' σ' g' f' => h S' H' σ' (g.trans g') (f.trans f')
  | ex c fs e => exact fun S' H' σ' cls dx g' f' => h S' H' σ' cls dx (g.trans g') (f.trans f')
  | stuck => exact h
structure Sx (J : Jc) (κ : List Kd) (st : Stmt) (f : M Fl) (κ' : List Kd) : Prop where
  ex : ∃ t : TS, PS J.X st t ∧ ∀ R S H σ env D, Rl J.G S H κ env σ R → SReq J κ' R S H σ (f env) D → t D σ H
structure Lx (J : Jc) (κ : List Kd) (st : List Stmt) (f : M Fl) (κ' : List Kd) : Prop where
  ex : ∃ t : TS, PSs J.X st t ∧ ∀ R S H σ env D, Rl J.G S H κ env σ R → SReq J κ' R S H σ (f env) D → t D σ H
/-- a store of names alone: the slots elsewhere are as they were -/
def Agr (ws : List Nat) (σ σ' : St) : Prop := σ'.length = σ.length ∧ ∀ i, i ∉ ws → σ'[i]? = σ[i]?
theorem Agr.refl {ws σ} : Agr ws σ σ := ⟨rfl, fun _ _ => rfl⟩
theorem Agr.trans {ws ws' σ σ' σ''} (h : Agr ws σ σ') (h' : Agr ws' σ' σ'') : Agr (ws ++ ws') σ σ'' := ⟨h'.1.trans h.1, fun i m => by
  rw [List.mem_append, not_or] at m
  exact (h'.2 i m.2).trans (h.2 i m.1)⟩
theorem Agr.fix {ws σ σ' kx} (h : Agr ws σ σ') (hw : ws.all (fun i => kx[i]? == some Kd.un) = true) : Fix kx σ σ' := fun i k e n => h.2 i fun m => by
  have := (List.all_eq_true.mp hw) i m
  rw [beq_iff_eq, e] at this
  cases this
  exact n rfl
/-- targets; ws: the slots that are stored -/
structure Gtx (J : Jc) (κ : List Kd) (tg : Expr) (k : Kd) (f : D → List D → Option (List D)) (ws : List Nat) (κ' : List Kd) : Prop where
  ex : ∃ t : TG, PG J.X tg t ∧ ∀ R S H σ env d v e' Q, Rl J.G S H κ env σ (⟨k, d, some v⟩ :: R) → f d env = some e' → (∀ σ', Agr ws σ σ' → Rl J.G S H κ' e' σ' R → Q σ' H) → t v σ H Q
structure Gts (J : Jc) (κ : List Kd) (tg : List Expr) (f : List D → List D → Option (List D)) (ws : List Nat) (κ' : List Kd) : Prop where
  ex : ∃ t : TGs, PGs J.X tg t ∧ ∀ R S H σ env ds vs e' Q, DenL J.G S H ds vs → Rl J.G S H κ env σ R → f ds env = some e' → (∀ σ', Agr ws σ σ' → Rl J.G S H κ' e' σ' R → Q σ' H) → t vs σ H Q
def sNil : M Fl := fun e => .ok .nx e
def sCons (f g : M Fl) : M Fl := fun e => (f e).bind fun fl e => match fl with | .nx => g e | fl => .ok fl e
def sAsg (fa : M D) (g : D → List D → Option (List D)) : M Fl := fun e => (fa e).bind fun d e => match g d e with | some e => .ok .nx e | none => .stuck
def sRet (fa : M D) : M Fl := fun e => (fa e).bind fun d e => .ok (.rt d) e
def sExp (fa : M D) : M Fl := fun e => (fa e).bind fun _ e => .ok .nx e
def tName (i : Nat) : D → List D → Option (List D) := fun d e => some (e.set i d)
def tsNil : List D → List D → Option (List D) := fun ds e => match ds with | [] => some e | _ => none
def tsCons (g : D → List D → Option (List D)) (h : List D → List D → Option (List D)) : List D → List D → Option (List D) := fun ds e => match ds with
  | d :: ds => (g d e).bind fun e => h ds e
  | [] => none
section
variable {J : Jc} {κ κ1 κ2 κ3 κ' : List Kd} {a b c e : Expr} {es : List Expr} {pos p apos : Pos} {fa fb fc f : M D} {k ka kb kc kr : Kd} {x m : Str} {f1 : M Bool} {fs1 fs2 : M Fl} {st : Stmt} {sts : List Stmt}
theorem lx_nil : Lx J κ [] sNil κ := ⟨tNext, pss_nil, fun R S H σ env D h q => q S H σ .refl .refl h⟩
theorem lx_cons (h1 : Sx J κ st fs1 κ1) (h2 : Lx J κ1 sts fs2 κ2) : Lx J κ (st :: sts) (sCons fs1 fs2) κ2 := by
  obtain ⟨t, p, q⟩ := h1.ex
  obtain ⟨t2, p2, q2⟩ := h2.ex
  refine ⟨tSeq t t2, pss_cons p p2, fun R S H σ env D h hq => q _ _ _ _ _ _ h ?_⟩
  unfold sCons at hq
  cases eo : fs1 env with
  | stuck => rw [eo] at hq; exact hq
  | ex c fs e1 => rw [eo] at hq; exact hq
  | ok fl e1 =>
    rw [eo] at hq
    cases fl with
    | nx => exact fun S' H' σ' g f r => q2 _ _ _ _ _ _ r (SReq.later hq g f)
    | rt d => exact hq
    | bk => exact hq
    | ct => exact hq
theorem Sx.weak (h : Sx J κ st fs1 κ1) (l : kle κ' κ1 = true) : Sx J κ st fs1 κ' := by
  obtain ⟨t, p, q⟩ := h.ex
  refine ⟨t, p, fun R S H σ env D h hq => q _ _ _ _ _ _ h ?_⟩
  cases eo : fs1 env with
  | stuck => rw [eo] at hq; exact hq
  | ex c fs e1 => rw [eo] at hq; exact hq
  | ok fl e1 =>
    rw [eo] at hq
    cases fl with
    | nx => exact fun S' H' σ' g f r => hq S' H' σ' g f (r.weak l)
    | rt d => exact hq
    | bk => exact hq
    | ct => exact hq
theorem Lx.weak (h : Lx J κ sts fs1 κ1) (l : kle κ' κ1 = true) : Lx J κ sts fs1 κ' := by
  obtain ⟨t, p, q⟩ := h.ex
  refine ⟨t, p, fun R S H σ env D h hq => q _ _ _ _ _ _ h ?_⟩
  cases eo : fs1 env with
  | stuck => rw [eo] at hq; exact hq
  | ex c fs e1 => rw [eo] at hq; exact hq
  | ok fl e1 =>
    rw [eo] at hq
    cases fl with
    | nx => exact fun S' H' σ' g f r => hq S' H' σ' g f (r.weak l)
    | rt d => exact hq
    | bk => exact hq
    | ct => exact hq
theorem gt_name (i : Nat) (hN : J.X.N.Nodup) (hi : J.X.N[i]? = some x) (hx : Loc J.X.env.scope x) (hf : i < κ.length := by decide)
    (hfn : J.X.fn x = true ∨ J.X.env.scope.names.lookup x = some .local := by first | exact .inl rfl | exact .inr rfl | assumption) : Gtx J κ (.Name x pos) k (tName i) [i] (κ.set i k) := by
  refine ⟨gName i, pg_name hN hi hx hfn, fun R S H σ env d v e' Q h hq z => ?_⟩
  cases hq
  have h0 := h.drop
  have e1 : κ[i]? = some (κ[i]'hf) := List.getElem?_eq_getElem _
  have e2 : env[i]? = some (env[i]'(by rw [h.l2, ← h.l1]; exact hf)) := List.getElem?_eq_getElem _
  refine z _ ⟨by rw [List.length_set], fun j ej => ?_⟩ (h.store e1 e2)
  rw [List.getElem?_set_ne (fun q => ej (by rw [q]; simp))]
theorem gts_nil : Gts J κ [] tsNil [] κ := by
  refine ⟨gNil, pgs_nil, fun R S H σ env ds vs e' Q hd h hq z => ?_⟩
  cases ds with
  | nil =>
    simp only [DenL] at hd
    cases hq
    exact ⟨hd, z σ .refl h⟩
  | cons d ds => cases hq
theorem gts_cons {tg : Expr} {tgs : List Expr} {g h} {ws ws' : List Nat} (h1 : Gtx J κ tg .sh g ws κ1) (h2 : Gts J κ1 tgs h ws' κ2)
    (hs : (assignEach (tg :: tgs) J.X.env).map (·.2) = assign tg J.X.env :: (assignEach tgs J.X.env).map (·.2) := by rfl) : Gts J κ (tg :: tgs) (tsCons g h) (ws ++ ws') κ2 := by
  obtain ⟨t, p, q⟩ := h1.ex
  obtain ⟨t2, p2, q2⟩ := h2.ex
  refine ⟨gCons t t2, pgs_cons p p2 hs, fun R S H σ env ds vs e' Q hd h hq z => ?_⟩
  cases ds with
  | nil => cases hq
  | cons d ds =>
    simp only [DenL] at hd
    obtain ⟨v, r, e, hv, hr⟩ := hd
    unfold tsCons at hq
    simp only at hq
    cases eg : g d env with
    | none => rw [eg] at hq; cases hq
    | some e1 =>
      rw [eg] at hq
      exact ⟨v, r, e, q R S H σ env d v e1 _ ⟨h.l1, h.l2, h.rel.push hv⟩ eg fun σ' f' r' => q2 R S H σ' e1 ds r e' _ hr r' hq fun σ2 f2 r2 => z σ2 (f'.trans f2) r2⟩
theorem DenL.length {G S H} : ∀ {ds vs}, DenL G S H ds vs → vs.length = ds.length
  | [], vs, h => by simp only [DenL] at h; subst h; rfl
  | d :: ds, vs, h => by
    simp only [DenL] at h
    obtain ⟨v, r, rfl, _, q⟩ := h
    simp [DenL.length q]
theorem den_tup {G S H ds v} (h : Den G S H (.tup ds) v) : ∃ a vs, v = .ref a ∧ SqT G.K H a vs ∧ DenL G S H ds vs := by
  simp only [Den] at h
  obtain ⟨a, vs, rfl, q, l⟩ := h
  refine ⟨a, vs, rfl, ?_, l⟩
  rcases q with ⟨_, q⟩ | q
  · exact .inl q
  · exact q H
theorem den_lst {G S H ds v} (h : Den G S H (.lst ds) v) : ∃ a vs, v = .ref a ∧ SqL G.K H a vs ∧ DenL G S H ds vs := by
  simp only [Den] at h
  obtain ⟨a, vs, rfl, _, q, l⟩ := h
  exact ⟨a, vs, rfl, .inl (.inl q), l⟩
theorem den_rol {G S H ds v} (h : Den G S H (.rol ds) v) : ∃ a vs, v = .ref a ∧ SqL G.K H a vs ∧ DenL G S H ds vs := by
  simp only [Den] at h
  obtain ⟨a, vs, rfl, q, l⟩ := h
  refine ⟨a, vs, rfl, ?_, l⟩
  rcases q with ⟨_, q⟩ | q
  · exact .inl q
  · exact q H
def tN (n : Nat) (g : List D → List D → Option (List D)) : D → List D → Option (List D) := fun d e => match d with | .tup ds => if ds.length = n then g ds e else none | _ => none
theorem gt_tup {tgs : List Expr} {kk : Nat} {g} {n : Nat} {ws : List Nat} (h : Gts J κ tgs g ws κ1)
    (hn : (assignEach tgs J.X.env).length = n := by rfl) (hhot : J.hot = false := by rfl) (hst : (assignEach tgs J.X.env).findIdx? (·.1) = none := by rfl) : Gtx J κ (.Tuple tgs kk pos) .sh (tN n g) ws κ1 := by
  obtain ⟨t, p, q⟩ := h.ex
  refine ⟨_, pg_tup (J.calm hhot) p hn hst, fun R S H σ env d v e' Q h hq z => ?_⟩
  cases d with
  | tup ds =>
    obtain ⟨a, vs, rfl, s, l⟩ := den_tup h.rel.shared
    unfold tN at hq
    simp only at hq
    split at hq
    · rename_i hn
      exact ⟨a, vs, rfl, s, by rw [l.length, hn], q R S H σ env ds vs e' _ l h.drop hq z⟩
    · cases hq
  | _ => cases hq
theorem sx_asg {tg : Expr} {g} {ws : List Nat} (he : Ex J κ e k fa κ1) (hg : Gtx J κ1 tg k g ws κ2) (hws : ws.all (fun i => J.kx[i]? == some Kd.un) = true := by rfl) (hs : swapsWithSole [tg] e pos.line J.X.env = pure false := by rfl) (hw : swappedStores [tg] e J.X.env = pure none := by rfl)
    (h1 : (assignEach [tg] J.X.env).map (·.2) = [assign tg J.X.env] := by rfl) : Sx J κ (.Assign [tg] e pos) (sAsg fa g) κ2 := by
  obtain ⟨t, p, q⟩ := he.ex
  obtain ⟨t2, p2, q2⟩ := hg.ex
  refine ⟨_, ps_asg p p2 hs hw h1, fun R S H σ env D h hq => q _ _ _ _ _ _ h (hq.bind.mono fun d e1 _ z S1 H1 v g1 r1 => ?_)⟩
  cases eg : g d e1 with
  | none => rw [eg] at z; exact z.elim
  | some e2 =>
    rw [eg] at z
    exact q2 R S1 H1 σ e1 d v e2 _ r1 eg fun σ' f' r' => z S1 H1 σ' g1 (f'.fix hws) r'
theorem sx_ret (he : Ex J κ e J.kr fa κ1) (hl : kleF J.kx κ1 = true) : Sx J κ (.Return (some e) pos) (sRet fa) κ' := by
  obtain ⟨t, p, q⟩ := he.ex
  exact ⟨_, ps_ret p, fun R S H σ env D h hq => q _ _ _ _ _ _ h (hq.bind.mono fun d e1 _ z S1 H1 v g1 r1 => (r1.weakF hl).elim fun S2 h2 => z S2 H1 σ v (g1.trans h2.1) .refl h2.2)⟩
theorem sx_exp (he : Ex J κ e k fa κ1) (hs : swapsWith e none pos.line J.X.env = pure false := by rfl) : Sx J κ (.Expr e pos) (sExp fa) κ1 := by
  obtain ⟨t, p, q⟩ := he.ex
  exact ⟨_, ps_expr p hs, fun R S H σ env D h hq => q _ _ _ _ _ _ h (hq.bind.mono fun d e1 _ z S1 H1 v g1 r1 => z S1 H1 σ g1 .refl r1.drop)⟩
theorem sx_if {aa bb : List Stmt} (hc : Tx J κ c f1 κ1) (ha : Lx J κ1 aa fs1 κ2) (hb : Lx J κ1 bb fs2 κ2) : Sx J κ (.If c aa bb pos) (ifM f1 fs1 fs2) κ2 := by
  obtain ⟨t, p, q⟩ := hc.ex
  obtain ⟨t2, p2, q2⟩ := ha.ex
  obtain ⟨t3, p3, q3⟩ := hb.ex
  refine ⟨_, ps_if p p2 p3, fun R S H σ env D h hq => q _ _ _ _ _ _ h ((SReq.bind hq).mono fun d e1 _ z S1 H1 g1 r1 => ?_)⟩
  cases d with
  | true => exact iteT (q2 _ _ _ _ _ _ r1 (SReq.later z g1 .refl))
  | false => exact iteF (q3 _ _ _ _ _ _ r1 (SReq.later z g1 .refl))
end
end Rm
namespace Rm
open PySem PySem.Spec L2
theorem ents_append : ∀ {a b c a' b' c'}, a.length = b.length → c.length = b.length → ents (a ++ a') (b ++ b') (c ++ c') = ents a b c ++ ents a' b' c'
  | [], [], [], _, _, _, _, _ => rfl
  | _ :: a, _ :: b, _ :: c, a', b', c', h, h' => by
    simp only [List.cons_append, ents, List.cons.injEq, true_and]
    exact ents_append (by simpa using h) (by simpa using h')
  | [], _ :: _, _, _, _, _, h, _ => by simp at h
  | _ :: _, [], _, _, _, _, h, _ => by simp at h
  | [], [], _ :: _, _, _, _, _, h => by simp at h
  | _ :: _, _ :: _, [], _, _, _, _, h => by simp at h
theorem Rel.left {G S H} : ∀ {ys xs : List Ent}, Rel G S H (xs ++ ys) → Rel G S H xs
  | [], xs, h => by simpa using h
  | y :: ys, xs, h => Rel.left (ys := ys) (h.perm List.perm_middle).drop
theorem Rel.addUn {G S H} : ∀ {n : Nat} {ds : List D} {vs : List (Option V)} {xs : List Ent}, Rel G S H xs → Rel G S H (xs ++ ents (List.replicate n .un) ds vs)
  | 0, _, _, xs, h => by simpa [ents] using h
  | n + 1, [], _, xs, h => by simpa [List.replicate_succ, ents] using h
  | n + 1, d :: ds, [], xs, h => by simpa [List.replicate_succ, ents] using h
  | n + 1, d :: ds, v :: vs, xs, h => by
    rw [List.replicate_succ]
    show Rel G S H (xs ++ ⟨.un, d, v⟩ :: ents (List.replicate n .un) ds vs)
    exact (Rel.addUn (n := n) h).un.perm List.perm_middle.symm
theorem Rel.pushNon {G : Gx} {S H xs} (k : Kd) (hk : ∀ a, k ≠ .at_ a) (h : Rel G S H xs) : Rel G S H (⟨k, .non, some .non⟩ :: xs) := by
  obtain ⟨al, L, r⟩ := h
  refine ⟨al, [] ++ L, .cons ?_ .nil (fun _ m => nomatch m) r⟩
  cases k with
  | un => rfl
  | sh => exact ⟨rfl, _, rfl, by simp only [Den]⟩
  | ow k =>
    refine ⟨_, rfl, ?_⟩
    cases k with
    | n k => unfold DenW; simp only [DenO, Den]; exact ⟨trivial, trivial⟩
    | ob ks => unfold DenW; simp only [Den]; exact ⟨trivial, trivial⟩
    | tp ks => unfold DenW; simp only [Den]; exact ⟨trivial, trivial⟩
  | at_ a => exact absurd rfl (hk a)
theorem Rel.outs {G S H us} : ∀ {ko : List Kd} {e : List D} {σ' : St} {vs : List V} {R : List Ent}, vs.length = ko.length → ko.length ≤ e.length → ko.length ≤ σ'.length →
    (∀ (i : Nat) (k : Kd), ko[i]? = some k → k ≠ .un → ∃ v, vs[i]? = some v ∧ σ'[i]? = some (some v)) → Rel G S H (R ++ ents (ko ++ us) e σ') → Rel G S H (R ++ ents ko (e.take ko.length) (vs.map some))
  | [], e, σ', vs, R, _, _, _, _, h => by
    have : ents [] (e.take ([] : List Kd).length) (vs.map some) = [] := rfl
    rw [this, List.append_nil]
    exact h.left
  | k :: kp, [], _, _, _, _, h, _, _, _ => by simp at h
  | k :: kp, _ :: _, [], _, _, _, _, h, _, _ => by simp at h
  | k :: kp, _ :: _, _ :: _, [], _, h, _, _, _, _ => by simp at h
  | k :: kp, d :: e, v :: σ', w :: vs, R, l1, l2, l3, f, h => by
    have h1 : Rel G S H ((R ++ [⟨k, d, v⟩]) ++ ents (kp ++ us) e σ') := by simpa [ents] using h
    have h2 := Rel.outs (by simpa using l1) (by simpa using l2) (by simpa using l3) (fun i k' q n => by simpa using f (i + 1) k' (by simpa using q) n) h1
    have h3 : Rel G S H (R ++ ⟨k, d, v⟩ :: ents kp (e.take kp.length) (vs.map some)) := by simpa using h2
    show Rel G S H (R ++ ⟨k, d, some w⟩ :: ents kp (e.take kp.length) (vs.map some))
    by_cases hk : k = .un
    · subst hk
      exact ((h3.perm List.perm_middle).un_eq).perm List.perm_middle.symm
    · obtain ⟨u, e1, e2⟩ := f 0 k rfl hk
      simp at e1 e2
      subst e1 e2
      exact h3
def runF (m n : Nat) (fb : M Fl) : List D → Out D := fun ds => match fb (ds ++ List.replicate n .non) with
  | .ok (.rt d) e => .ok d (e.take m)
  | .ok .nx e => .ok .non (e.take m)
  | .ok _ _ => .stuck
  | .ex c fs e => .ex c fs (e.take m)
  | .stuck => .stuck
def jcOf (P : Program) (w : World) (K : PySem.W.Frag) (mg : Str → Option Value) (base : Heap) (N : List Str) (qual : Str) (scope : Scope) (f : Addr) (cd : Value) (A : Around) (outer : List Env) (s : Shared) (H : Hp) (E : XK) (cl fa : Nat → Addr) (kx : List Kd) (kr : Kd) (gd : Gd (cxOf (L2.CX P w) P w K mg base N qual scope f cd A outer s H E).A) : Jc where
  X := cxOf (L2.CX P w) P w K mg base N qual scope f cd A outer s H E
  cl := cl
  fa := fa
  W := fun cls d _ H => E cls d H
  kx := kx
  kr := kr
  kb := []
  kc := []
  tk := takes_of rfl rfl rfl rfl
  hot := false
  calm := fun _ => rfl
  po := passes_of rfl
  gd := gd
  Φ := fun _ _ => True
  st := fun _ _ _ _ _ _ => trivial
/-- THE RULE for a def; ko: what its parameters are behind it -/
theorem fn_okG {P : Program} {w : World} {K : PySem.W.Frag} {mg : Str → Option Value} {base : Heap} {x qual : Str} {st : Stmt} {f : Addr} {fd : FuncData} {N ps : List Str} {n : Nat} (cl fa : Nat → Addr) (kp ko : List Kd) (kr : Kd) {fb : M Fl} {κe : List Kd}
    {dvs : List V} {kws : List (Str × V)} (F : FunD K x qual (defArgs st) (defBody st) (defScope st) dvs kws f fd) (Sc : FnScope N ps (defScope st)) (hkp : kp.length = ps.length) (hko : ko.length = kp.length) (hN : ps.length ≤ N.length)
    (hl : kle (ko ++ List.replicate (N.length - kp.length) .un) κe = true) (hkr : ∀ a, kr ≠ .at_ a)
    (body : ∀ (cdv : Value) (A : Around) (outer : List Env) (s : Shared) (H : Hp) (E : XK) (gd : Gd (A.deeper (PyProof.Rows.envOfC qual (defScope st) s.heap.objs.size f cdv))), Room n (A.deeper (PyProof.Rows.envOfC qual (defScope st) s.heap.objs.size f cdv)) →
      Lx (jcOf P w K mg base N qual (defScope st) f cdv A outer s H E cl fa (ko ++ List.replicate (N.length - kp.length) .un) kr gd) (kp ++ List.replicate (N.length - kp.length) .un) (defBody st) fb κe) :
    FnG P w K mg base (L2.CX P w) (n + 1) f fd ps (SpG (gx K cl fa) kp ko kr (runF kp.length (N.length - kp.length) fb)) := by
  refine FunD.okG F Sc (fun vs H Q E h => ?_) (fun cdv A outer s H vs Q E gd hr h => ?_)
  · obtain ⟨_, _, _, h, _⟩ := h
    rw [h, hkp]
  · obtain ⟨S, R, ds, l1, l2, hrel, hF⟩ := h
    obtain ⟨t, pt, q⟩ := (body cdv A outer s H E gd hr).ex
    refine ⟨t, pt, q R S H (L2.start N vs) (ds ++ List.replicate (N.length - kp.length) .non) _ ⟨?_, ?_, ?_⟩ ?_⟩
    · unfold L2.start; simp only [List.length_append, List.length_replicate, List.length_map]; rw [l1]
    · unfold L2.start; simp only [List.length_append, List.length_replicate, List.length_map]; rw [l1, l2]
    · unfold L2.start
      rw [ents_append (by rw [l2]) (by rw [List.length_map, l1, l2]), ← List.append_assoc]
      exact (hrel.perm List.perm_append_comm).addUn
    · have fin : ∀ {S' H' T e σ'}, Fix (ko ++ List.replicate (N.length - kp.length) .un) (L2.start N vs) σ' → Rl (gx K cl fa) S' H' (ko ++ List.replicate (N.length - kp.length) .un) e σ' (T ++ R) →
          (e.take kp.length).length = kp.length ∧ Rel (gx K cl fa) S' H' (T ++ (ents ko (e.take kp.length) (vs.map some) ++ R)) := by
        intro S' H' T e σ' fx r
        have k1 := r.l1
        have k2 := r.l2
        simp only [List.length_append, List.length_replicate] at k1
        refine ⟨by rw [List.length_take]; omega, ?_⟩
        have := Rel.outs (ko := ko) (vs := vs) (by rw [l1, hko]) (by omega) (by omega) (fun i k e n => ?_) r.rel
        · rw [List.append_assoc, hko] at this
          exact this.perm (List.Perm.append_left _ List.perm_append_comm)
        · have hi : i < ko.length := (List.getElem?_eq_some_iff.mp e).1
          have e' : (ko ++ List.replicate (N.length - kp.length) Kd.un)[i]? = some k := by
            rw [List.getElem?_append_left hi, e]
          have e2 : vs[i]? = some (vs[i]'(by rw [l1, ← hko]; exact hi)) := List.getElem?_eq_getElem _
          refine ⟨_, e2, (fx i k e' n).trans ?_⟩
          unfold L2.start
          rw [List.getElem?_append_left (by rw [List.length_map, l1, ← hko]; exact hi), List.getElem?_map, e2]
          rfl
      unfold runF at hF
      unfold SReq
      cases eo : fb (ds ++ List.replicate (N.length - kp.length) .non) with
      | stuck => rw [eo] at hF; exact hF
      | ex c fs e =>
        rw [eo] at hF
        intro S' H' σ' cls dx g fx rx r
        have z := fin (T := []) fx r
        exact hF S' H' cls dx g rx z.1 z.2
      | ok fl e =>
        rw [eo] at hF
        cases fl with
        | nx =>
          intro S' H' σ' g fx r
          have r' := r.weak hl
          have z := fin (T := [⟨kr, .non, some .non⟩]) fx ⟨r'.l1, r'.l2, r'.rel.pushNon kr hkr⟩
          exact hF S' H' .non g z.1 z.2
        | rt d =>
          intro S' H' σ' v g fx r
          have z := fin (T := [⟨kr, d, some v⟩]) fx r
          exact hF S' H' v g z.1 z.2
        | bk => exact hF.elim
        | ct => exact hF.elim
theorem fn_ok {P : Program} {w : World} {K : PySem.W.Frag} {mg : Str → Option Value} {base : Heap} {x qual : Str} {st : Stmt} {f : Addr} {fd : FuncData} {N ps : List Str} {n : Nat} (cl fa : Nat → Addr) (kp : List Kd) (kr : Kd) {fb : M Fl} {κe : List Kd}
    {dvs : List V} {kws : List (Str × V)} (F : FunD K x qual (defArgs st) (defBody st) (defScope st) dvs kws f fd) (Sc : FnScope N ps (defScope st)) (hkp : kp.length = ps.length) (hN : ps.length ≤ N.length)
    (hl : kle (kp.map Kd.out ++ List.replicate (N.length - kp.length) .un) κe = true) (hkr : ∀ a, kr ≠ .at_ a)
    (body : ∀ (cdv : Value) (A : Around) (outer : List Env) (s : Shared) (H : Hp) (E : XK) (gd : Gd (A.deeper (PyProof.Rows.envOfC qual (defScope st) s.heap.objs.size f cdv))), Room n (A.deeper (PyProof.Rows.envOfC qual (defScope st) s.heap.objs.size f cdv)) →
      Lx (jcOf P w K mg base N qual (defScope st) f cdv A outer s H E cl fa (kp.map Kd.out ++ List.replicate (N.length - kp.length) .un) kr gd) (kp ++ List.replicate (N.length - kp.length) .un) (defBody st) fb κe) :
    FnG P w K mg base (L2.CX P w) (n + 1) f fd ps (SpF (gx K cl fa) kp kr (runF kp.length (N.length - kp.length) fb)) :=
  fn_okG cl fa kp (kp.map Kd.out) kr F Sc hkp (by rw [List.length_map]) hN hl hkr body
end Rm
namespace Rm
open PySem PySem.Spec L2
def PEs (X : Cx) : List Expr → List TE → Prop
  | [], [] => True
  | e :: es, t :: ts => PE X e t ∧ PEs X es ts
  | _, _ => False
def tAll : List TE → TA
  | [] => tNil
  | t :: ts => tCons t (tAll ts)
structure Ev (J : Jc) (κ : List Kd) (es : List Expr) (as : List Ak) (f : M (List D)) (κ' : List Kd) : Prop where
  ex : ∃ ts : List TE, PEs J.X es ts ∧ ∀ R S H σ env Q, Rl J.G S H κ env σ R →
    Req J R S H σ (f env) (fun ds e => ∀ S' H' vs, Grow S H S' H' → AOk as ds vs σ → Rl J.G S' H' κ' e σ (ents (as.map Ak.kd) ds (vs.map some) ++ R) → Q vs H') → tAll ts σ H Q
/-- an operation on values, as data: what it gives, what its operands are behind it -/
def Prim (G : Gx) (r : List V → Hp → VK → Prop) (ks : List Kd) (k : Kd) (g : List D → Option (D × List D)) : Prop := ∀ S H ds vs d os (xs : List Ent) (Q : VK), g ds = some (d, os) → ds.length = ks.length → vs.length = ks.length →
  Rel G S H (ents ks ds (vs.map some) ++ xs) →
  (∀ S' H' w, Grow S H S' H' → os.length = ks.length → Rel G S' H' (⟨k, d, some w⟩ :: (ents (ks.map Kd.out) os (vs.map some) ++ xs)) → Q w H') → r vs H Q
def primM (g : List D → Option (D × List D)) (as : List Ak) (fr : M (List D)) : M D := fun e => (fr e).bind fun ds e => match g ds with
  | some (d, os) => .ok d (backE as os e)
  | none => .stuck
/-- an operation that changes nothing -/
def ro (g : List D → Option D) : List D → Option (D × List D) := fun ds => (g ds).map fun d => (d, ds)
def r2 (r : R2) : List V → Hp → VK → Prop := fun vs H Q => match vs with | [x, y] => r x y H Q | _ => False
def r1 (r : V → Hp → VK → Prop) : List V → Hp → VK → Prop := fun vs H Q => match vs with | [x] => r x H Q | _ => False
def rM (r : V → List V → Hp → VK → Prop) : List V → Hp → VK → Prop := fun vs H Q => match vs with | x :: ys => r x ys H Q | _ => False
section
variable {J : Jc} {κ κ1 κ2 κ3 κ' : List Kd} {a b c e : Expr} {es : List Expr} {pos p apos : Pos} {fa fb fc f : M D} {fr : M (List D)} {k ka kb kc kr : Kd} {as : List Ak} {x m : Str} {g : List D → Option (D × List D)}
theorem ev_nil : Ev J κ [] [] aNil κ := ⟨[], trivial, fun R S H σ env Q h q => q S H [] .refl trivial h⟩
theorem ev_cons (ha : Ex J κ a .sh fa κ1) (hr : Ev J κ1 es as fr κ2) : Ev J κ (a :: es) (.sh :: as) (aCons fa fr) κ2 := by
  obtain ⟨ta, pa, ra⟩ := ha.ex
  obtain ⟨tr, pr, rr⟩ := hr.ex
  refine ⟨ta :: tr, ⟨pa, pr⟩, fun R S H σ env Q h q => ra _ _ _ _ _ _ h (q.bind.mono fun d e1 _ z S1 H1 u g1 r1 => ?_)⟩
  refine rr _ _ _ _ _ _ r1 (((z.bind.later g1).tmp _).mono fun ds e2 _ z2 S2 H2 vs g2 ok r2 => ?_)
  refine z2 S2 H2 (u :: vs) (g1.trans g2) ⟨trivial, ok⟩ ⟨r2.l1, r2.l2, ?_⟩
  refine r2.rel.perm ?_
  simp only [List.map_cons, ents, Ak.kd, List.cons_append, List.append_assoc]
  exact List.perm_middle
theorem ev_io (i : Nat) (j : Own) {x : Str} (hN : J.X.N[i]? = some x) (hv : Vis J.X.env.scope x) (hk : κ[i]? = some (.ow j)) (hr : Ev J (κ.set i .un) es as fr κ2)
    (hd : (x == ("__debug__" : Str)) = false := by decide) (hcd : (x == ("__classdict__" : Str)) = false := by decide) :
    Ev J κ (.Name x pos :: es) (.io i j :: as) (aCons (vr i) fr) κ2 := by
  obtain ⟨tr, pr, rr⟩ := hr.ex
  refine ⟨tVar i :: tr, ⟨pe_var hN hv hd hcd, pr⟩, fun R S H σ env Q h q => ?_⟩
  cases ed : env[i]? with
  | none => simp only [aCons, vr, ed] at q; exact q.elim
  | some d =>
    simp only [aCons, vr, ed] at q
    have q : Req J R S H σ ((fr env).bind fun ds e => .ok (d :: ds) e) _ := q
    obtain ⟨v, hv', h'⟩ := h.take hk ed
    have r1 := h' d
    rw [List.set_self' ed] at r1
    refine ⟨v, hv', rr _ _ _ _ _ _ r1 (((Req.bind q).tmp _).mono fun ds e2 _ z2 S2 H2 vs g2 ok r2 => ?_)⟩
    refine z2 S2 H2 (v :: vs) g2 ⟨hv', ok⟩ ⟨r2.l1, r2.l2, r2.rel.perm ?_⟩
    simp only [List.map_cons, ents, Ak.kd, List.cons_append, List.append_assoc]
    exact List.perm_middle
/-- THE RULE of an operation: e0's reading t0 follows from its operands' -/
theorem ex_prim {e0 : Expr} {r : List V → Hp → VK → Prop} (hev : Ev J κ es as fr κ1) (hp : Prim J.G r (as.map Ak.kd) k g)
    (h0 : ∀ ts, PEs J.X es ts → ∃ t0, PE J.X e0 t0 ∧ ∀ σ H Q, tAll ts σ H (fun vs H2 => r vs H2 Q) → t0 σ H Q) : Ex J κ e0 k (primM g as fr) (backK as κ1) := by
  obtain ⟨ts, pts, rt⟩ := hev.ex
  obtain ⟨t0, p0, i0⟩ := h0 ts pts
  refine ⟨t0, p0, fun R S H σ env Q h hq => i0 σ H Q (rt _ _ _ _ _ _ h (hq.bind.mono fun ds e1 _ z S1 H1 vs g1 ok r1 => ?_))⟩
  have l := ok.len
  cases eg : g ds with
  | none => rw [eg] at z; exact z.elim
  | some p =>
    obtain ⟨d, os⟩ := p
    rw [eg] at z
    refine hp S1 H1 ds vs d os (R ++ ents κ1 e1 σ) Q eg (by rw [l.1, List.length_map]) (by rw [l.2, List.length_map]) (by rw [← List.append_assoc]; exact r1.rel) fun S2 H2 w g2 le r2 => ?_
    refine z S2 H2 w (g1.trans g2) (Rl.back (T := [⟨k, d, some w⟩]) ok (by rw [le, List.length_map]) ⟨r1.l1, r1.l2, ?_⟩)
    simpa only [List.cons_append, List.nil_append, List.append_assoc] using r2
theorem ex_bin {op : Operator} {r : R2} (hr : OpR J.X (binaryOp op) r) (hp : Prim J.G (Rm.r2 r) (as.map Ak.kd) k g) (hev : Ev J κ [a, b] as fr κ1) : Ex J κ (.BinOp a op b pos) k (primM g as fr) (backK as κ1) :=
  ex_prim hev hp fun ts pts => match ts, pts with
    | [ta, tb], ⟨pa, pb, _⟩ => ⟨tOp r ta tb, pe_op hr pa pb, fun σ H Q h => h⟩
theorem ex_cmp1 {op : CmpOp} {r : R2} (hr : OpR J.X (compareOp op) r) (hp : Prim J.G (Rm.r2 r) (as.map Ak.kd) k g) (hev : Ev J κ [a, b] as fr κ1) (hm : behindInMarks op b = false) : Ex J κ (.Compare a [op] [b] pos) k (primM g as fr) (backK as κ1) :=
  ex_prim hev hp fun ts pts => match ts, pts with
    | [ta, tb], ⟨pa, pb, _⟩ => ⟨tOp r ta tb, pe_cmpR hr pa pb hm, fun σ H Q h => h⟩
theorem ex_un1 {op : UnaryOp} {r : V → Hp → VK → Prop} (hr : UnR J.X (unaryOp op) r) (hp : Prim J.G (Rm.r1 r) (as.map Ak.kd) k g) (hev : Ev J κ [a] as fr κ1) : Ex J κ (.UnaryOp op a pos) k (primM g as fr) (backK as κ1) :=
  ex_prim hev hp fun ts pts => match ts, pts with
    | [ta], ⟨pa, _⟩ => ⟨tUn r ta, pe_un hr pa, fun σ H Q h => h⟩
theorem ex_ix {r : R2} (hr : IxR J.X r) (hp : Prim J.G (Rm.r2 r) (as.map Ak.kd) k g) (hev : Ev J κ [a, b] as fr κ1) (hs : PlainIx b) : Ex J κ (.Subscript a b pos) k (primM g as fr) (backK as κ1) :=
  ex_prim hev hp fun ts pts => match ts, pts with
    | [ta, tb], ⟨pa, pb, _⟩ => ⟨tOp r ta tb, pe_ix hr pa pb hs, fun σ H Q h => h⟩
/-- a test whose value comes as a truth -/
theorem tx_cmp1 {op : CmpOp} {r : R2} (hr : OpR J.X (compareOp op) r) (hp : Prim J.G (Rm.r2 r) (as.map Ak.kd) .sh g) (hev : Ev J κ [a, b] as fr κ1) (hm : behindInMarks op b = false) : Tx J κ (.Compare a [op] [b] pos) (asB (primM g as fr)) (backK as κ1) := by
  obtain ⟨ts, pts, rt⟩ := hev.ex
  match ts, pts with
  | [ta, tb], ⟨pa, pb, _⟩ =>
    refine ⟨tTest (tOp r ta tb), pt_cmpR hr pa pb hm, fun R S H σ env Q h hq => (rt _ _ _ _ _ (fun vs H2 => Rm.r2 r vs H2 (fun z H3 => ∃ k, z = .bl k ∧ Q k H3)) h (Req.bind (Req.bind hq) |>.mono fun ds e1 _ z S1 H1 vs g1 ok r1 => ?_) : _)⟩
    have l := ok.len
    cases eg : g ds with
    | none => rw [eg] at z; exact z.elim
    | some p =>
      obtain ⟨d, os⟩ := p
      rw [eg] at z
      refine hp S1 H1 ds vs d os (R ++ ents κ1 e1 σ) _ eg (by rw [l.1, List.length_map]) (by rw [l.2, List.length_map]) (by rw [← List.append_assoc]; exact r1.rel) fun S2 H2 w g2 le r2 => ?_
      have r3 : Rl J.G S2 H2 (backK as κ1) (backE as os e1) σ (⟨.sh, d, some w⟩ :: R) := Rl.back (T := [⟨.sh, d, some w⟩]) ok (by rw [le, List.length_map]) ⟨r1.l1, r1.l2, by simpa only [List.cons_append, List.nil_append, List.append_assoc] using r2⟩
      cases d with
      | bl b =>
        have := r3.rel.shared
        simp only [Den] at this
        exact ⟨b, this, z S2 H2 (g1.trans g2) r3.drop⟩
      | _ => exact z.elim
theorem spl_of {X : Cx} : ∀ {es : List Expr} {ts : List TE}, PEs X es ts → (∀ l e r, es = l ++ e :: r → starEach (e :: r) X.env = (false, eval e X.env) :: starEach r X.env) → PA X es (tAll ts)
  | [], [], _, _ => pa_nil
  | e :: es, t :: ts, ⟨p, ps⟩, h => pa_cons p (spl_of ps fun l e' r q => h (e :: l) e' r (by rw [q]; rfl)) (h [] e es rfl)
  | [], _ :: _, h, _ => h.elim
  | _ :: _, [], h, _ => h.elim
def isStar : Expr → Bool
  | .Starred _ _ => true
  | _ => false
def noStar (es : List Expr) : Bool := es.all fun e => !isStar e
theorem star_pl {env : Env} {es : List Expr} (h : noStar es = true) : ∀ l e r, es = l ++ e :: r → starEach (e :: r) env = (false, eval e env) :: starEach r env := by
  intro l e r q
  subst q
  have : (!isStar e) = true := List.all_eq_true.mp h e (by simp)
  cases e <;> first | rfl | cases this
variable {id T : String} {r : List V → Hp → VK → Prop}
theorem ex_callB (hc : CallR J.X (.builtin id) r) (hp : Prim J.G r (as.map Ak.kd) k g) (hg : Gl J.X x) (hm : J.X.mg x = none) (hv : bootBuiltins x = some (.builtin id)) (hev : Ev J κ (e :: es) as fr κ1) (hst : noStar (e :: es) = true := by rfl)
    (hn : x ≠ "__name__" := by decide) (hdb : (x == ("__debug__" : Str)) = false := by decide) (hpl : (backTo pos (starEach es J.X.env)).any (·.1) = false := by rfl) :
    Ex J κ (.Call (.Name x p) (e :: es) [] pos) k (primM g as fr) (backK as κ1) :=
  ex_prim hev hp fun ts pts => ⟨tCB r (tAll ts), pe_callB hc hg hm hv (spl_of pts (star_pl hst)) hn hdb (star_pl hst [] e es rfl) hpl, fun σ H Q h => h⟩
theorem ex_callTy (hc : CallR J.X (.type T) r) (hp : Prim J.G r (as.map Ak.kd) k g) (hg : Gl J.X x) (hm : J.X.mg x = none) (hv : bootBuiltins x = some (.type T)) (hev : Ev J κ (e :: es) as fr κ1) (hst : noStar (e :: es) = true := by rfl)
    (hn : x ≠ "__name__" := by decide) (hdb : (x == ("__debug__" : Str)) = false := by decide) (hpl : (backTo pos (starEach es J.X.env)).any (·.1) = false := by rfl) :
    Ex J κ (.Call (.Name x p) (e :: es) [] pos) k (primM g as fr) (backK as κ1) :=
  ex_prim hev hp fun ts pts => ⟨tCB r (tAll ts), pe_callTy hc hg hm hv (spl_of pts (star_pl hst)) hn hdb (star_pl hst [] e es rfl) hpl, fun σ H Q h => h⟩
def tyD (T : String) : D → Bool
  | .str _ => T == "str"
  | .int _ => T == "int"
  | .lst _ => T == "list"
  | .rol _ => T == "list"
  | .dK _ => T == "dict"
  | .dT _ => T == "dict"
  | _ => false
theorem tyD_sh {G S H d v} (h : Den G S H d v) (t : tyD T d = true) (hd : T ≠ "dict") : tyV G.K T v H := by
  cases d with
  | str x => simp only [Den] at h; subst h; exact beq_iff_eq.mp t
  | int x => simp only [Den] at h; subst h; exact beq_iff_eq.mp t
  | lst x => obtain ⟨a, vs, rfl, q, _⟩ := den_lst h; exact .inl ⟨beq_iff_eq.mp t, vs, q⟩
  | rol x => obtain ⟨a, vs, rfl, q, _⟩ := den_rol h; exact .inl ⟨beq_iff_eq.mp t, vs, q⟩
  | dK x => exact absurd (beq_iff_eq.mp t) hd
  | dT x => exact absurd (beq_iff_eq.mp t) hd
  | _ => cases t
def methM (T : String) (g : List D → Option (D × List D)) (a0 : Ak) (as : List Ak) (fo : M D) (fr : M (List D)) : M D := fun e => (fo e).bind fun d0 e => if tyD T d0 = true then (fr e).bind fun ds e => match g (d0 :: ds) with
  | some (d, os) => .ok d (backE (a0 :: as) os e)
  | none => .stuck
  else .stuck
variable {o : Expr} {name : Str} {cpos : Pos} {fo : M D}
theorem meth_core {to : TE} {ts : List TE} {r : V → List V → Hp → VK → Prop} {k0 : Kd} (hd : T ≠ "dict")
    (ro : ∀ R S H σ env Q, Rl J.G S H κ env σ R → Req J R S H σ (fo env) (fun d e => ∀ S' H' v, Grow S H S' H' → Rl J.G S' H' κ1 e σ (⟨.sh, d, some v⟩ :: R) → Q v H') → to σ H Q)
    (rt : ∀ R S H σ env Q, Rl J.G S H κ1 env σ R → Req J R S H σ (fr env) (fun ds e => ∀ S' H' vs, Grow S H S' H' → AOk as ds vs σ → Rl J.G S' H' κ2 e σ (ents (as.map Ak.kd) ds (vs.map some) ++ R) → Q vs H') → tAll ts σ H Q)
    (hp : Prim J.G (Rm.rM r) (.sh :: as.map Ak.kd) k g) {R S H σ env Q} (h : Rl J.G S H κ env σ R)
    (hq : Req J R S H σ (methM T g .sh as fo fr env) (fun d e => ∀ S' H' v, Grow S H S' H' → Rl J.G S' H' (backK as κ2) e σ (⟨k, d, some v⟩ :: R) → Q v H')) :
    to σ H fun x H1 => tyV J.X.K T x H1 ∧ tAll ts σ H1 fun xs H2 => r x xs H2 Q := by
  refine ro _ _ _ _ _ _ h (hq.bind.mono fun d0 e1 _ z S1 H1 v0 g1 r1 => ?_)
  by_cases ht : tyD T d0 = true
  · rw [if_pos ht] at z
    refine ⟨tyD_sh r1.rel.shared ht hd, rt _ _ _ _ _ _ r1 (((Req.later (Req.bind z) g1).tmp _).mono fun ds e2 _ z2 S2 H2 vs g2 ok r2 => ?_)⟩
    have l := ok.len
    cases eg : g (d0 :: ds) with
    | none => rw [eg] at z2; exact z2.elim
    | some p =>
      obtain ⟨d, os⟩ := p
      rw [eg] at z2
      have rel2 : Rel J.G S2 H2 (ents (.sh :: as.map Ak.kd) (d0 :: ds) ((v0 :: vs).map some) ++ (R ++ ents κ2 e2 σ)) := by
        refine r2.rel.perm ?_
        simp only [List.map_cons, ents, List.cons_append, List.append_assoc]
        exact List.perm_middle
      refine hp S2 H2 (d0 :: ds) (v0 :: vs) d os (R ++ ents κ2 e2 σ) Q eg (by simp [l.1]) (by simp [l.2]) rel2 fun S3 H3 w g3 le r3 => ?_
      have ok' : AOk (.sh :: as) (d0 :: ds) (v0 :: vs) σ := ⟨trivial, ok⟩
      refine z2 S3 H3 w ((g1.trans g2).trans g3) (Rl.back (as := .sh :: as) (T := [⟨k, d, some w⟩]) ok' (by simpa using le) ⟨r2.l1, r2.l2, ?_⟩)
      simpa only [List.map_cons, Ak.kd, List.cons_append, List.nil_append, List.append_assoc] using r3
  · rw [if_neg ht] at z
    exact z.elim
theorem ex_bm {r : V → List V → Hp → VK → Prop} (pa : PlainAttrs T) (slot : Slot T name id) (hty : typeOf (.builtin id) = pure (.type "method_descriptor")) (hm : MtR J.X id r) (hd : T ≠ "dict") (hp : Prim J.G (Rm.rM r) (.sh :: as.map Ak.kd) k g)
    (ho : Ex J κ o .sh fo κ1) (hev : Ev J κ1 (e :: es) as fr κ2) (hst : noStar (e :: es) = true := by rfl)
    (hbase : attributeBase o name J.X.env (eval o J.X.env) = eval o J.X.env := by rfl)
    (hfew : ((backTo cpos (starEach (e :: es) J.X.env)).all (fun x => !x.1) && (backToKw cpos (keywordEach [] J.X.env)).all (fun x => x.1.isSome)
      && decide ((e :: es).length + ([] : List Keyword).length + (if ([] : List Keyword).isEmpty then 0 else 1) < 30)) = true := by rfl)
    (hline : (apos.endLine == cpos.line) = true := by rfl) (hplain : (backTo cpos (starEach es J.X.env)).any (·.1) = false := by rfl) :
    Ex J κ (.Call (.Attribute o name apos) (e :: es) [] cpos) k (methM T g .sh as fo fr) (backK as κ2) := by
  obtain ⟨to, po, ro⟩ := ho.ex
  obtain ⟨ts, pts, rt⟩ := hev.ex
  exact ⟨_, pe_bm pa slot hty hm po (spl_of pts (star_pl hst)) hbase hfew hline (star_pl hst [] e es rfl) hplain, fun R S H σ env Q h hq => meth_core (k0 := .sh) hd ro rt hp h hq⟩
theorem tyD_on {G S H d v L} {j : Nat} (h : DenO G S H (j + 1) d v L) (t : tyD T d = true) (hd : T ≠ "dict") : tyV G.K T v H := by
  cases d with
  | str x => simp only [DenO, Den] at h; obtain ⟨rfl, _⟩ := h; exact beq_iff_eq.mp t
  | int x => simp only [DenO, Den] at h; obtain ⟨rfl, _⟩ := h; exact beq_iff_eq.mp t
  | lst x => obtain ⟨a, vs, M, rfl, q, _⟩ := h; exact .inl ⟨beq_iff_eq.mp t, vs, SqL.of q⟩
  | rol x => simp only [DenO] at h; exact tyD_sh h.1 t hd
  | dK x => exact absurd (beq_iff_eq.mp t) hd
  | dT x => exact absurd (beq_iff_eq.mp t) hd
  | _ => cases t
theorem tyD_ow {G S H d v L} {j : Own} (h : DenW G S H j d v L) (t : tyD T d = true) (hd : T ≠ "dict") : tyV G.K T v H := by
  cases j with
  | n k => exact tyD_on h t hd
  | ob ks =>
    cases d with
    | ins c fs => cases t
    | _ => exact tyD_sh h.1 t hd
  | tp ks =>
    cases d with
    | tup fs => cases t
    | _ => exact tyD_sh h.1 t hd
theorem methI_core {ts : List TE} {r : V → List V → Hp → VK → Prop} {i : Nat} {j : Own} (hd : T ≠ "dict") (hk : κ[i]? = some (.ow j))
    (rt : ∀ R S H σ env Q, Rl J.G S H (κ.set i .un) env σ R → Req J R S H σ (fr env) (fun ds e => ∀ S' H' vs, Grow S H S' H' → AOk as ds vs σ → Rl J.G S' H' κ2 e σ (ents (as.map Ak.kd) ds (vs.map some) ++ R) → Q vs H') → tAll ts σ H Q)
    (hp : Prim J.G (Rm.rM r) (.ow j :: as.map Ak.kd) k g) {R S H σ env Q} (h : Rl J.G S H κ env σ R)
    (hq : Req J R S H σ (methM T g (.io i j) as (vr i) fr env) (fun d e => ∀ S' H' v, Grow S H S' H' → Rl J.G S' H' (backK (.io i j :: as) κ2) e σ (⟨k, d, some v⟩ :: R) → Q v H')) :
    tVar i σ H fun x H1 => tyV J.X.K T x H1 ∧ tAll ts σ H1 fun xs H2 => r x xs H2 Q := by
  unfold methM vr at hq
  cases ed : env[i]? with
  | none => rw [ed] at hq; exact hq.elim
  | some d0 =>
    rw [ed] at hq
    simp only [Out.bind_ok] at hq
    obtain ⟨v0, hv, h'⟩ := h.take hk ed
    have r1 := h' d0
    rw [List.set_self' ed] at r1
    refine ⟨v0, hv, ?_⟩
    by_cases ht : tyD T d0 = true
    · rw [if_pos ht] at hq
      have t0 : tyV J.X.K T v0 H := by
        obtain ⟨al, L, q⟩ := r1.rel
        cases q with
        | cons he _ _ _ =>
          obtain ⟨w, e, q⟩ := he
          cases e
          exact tyD_ow q ht hd
      refine ⟨t0, rt _ _ _ _ _ _ r1 (((Req.bind hq).tmp _).mono fun ds e2 _ z2 S2 H2 vs g2 ok r2 => ?_)⟩
      have l := ok.len
      cases eg : g (d0 :: ds) with
      | none => rw [eg] at z2; exact z2.elim
      | some p =>
        obtain ⟨d, os⟩ := p
        rw [eg] at z2
        have rel2 : Rel J.G S2 H2 (ents (.ow j :: as.map Ak.kd) (d0 :: ds) ((v0 :: vs).map some) ++ (R ++ ents κ2 e2 σ)) := by
          refine r2.rel.perm ?_
          simp only [List.map_cons, ents, List.cons_append, List.append_assoc]
          exact List.perm_middle
        refine hp S2 H2 (d0 :: ds) (v0 :: vs) d os (R ++ ents κ2 e2 σ) Q eg (by simp [l.1]) (by simp [l.2]) rel2 fun S3 H3 w g3 le r3 => ?_
        have ok' : AOk (.io i j :: as) (d0 :: ds) (v0 :: vs) σ := ⟨hv, ok⟩
        refine z2 S3 H3 w (g2.trans g3) (Rl.back (as := .io i j :: as) (T := [⟨k, d, some w⟩]) ok' (by simpa using le) ⟨r2.l1, r2.l2, ?_⟩)
        simpa only [List.map_cons, Ak.kd, List.cons_append, List.nil_append, List.append_assoc] using r3
    · rw [if_neg ht] at hq
      exact hq.elim
theorem ex_bmI (i : Nat) (j : Own) {xn : Str} {np : Pos} {r : V → List V → Hp → VK → Prop} (hN : J.X.N[i]? = some xn) (hvi : Vis J.X.env.scope xn) (hk : κ[i]? = some (.ow j)) (pa : PlainAttrs T) (slot : Slot T name id) (hty : typeOf (.builtin id) = pure (.type "method_descriptor")) (hm : MtR J.X id r) (hd : T ≠ "dict") (hp : Prim J.G (Rm.rM r) (.ow j :: as.map Ak.kd) k g)
    (hev : Ev J (κ.set i .un) (e :: es) as fr κ2) (hst : noStar (e :: es) = true := by rfl)
    (hbase : attributeBase (.Name xn np) name J.X.env (eval (.Name xn np) J.X.env) = eval (.Name xn np) J.X.env := by rfl)
    (hfew : ((backTo cpos (starEach (e :: es) J.X.env)).all (fun x => !x.1) && (backToKw cpos (keywordEach [] J.X.env)).all (fun x => x.1.isSome)
      && decide ((e :: es).length + ([] : List Keyword).length + (if ([] : List Keyword).isEmpty then 0 else 1) < 30)) = true := by rfl)
    (hline : (apos.endLine == cpos.line) = true := by rfl) (hplain : (backTo cpos (starEach es J.X.env)).any (·.1) = false := by rfl)
    (hdb : (xn == ("__debug__" : Str)) = false := by decide) (hcd : (xn == ("__classdict__" : Str)) = false := by decide) :
    Ex J κ (.Call (.Attribute (.Name xn np) name apos) (e :: es) [] cpos) k (methM T g (.io i j) as (vr i) fr) (backK (.io i j :: as) κ2) := by
  obtain ⟨ts, pts, rt⟩ := hev.ex
  exact ⟨_, pe_bm pa slot hty hm (pe_var hN hvi hdb hcd) (spl_of pts (star_pl hst)) hbase hfew hline (star_pl hst [] e es rfl) hplain, fun R S H σ env Q h hq => methI_core hd hk rt hp h hq⟩
theorem ex_bmI0 (i : Nat) (j : Own) {xn : Str} {np : Pos} {r : V → List V → Hp → VK → Prop} (hN : J.X.N[i]? = some xn) (hvi : Vis J.X.env.scope xn) (hk : κ[i]? = some (.ow j)) (pa : PlainAttrs T) (slot : Slot T name id) (hty : typeOf (.builtin id) = pure (.type "method_descriptor")) (hm : MtR J.X id r) (hd : T ≠ "dict") (hp : Prim J.G (Rm.rM r) [.ow j] k g)
    (hbase : attributeBase (.Name xn np) name J.X.env (eval (.Name xn np) J.X.env) = eval (.Name xn np) J.X.env := by rfl) (hline : (apos.endLine == cpos.line) = true := by rfl)
    (hdb : (xn == ("__debug__" : Str)) = false := by decide) (hcd : (xn == ("__classdict__" : Str)) = false := by decide) :
    Ex J κ (.Call (.Attribute (.Name xn np) name apos) [] [] cpos) k (methM T g (.io i j) [] (vr i) aNil) (backK [.io i j] (κ.set i .un)) := by
  exact ⟨_, pe_bm0 pa slot hty hm (pe_var hN hvi hdb hcd) hbase hline, fun R S H σ env Q h hq => methI_core (as := []) (ts := []) (fr := aNil) (κ2 := κ.set i .un) hd hk (fun R S H σ env Q h q => q S H [] .refl trivial h) hp h hq⟩
theorem rel_sh {G S H} : ∀ {n : Nat} {ds : List D} {vs : List V} {xs : List Ent}, Rel G S H (ents (List.replicate n .sh) ds (vs.map some) ++ xs) → ds.length = n → vs.length = n → DenL G S H ds vs
  | 0, [], [], _, _, _, _ => by simp only [DenL]
  | n + 1, d :: ds, v :: vs, xs, h, l1, l2 => by
    simp only [DenL]
    have h : Rel G S H (⟨.sh, d, some v⟩ :: (ents (List.replicate n .sh) ds (vs.map some) ++ xs)) := h
    exact ⟨v, vs, rfl, h.shared, rel_sh h.drop (by simpa using l1) (by simpa using l2)⟩
  | 0, _ :: _, _, _, _, l, _ => by simp at l
  | 0, [], _ :: _, _, _, _, l => by simp at l
  | n + 1, [], _, _, _, l, _ => by simp at l
  | n + 1, _ :: _, [], _, _, _, l => by simp at l
/-- a new list, owned -/
theorem Rel.newList {G S H xs ds vs} {p : Addr} (h : Rel G S H xs) (hp : H p = none) (hd : DenL G S H ds vs) : Grow S H S (upd H p (.lst vs)) ∧ Rel G S (upd H p (.lst vs)) (⟨.ow 0, .lst ds, some (.ref p)⟩ :: xs) := by
  have ns : ¬ S p := fun s => h.1.al p s hp
  have g : Grow S H S (upd H p (.lst vs)) := Grow.of fun a s => ⟨s, upd_ne fun e => ns (e ▸ s)⟩
  refine Rel.step0 (ys := [⟨.ow 0, .lst ds, some (.ref p)⟩]) h g (fun a n => .inr (upd_ne fun e => n (e ▸ hp))) (fun a s => .inl s) (fun a s => by
    have e : upd H p (.lst vs) a = H a := upd_ne (fun e => ns (e ▸ s))
    rw [e]; exact h.1.al a s) ⟨[p] ++ [], fun a m => ?_, .cons ⟨_, rfl, ?_⟩ (by simp) (fun a m => ?_) .nil⟩
  · simp at m; subst m; exact hp
  · exact ⟨p, vs, [], rfl, upd_same, rfl, All3_zero.mpr ⟨hd.grow g, rfl⟩⟩
  · simp at m; subst m
    exact ⟨ns, by rw [upd_same]; simp, by simp⟩
theorem Rel.newTup {G S H xs ds vs} {p : Addr} (h : Rel G S H xs) (hp : H p = none) (hd : DenL G S H ds vs) : ∃ S', Grow S H S' (upd H p (.tup vs)) ∧ Rel G S' (upd H p (.tup vs)) (⟨.sh, .tup ds, some (.ref p)⟩ :: xs) := by
  have ns : ¬ S p := fun s => h.1.al p s hp
  have g : Grow S H (fun a => S a ∨ a = p) (upd H p (.tup vs)) := Grow.of fun a s => ⟨.inl s, upd_ne fun e => ns (e ▸ s)⟩
  refine ⟨fun a => S a ∨ a = p, ?_⟩
  refine Rel.step0 (ys := [⟨.sh, .tup ds, some (.ref p)⟩]) h g (fun a n => .inr (upd_ne fun e => n (e ▸ hp))) (fun a s => s.elim .inl fun e => .inr (by rw [e]; exact hp)) (fun a s => ?_) ⟨[] ++ [], fun a m => (by simp at m), .cons ⟨rfl, _, rfl, ?_⟩ .nil (fun a m => nomatch m) .nil⟩
  · rcases s with s | rfl
    · have e : upd H p (.tup vs) a = H a := upd_ne (fun e => ns (e ▸ s))
      rw [e]; exact h.1.al a s
    · rw [upd_same]; simp
  · simp only [Den]
    exact ⟨p, vs, rfl, .inl ⟨.inr rfl, .inl upd_same⟩, hd.grow g⟩
/-- most that a list may hold here -/
def lim : Nat := 1000000
theorem lim_ok {n : Nat} (h : n ≤ lim) : n ≤ sizeLine := Nat.le_trans h (by unfold lim; decide)
theorem lim_lt {n : Nat} (h : n ≤ lim) : n < sizeLine := Nat.lt_of_le_of_lt h (by unfold lim; decide)
def lstM (fr : M (List D)) : M D := fun e => (fr e).bind fun ds e => if ds.length ≤ lim then .ok (.lst ds) e else .stuck
def tupM (fr : M (List D)) : M D := fun e => (fr e).bind fun ds e => if ds.length ≤ lim then .ok (.tup ds) e else .stuck
theorem ax_shd : ∀ {as : List Ak}, as.all (· == .sh) = true → as.map Ak.kd = List.replicate as.length .sh
  | [], _ => rfl
  | a :: as, h => by
    simp only [List.all_cons, Bool.and_eq_true, beq_iff_eq] at h
    obtain ⟨rfl, h⟩ := h
    simp only [List.map_cons, List.length_cons, List.replicate_succ, List.cons.injEq]
    exact ⟨rfl, ax_shd h⟩
theorem dropTemps {G S H κ e σ} : ∀ {T R : List Ent}, Rl G S H κ e σ (T ++ R) → Rl G S H κ e σ R
  | [], _, h => h
  | _ :: T, _, h => dropTemps (T := T) h.drop
theorem ex_lst (ha : Ax J κ es as fr κ1) (hs : as.all (· == .sh) = true := by rfl) : Ex J κ (.List es pos) (.ow 0) (lstM fr) κ1 := by
  obtain ⟨t, p, q⟩ := ha.ex
  refine ⟨_, pe_lst p, fun R S H σ env Q h hq => q _ _ _ _ _ _ h (hq.bind.mono fun ds e1 _ z S1 H1 vs g1 ok r1 => ?_)⟩
  have l := ok.len
  by_cases hl : ds.length ≤ lim
  · rw [if_pos hl] at z
    refine ⟨by rw [l.2, ← l.1]; exact lim_ok hl, fun p hp => ?_⟩
    have r0 := r1.rel
    rw [ax_shd hs, List.append_assoc] at r0
    have hd := rel_sh r0 l.1 l.2
    have r2 := dropTemps r1
    obtain ⟨g2, r3⟩ := r2.rel.newList hp hd
    exact z S1 _ _ (g1.trans g2) ⟨r2.l1, r2.l2, r3⟩
  · rw [if_neg hl] at z; exact z.elim
theorem ex_tup {k2} (ha : Ax J κ es as fr κ1) (hs : as.all (· == .sh) = true := by rfl) : Ex J κ (.Tuple es k2 pos) .sh (tupM fr) κ1 := by
  obtain ⟨t, p, q⟩ := ha.ex
  refine ⟨_, pe_tup p, fun R S H σ env Q h hq => q _ _ _ _ _ _ h (hq.bind.mono fun ds e1 _ z S1 H1 vs g1 ok r1 => ?_)⟩
  have l := ok.len
  by_cases hl : ds.length ≤ lim
  · rw [if_pos hl] at z
    refine ⟨by rw [l.2, ← l.1]; exact lim_ok hl, fun p hp => ?_⟩
    have r0 := r1.rel
    rw [ax_shd hs, List.append_assoc] at r0
    have hd := rel_sh r0 l.1 l.2
    have r2 := dropTemps r1
    obtain ⟨S2, g2, r3⟩ := r2.rel.newTup hp hd
    exact z S2 _ _ (g1.trans g2) ⟨r2.l1, r2.l2, r3⟩
  · rw [if_neg hl] at z; exact z.elim
end
end Rm
namespace Rm
open PySem PySem.Spec L2
def ItOk (G : Gx) (I : It) (S0 : Rg) (H0 : Hp) (items : List D) : Prop := ∀ S H, Grow S0 H0 S H → I.stop items.length H ∧ ∀ (i : Nat) d, items[i]? = some d → I.go i H ∧
  ∀ x H', I.yld i H x H' → ∀ xs, Rel G S H xs → ∃ S', Grow S H S' H' ∧ Rel G S' H' (⟨.sh, d, some x⟩ :: xs)
structure Ix (J : Jc) (κ : List Kd) (tg iter : Expr) (f : M (List D)) (κ' : List Kd) : Prop where
  ex : ∃ wi : TI, PI J.X tg iter wi ∧ ∀ R S H σ env Rk, Rl J.G S H κ env σ R →
    Req J R S H σ (f env) (fun ds e => ∀ S' H' I, Grow S H S' H' → Rl J.G S' H' κ' e σ R → ItOk J.G I S' H' ds → Rk I H') → wi σ H Rk
/-- .. where P holds -/
structure IxP (J : Jc) (κ : List Kd) (tg iter : Expr) (f : M (List D)) (κ' : List Kd) (P : Rg → Hp → St → List D → Prop) : Prop where
  ex : ∃ wi : TI, PI J.X tg iter wi ∧ ∀ R S H σ env Rk, P S H σ env → Rl J.G S H κ env σ R →
    Req J R S H σ (f env) (fun ds e => ∀ S' H' I, Grow S H S' H' → Rl J.G S' H' κ' e σ R → ItOk J.G I S' H' ds → Rk I H') → wi σ H Rk
theorem Ix.p {J : Jc} {κ κ' : List Kd} {tg iter : Expr} {f : M (List D)} (h : Ix J κ tg iter f κ') : IxP J κ tg iter f κ' fun _ _ _ _ => True := by
  obtain ⟨wi, p, q⟩ := h.ex
  exact ⟨wi, p, fun R S H σ env Rk _ r => q R S H σ env Rk r⟩
theorem denL_get {G S H} : ∀ {ds vs} {i : Nat} {d}, DenL G S H ds vs → ds[i]? = some d → ∃ v, vs[i]? = some v ∧ Den G S H d v
  | [], _, _, _, _, e => by simp at e
  | d :: ds, vs, i, d', h, e => by
    simp only [DenL] at h
    obtain ⟨v, r, rfl, h1, h2⟩ := h
    cases i with
    | zero => simp at e; subst e; exact ⟨v, by simp, h1⟩
    | succ i => simp at e; obtain ⟨w, e1, e2⟩ := denL_get h2 e; exact ⟨w, by simpa using e1, e2⟩
theorem itOk_list {G : Gx} {S H ds a vs} (hl : ∀ S' H', Grow S H S' H' → SqL G.K H' a vs) (hd : DenL G S H ds vs) : ItOk G (Itl G.K a) S H ds := fun S' H' g => by
  have q := hl S' H' g
  have d' := hd.grow g
  refine ⟨⟨vs, q, by rw [d'.length]; exact Nat.le_refl _⟩, fun i d e => ?_⟩
  obtain ⟨v, e1, e2⟩ := denL_get d' e
  refine ⟨⟨vs, v, q, e1⟩, fun x H2 y xs r => ?_⟩
  obtain ⟨rfl, y⟩ := y
  have e3 := y vs q
  rw [e1] at e3
  cases e3
  exact ⟨S', .refl, r.push e2⟩
theorem itOk_tup {G : Gx} {S H ds a vs} (hl : ∀ S' H', Grow S H S' H' → SqT G.K H' a vs) (hd : DenL G S H ds vs) : ItOk G (Itt G.K a) S H ds := fun S' H' g => by
  have q := hl S' H' g
  have d' := hd.grow g
  refine ⟨⟨vs, q, by rw [d'.length]; exact Nat.le_refl _⟩, fun i d e => ?_⟩
  obtain ⟨v, e1, e2⟩ := denL_get d' e
  refine ⟨⟨vs, v, q, e1⟩, fun x H2 y xs r => ?_⟩
  obtain ⟨rfl, y⟩ := y
  have e3 := y vs q
  rw [e1] at e3
  cases e3
  exact ⟨S', .refl, r.push e2⟩
theorem den_lst_g {G S H ds v} (h : Den G S H (.lst ds) v) : ∃ a vs, v = .ref a ∧ (∀ S' H', Grow S H S' H' → SqL G.K H' a vs) ∧ DenL G S H ds vs := by
  simp only [Den] at h
  obtain ⟨a, vs, rfl, s, q, l⟩ := h
  exact ⟨a, vs, rfl, fun S' H' g => SqL.of ((g a s).2.trans q), l⟩
theorem den_rol_g {G S H ds v} (h : Den G S H (.rol ds) v) : ∃ a vs, v = .ref a ∧ (∀ S' H', Grow S H S' H' → SqL G.K H' a vs) ∧ DenL G S H ds vs := by
  simp only [Den] at h
  obtain ⟨a, vs, rfl, q, l⟩ := h
  refine ⟨a, vs, rfl, fun S' H' g => ?_, l⟩
  rcases q with ⟨s, q⟩ | q
  · exact .inl (Rd.grow g s q (.inl ⟨_, rfl⟩))
  · exact q H'
theorem den_tup_g {G S H ds v} (h : Den G S H (.tup ds) v) : ∃ a vs, v = .ref a ∧ (∀ S' H', Grow S H S' H' → SqT G.K H' a vs) ∧ DenL G S H ds vs := by
  simp only [Den] at h
  obtain ⟨a, vs, rfl, q, l⟩ := h
  refine ⟨a, vs, rfl, fun S' H' g => ?_, l⟩
  rcases q with ⟨s, q⟩ | q
  · exact .inl (Rd.grow g s q (.inr (.inl ⟨_, rfl⟩)))
  · exact q H'
def seqM (f : M D) : M (List D) := fun e => (f e).bind fun d e => match d with | .lst ds => .ok ds e | .rol ds => .ok ds e | .tup ds => .ok ds e | _ => .stuck
def chD (c : Nat) : D := .str ⟨#[c]⟩
def strM (f : M D) : M (List D) := fun e => (f e).bind fun d e => match d with | .str x => .ok (x.cps.toList.map chD) e | _ => .stuck
def rngD (lo : Int) (n : Nat) : List D := (List.range n).map fun (i : Nat) => .int (lo + i)
def int1 : List D → Option Int
  | [.int j] => some j
  | _ => none
theorem int1_some {ds : List D} {j} (h : int1 ds = some j) : ds = [.int j] := by
  unfold int1 at h; split at h
  · cases h; rfl
  · cases h
def int2 : List D → Option (Int × Int)
  | [.int i, .int j] => some (i, j)
  | _ => none
def rng1M (f : M (List D)) : M (List D) := fun e => (f e).bind fun ds e => match int1 ds with | some j => if -(lim : Int) ≤ j ∧ j ≤ lim then .ok (rngD 0 j.toNat) e else .stuck | none => .stuck
def rng2M (f : M (List D)) : M (List D) := fun e => (f e).bind fun ds e => match int2 ds with | some p => if (-(lim : Int) ≤ p.1 ∧ p.1 ≤ lim) ∧ -(lim : Int) ≤ p.2 ∧ p.2 ≤ lim then .ok (rngD p.1 (p.2 - p.1).toNat) e else .stuck | none => .stuck
theorem lim62 : (lim : Int) < 2 ^ 62 := by unfold lim; decide
theorem lim62' : (2 : Int) ^ 62 = 4611686018427387904 := by decide
theorem rng_b {j : Int} (h : -(lim : Int) ≤ j ∧ j ≤ lim) : -(2 ^ 62) ≤ j ∧ j < 2 ^ 62 := by
  have := lim62
  rw [lim62'] at this ⊢
  omega
theorem PI.or {X : Cx} {tg iter : Expr} {w1 w2 : TI} (h1 : PI X tg iter w1) (h2 : PI X tg iter w2) : PI X tg iter (fun σ H R => w1 σ H R ∨ w2 σ H R) :=
  ⟨fun pins s σ H R I h => h.elim (h1.run pins s σ H R I) (h2.run pins s σ H R I)⟩
section
variable {J : Jc} {κ κ1 κ2 κ3 κ' : List Kd} {a b c e tg : Expr} {es : List Expr} {pos p apos : Pos} {fa fb fc f : M D} {fr : M (List D)} {k ka kb kc kr : Kd} {as : List Ak} {x m : Str}
/-- a list or a tuple -/
theorem ixq (he : Ex J κ e .sh f κ1) : Ix J κ tg e (seqM f) κ1 := by
  obtain ⟨t, p, q⟩ := he.ex
  refine ⟨_, PI.or (pi_list p) (pi_tup p), fun R S H σ env Rk h hq => ?_⟩
  unfold seqM at hq
  cases eo : f env with
  | stuck => rw [eo] at hq; exact hq.elim
  | ex c fs e1 =>
    rw [eo] at hq
    exact .inl (q R S H σ env _ h (by rw [eo]; exact hq))
  | ok d e1 =>
    rw [eo] at hq
    simp only [Out.bind_ok] at hq
    cases d with
    | lst ds =>
      refine .inl (q R S H σ env _ h ?_)
      rw [eo]
      intro S1 H1 v g1 r1
      obtain ⟨a, vs, rfl, hl, hd⟩ := den_lst_g r1.rel.shared
      exact ⟨a, rfl, ⟨vs, hl S1 H1 .refl⟩, hq S1 H1 _ g1 r1.drop (itOk_list hl hd)⟩
    | rol ds =>
      refine .inl (q R S H σ env _ h ?_)
      rw [eo]
      intro S1 H1 v g1 r1
      obtain ⟨a, vs, rfl, hl, hd⟩ := den_rol_g r1.rel.shared
      exact ⟨a, rfl, ⟨vs, hl S1 H1 .refl⟩, hq S1 H1 _ g1 r1.drop (itOk_list hl hd)⟩
    | tup ds =>
      refine .inr (q R S H σ env _ h ?_)
      rw [eo]
      intro S1 H1 v g1 r1
      obtain ⟨a, vs, rfl, hl, hd⟩ := den_tup_g r1.rel.shared
      exact ⟨a, rfl, ⟨vs, hl S1 H1 .refl⟩, hq S1 H1 _ g1 r1.drop (itOk_tup hl hd)⟩
    | _ => exact hq.elim
theorem ixs (he : Ex J κ e .sh f κ1) : Ix J κ tg e (strM f) κ1 := by
  obtain ⟨t, p, q⟩ := he.ex
  refine ⟨_, pi_str p, fun R S H σ env Rk h hq => q _ _ _ _ _ _ h (hq.bind.mono fun d e1 _ z S1 H1 v g1 r1 => ?_)⟩
  cases d with
  | str x =>
    have := r1.rel.shared
    simp only [Den] at this
    refine ⟨x, this, z S1 H1 _ g1 r1.drop fun S2 H2 g => ⟨?_, fun i d e => ?_⟩⟩
    · show x.cps.size ≤ (x.cps.toList.map chD).length
      simp
    · rw [List.getElem?_map] at e
      cases ec : x.cps.toList[i]? with
      | none => rw [ec] at e; cases e
      | some c =>
        rw [ec] at e
        simp at e
        have hi : i < x.cps.size := by
          have := (List.getElem?_eq_some_iff.mp ec).1
          simpa using this
        refine ⟨hi, fun y H3 hy xs r => ?_⟩
        obtain ⟨rfl, c', e1, rfl⟩ := hy
        refine ⟨S2, .refl, r.push ?_⟩
        have : x.cps.toList[i]? = x.cps[i]? := by simp
        rw [this, e1] at ec
        cases ec
        subst e
        simp only [chD, Den]
  | _ => exact z.elim
theorem itOk_rng {G : Gx} {S H} {lo : Int} {n : Nat} : ItOk G (Itr lo n) S H (rngD lo n) := fun S' H' g => by
  refine ⟨by simp [rngD, Itr], fun i d e => ?_⟩
  unfold rngD at e
  rw [List.getElem?_map] at e
  by_cases hi : i < n
  · rw [List.getElem?_range hi] at e
    simp at e
    refine ⟨hi, fun x H2 y xs r => ?_⟩
    obtain ⟨rfl, rfl⟩ := y
    exact ⟨S', .refl, r.push (by subst e; simp only [Den])⟩
  · rw [List.getElem?_eq_none (by simpa using Nat.le_of_not_lt hi)] at e
    cases e
theorem ix_rng1 (hg : Gl J.X "range") (hm : J.X.mg "range" = none) (ha : Ax J κ [a] as fr κ1) (hsh : as.all (· == .sh) = true := by rfl) (hs : starEach [a] J.X.env = [(false, eval a J.X.env)] := by rfl) :
    Ix J κ tg (.Call (.Name "range" p) [a] [] pos) (rng1M fr) κ1 := by
  obtain ⟨t, pt, q⟩ := ha.ex
  refine ⟨_, pi_range1 hg hm pt hs, fun R S H σ env Rk h hq => q _ _ _ _ _ _ h (hq.bind.mono fun ds e1 _ z S1 H1 vs g1 ok r1 => ?_)⟩
  have l := ok.len
  have r0 := r1.rel
  rw [ax_shd hsh, List.append_assoc] at r0
  have hd := rel_sh r0 l.1 l.2
  cases ei : int1 ds with
  | none => rw [ei] at z; exact z.elim
  | some j =>
    rw [ei] at z
    have e2 := int1_some ei
    subst e2
    by_cases hj : -(lim : Int) ≤ j ∧ j ≤ lim
    · have z := (show Req J R S H σ (if -(lim : Int) ≤ j ∧ j ≤ lim then .ok (rngD 0 j.toNat) e1 else .stuck) _ from z)
      rw [if_pos hj] at z
      simp only [DenL, Den] at hd
      obtain ⟨v, r, rfl, rfl, rfl⟩ := hd
      exact ⟨j, rfl, (rng_b hj).1, (rng_b hj).2, z S1 H1 _ g1 (dropTemps r1) itOk_rng⟩
    · have z := (show Req J R S H σ (if -(lim : Int) ≤ j ∧ j ≤ lim then .ok (rngD 0 j.toNat) e1 else .stuck) _ from z)
      rw [if_neg hj] at z
      exact z.elim
def forGo (tg : D → List D → Option (List D)) (body : M Fl) : List D → M Fl
  | [], e => .ok .nx e
  | x :: xs, e => match tg x e with
    | none => .stuck
    | some e => (body e).bind fun fl e => match fl with
      | .nx => forGo tg body xs e
      | .ct => forGo tg body xs e
      | .bk => .ok .nx e
      | .rt d => .ok (.rt d) e
def forM' (src : M (List D)) (tg : D → List D → Option (List D)) (body : M Fl) : M Fl := fun e => (src e).bind fun items e => forGo tg body items e
/-- the same with other kinds at a break and at a continue -/
def Jc.loop (J : Jc) (kb kc : List Kd) : Jc := { J with kb := kb, kc := kc }
theorem for_rd {P : Rg → Hp → St → List D → Prop} {iter : Expr} {body : List Stmt} {g} {fb : M Fl} {src : M (List D)} {ws : List Nat} (hi : IxP J κ tg iter src κ1 P) (hg : Gtx J κ1 tg .sh g ws κ2) (hws : ws.all (fun i => J.kx[i]? == some Kd.un) = true) (hb : Lx (J.loop κ1 κ1) κ2 body fb κ1) (hs : ∀ x, foldedSetIterable iter J.X.env x = pure x ) (hhot : J.hot = false) :
    ∃ t, PS J.X (.For tg iter body [] pos) t ∧ ∀ R S H σ env D, P S H σ env → Rl J.G S H κ env σ R → SReq J κ1 R S H σ (forM' src g fb env) D → t D σ H := by
  obtain ⟨wi, pi, qi⟩ := hi.ex
  obtain ⟨tg', pg, qg⟩ := hg.ex
  obtain ⟨tb, pb, qb⟩ := hb.ex
  refine ⟨_, ps_for J.po (J.calm hhot) pi pg pb hs, fun R S H σ env D hP h hq => qi _ _ _ _ _ _ hP h (SReq.bind hq |>.mono fun items e1 _ z S1 H1 I g1 r1 io => ?_)⟩
  have z1 := SReq.later z g1 (Fix.refl (σ := σ))
  -- the word: i items are gone
  refine ⟨fun i m σ' H' => ∃ S' e', m = items.length - i ∧ i ≤ items.length ∧ Grow S1 H1 S' H' ∧ Fix J.kx σ σ' ∧ Rl J.G S' H' κ1 e' σ' R ∧ SReq J κ1 R S' H' σ' (forGo g fb (items.drop i) e') D, ⟨items.length, S1, e1, by omega, Nat.zero_le _, .refl, .refl, r1, by rw [List.drop_zero]; exact z1⟩, ?_⟩
  rintro i m σ' H' ⟨S', e', rfl, hi', g2, fx, r2, z2⟩
  obtain ⟨hst, hgo⟩ := io S' H' g2
  by_cases hlt : i < items.length
  · have ed : items[i]? = some items[i] := List.getElem?_eq_getElem hlt
    obtain ⟨go, hy⟩ := hgo i _ ed
    have edr : items.drop i = items[i] :: items.drop (i + 1) := List.drop_eq_getElem_cons hlt
    rw [edr] at z2
    unfold forGo at z2
    refine .inr ⟨go, _, fun σ3 H3 q => q, fun x H3 y => ?_⟩
    obtain ⟨S3, g3, r3⟩ := hy x H3 y _ r2.rel
    cases eg : g items[i] e' with
    | none => rw [eg] at z2; exact z2.elim
    | some e3 =>
      rw [eg] at z2
      refine qg R S3 H3 σ' e' _ x e3 _ ⟨r2.l1, r2.l2, r3⟩ eg fun σ4 fx4' r4 => ?_
      have fx4 := fx4'.fix hws
      refine qb R S3 H3 σ4 e3 _ r4 ?_
      have z3 := SReq.later (show SReq J κ1 R S' H' σ' ((fb e3).bind _) D from z2) g3 fx4
      have nxt : ∀ S5 H5 σ5 e5, Grow S3 H3 S5 H5 → Fix J.kx σ4 σ5 → Rl J.G S5 H5 κ1 e5 σ5 R → SReq J κ1 R S3 H3 σ4 (forGo g fb (items.drop (i + 1)) e5) D →
          ∃ m', m' < items.length - i ∧ ∃ S' e', m' = items.length - (i + 1) ∧ i + 1 ≤ items.length ∧ Grow S1 H1 S' H5 ∧ Fix J.kx σ σ5 ∧ Rl J.G S' H5 κ1 e' σ5 R ∧ SReq J κ1 R S' H5 σ5 (forGo g fb (items.drop (i + 1)) e') D := fun S5 H5 σ5 e5 g5 fx5 r5 z5 =>
        ⟨items.length - (i + 1), by omega, S5, e5, rfl, hlt, (g2.trans g3).trans g5, (fx.trans fx4).trans fx5, r5, SReq.later z5 g5 fx5⟩
      unfold SReq
      cases eb : fb e3 with
      | stuck => rw [eb] at z3; exact z3
      | ex c fs e5 => rw [eb] at z3; exact z3
      | ok fl e5 =>
        rw [eb] at z3
        cases fl with
        | nx => exact fun S5 H5 σ5 g5 fx5 r5 => nxt S5 H5 σ5 e5 g5 fx5 r5 z3
        | ct => exact fun S5 H5 σ5 g5 fx5 r5 => nxt S5 H5 σ5 e5 g5 fx5 r5 z3
        | bk => exact z3
        | rt d => exact z3
  · have ei : i = items.length := by omega
    subst ei
    rw [List.drop_length] at z2
    exact .inl ⟨hst, z2 S' H' σ' .refl .refl r2⟩
theorem sx_for {iter : Expr} {body : List Stmt} {g} {fb : M Fl} {src : M (List D)} {ws : List Nat} (hi : Ix J κ tg iter src κ1) (hg : Gtx J κ1 tg .sh g ws κ2) (hws : ws.all (fun i => J.kx[i]? == some Kd.un) = true := by rfl) (hb : Lx (J.loop κ1 κ1) κ2 body fb κ1) (hs : ∀ x, foldedSetIterable iter J.X.env x = pure x := by intro _; rfl) (hhot : J.hot = false := by rfl) :
    Sx J κ (.For tg iter body [] pos) (forM' src g fb) κ1 := by
  obtain ⟨t, p, q⟩ := for_rd hi.p hg hws hb (pos := pos) hs hhot
  exact ⟨t, p, fun R S H σ env D h hq => q R S H σ env D trivial h hq⟩
end
end Rm
namespace Rm
open PySem PySem.Spec L2
theorem Rl.sig {G S H} {κ : List Kd} {env env' : List D} {σ σ' : St} {R : List Ent} (h : Rl G S H κ env σ R) (l : σ'.length = σ.length) (le : env'.length = env.length)
    (f : ∀ i : Nat, κ[i]? ≠ some .un → σ'[i]? = σ[i]? ∧ env'[i]? = env[i]?) : Rl G S H κ env' σ' R := by
  refine ⟨h.l1.trans l.symm, by rw [le, h.l2, l], ?_⟩
  have key : ∀ (κ : List Kd) (env env' : List D) (σ σ' : St) (R : List Ent), σ'.length = σ.length → env'.length = env.length → (∀ i : Nat, κ[i]? ≠ some .un → σ'[i]? = σ[i]? ∧ env'[i]? = env[i]?) →
      Rel G S H (R ++ ents κ env σ) → Rel G S H (R ++ ents κ env' σ') := by
    intro κ
    induction κ with
    | nil => intro env env' σ σ' R _ _ _ h; simpa [ents] using h
    | cons k ks ih =>
      intro env env' σ σ' R l le f h
      cases env with
      | nil =>
        have : env' = [] := List.length_eq_zero_iff.mp le
        subst this
        simpa [ents] using h
      | cons d ds =>
        cases env' with
        | nil => simp at le
        | cons d' ds' =>
          cases σ with
          | nil =>
            have : σ' = [] := List.length_eq_zero_iff.mp l
            subst this
            simpa [ents] using h
          | cons v vs =>
            cases σ' with
            | nil => simp at l
            | cons v' vs' =>
              have h1 : Rel G S H ((R ++ [⟨k, d, v⟩]) ++ ents ks ds vs) := by simpa [ents] using h
              have h2 := ih ds ds' vs vs' (R ++ [⟨k, d, v⟩]) (by simpa using l) (by simpa using le) (fun i q => by simpa using f (i + 1) (by simpa using q)) h1
              have h3 : Rel G S H (R ++ ⟨k, d, v⟩ :: ents ks ds' vs') := by simpa using h2
              show Rel G S H (R ++ ⟨k, d', v'⟩ :: ents ks ds' vs')
              by_cases hk : k = .un
              · subst hk
                exact ((h3.perm List.perm_middle).un_eq).perm List.perm_middle.symm
              · have := f 0 (by simpa using hk)
                simp at this
                rw [this.1, this.2]
                exact h3
  exact key κ env env' σ σ' R l le f h.rel
/-- the block's own slots are forgotten -/
def wipeE (e : List D) : List Nat → List D
  | [] => e
  | v :: vs => (wipeE e vs).set v .non
theorem wipeE_length (e : List D) : ∀ vs : List Nat, (wipeE e vs).length = e.length
  | [] => rfl
  | v :: vs => by unfold wipeE; rw [List.length_set, wipeE_length e vs]
theorem wipeE_out {e : List D} {i : Nat} : ∀ {vs : List Nat}, i ∉ vs → (wipeE e vs)[i]? = e[i]?
  | [], _ => rfl
  | v :: vs, h => by
    have h1 : v ≠ i := fun q => h (by rw [q]; exact List.mem_cons_self)
    unfold wipeE
    rw [List.getElem?_set_ne h1, wipeE_out fun m => h (List.mem_cons_of_mem _ m)]
theorem wipe_in {σ : St} {i : Nat} : ∀ {vs : List Nat}, i ∈ vs → i < σ.length → (wipe σ vs)[i]? = some none
  | v :: vs, m, l => by
    unfold wipe
    by_cases e : v = i
    · subst e
      rw [List.getElem?_set_self (by rw [wipe_length]; exact l)]
    · rw [List.getElem?_set_ne e]
      exact wipe_in ((List.mem_cons.mp m).resolve_left (Ne.symm e)) l
theorem wipe_agr {ws vs : List Nat} {σ σ2 : St} (a : Agr ws (wipe σ vs) σ2) (h : ws.all vs.contains = true) : wipe σ2 vs = wipe σ vs := by
  apply List.ext_getElem?
  intro i
  by_cases m : i ∈ vs
  · by_cases l : i < σ.length
    · have l2 : i < σ2.length := by rw [a.1, wipe_length]; exact l
      rw [wipe_in m l, wipe_in m l2]
    · have l1 : (wipe σ vs).length ≤ i := by rw [wipe_length]; omega
      have l2 : (wipe σ2 vs).length ≤ i := by rw [wipe_length, a.1, wipe_length]; omega
      rw [List.getElem?_eq_none l1, List.getElem?_eq_none l2]
  · rw [wipe_out m]
    refine a.2 i fun q => m ?_
    have := (List.all_eq_true.mp h) i q
    simpa using this
def Out.noEx {α : Type} : Out α → Out α
  | .ok a e => .ok a e
  | _ => .stuck
def lcGo (own : List Nat) (tg : D → List D → Option (List D)) (cond : M Bool) (elt : M D) : List D → M (List D)
  | [], e => .ok [] e
  | x :: xs, e => match tg x e with
    | none => .stuck
    | some e => (cond e).noEx.bind fun b e => if b = true then (elt e).noEx.bind fun d e => (lcGo own tg cond elt xs (wipeE e own)).bind fun ds e => .ok (d :: ds) e
      else lcGo own tg cond elt xs (wipeE e own)
def lcM (src : M (List D)) (own : List Nat) (tg : D → List D → Option (List D)) (cond : M Bool) (elt : M D) : M D := fun e => (src e).bind fun items e =>
  if items.length ≤ lim then (lcGo own tg cond elt items (wipeE e own)).bind fun ds e => .ok (.lst ds) e else .stuck
def yes : M Bool := fun e => .ok true e
/-- a comprehension's block -/
def Jc.blk (J : Jc) (s : Shared) (H : Hp) (scope : Scope) (C : Addr) (cl : List (Str × Addr)) (fp : List Addr) : Jc where
  X := J.X.blk s H scope (compEnvC scope cl C J.X.env) fp
  cl := J.cl
  fa := J.fa
  W := fun _ _ _ _ => False
  kx := List.replicate J.kx.length .un
  kr := .sh
  kb := []
  kc := []
  tk := takes0
  hot := J.hot
  calm := J.calm
  po := PassesOwn.never
  gd := J.gd
  Φ := J.Φ
  st := J.st
structure Cx1 (J : Jc) (κ : List Kd) (ifs : List Expr) (f : M Bool) (κ' : List Kd) : Prop where
  ex : ∃ t : TT, PTs J.X ifs t ∧ ∀ R S H σ env Q, Rl J.G S H κ env σ R →
    Req J R S H σ (f env) (fun b e => ∀ S' H', Grow S H S' H' → Rl J.G S' H' κ' e σ R → Q b H') → t σ H Q
theorem cx_nil {J κ} : Cx1 J κ [] yes κ := ⟨tYes, pts_nil, fun R S H σ env Q h q => q S H .refl h⟩
theorem cx_one {J κ κ' c f} (h : Tx J κ c f κ') : Cx1 J κ [c] f κ' := by
  obtain ⟨t, p, q⟩ := h.ex
  exact ⟨t, pts_one p, q⟩
theorem Req.join {α β J R S H σ} {o : Out α} {F : α → List D → Out β} {K : β → List D → Prop} (h : Req J R S H σ o fun a e => Req J R S H σ (F a e) K) : Req J R S H σ (o.bind F) K := by
  cases o with
  | ok a e => exact h
  | ex c fs e => exact h
  | stuck => exact h
/-- the owned list at the head grows -/
theorem Rel.grow1 {G S H xs acc d v} {da : Addr} (h : Rel G S H (⟨.sh, d, some v⟩ :: ⟨.ow 0, .lst acc, some (.ref da)⟩ :: xs)) : ∃ vs, H da = some (.lst vs) ∧ vs.length = acc.length ∧
    Grow S H S (upd H da (.lst (vs ++ [v]))) ∧ Rel G S (upd H da (.lst (vs ++ [v]))) (⟨.ow 0, .lst (acc ++ [d]), some (.ref da)⟩ :: xs) := by
  have hd := h.shared
  have h := h.drop
  obtain ⟨al, L, q⟩ := id h
  cases q with
  | @cons _ _ L0 M he nd f hr =>
    obtain ⟨w, e, a, vs, M0, e1, ha, e2, hA⟩ := he
    cases e
    cases e1
    obtain ⟨hl, rfl⟩ := All3_zero.mp hA
    refine ⟨vs, ha, hl.length, ?_⟩
    have ns : ¬ S da := (f da (by rw [e2]; simp)).1
    have g : Grow S H S (upd H da (.lst (vs ++ [v]))) := Grow.of fun a s => ⟨s, upd_ne fun e => ns (e ▸ s)⟩
    refine Rel.step h (ys := [⟨.ow 0, .lst (acc ++ [d]), some (.ref da)⟩]) fun L' he' nd' f' => ?_
    obtain ⟨w, e, a, vs', M1, e1, ha', e2', hA'⟩ := he'
    cases e
    cases e1
    obtain ⟨hl', rfl⟩ := All3_zero.mp hA'
    subst e2'
    refine ⟨g, fun b n nb => .inr (upd_ne fun e => nb (by rw [e]; simp)), fun b s => .inl s, fun b s => ?_, [da] ++ [], fun b m => ?_, .cons ⟨_, rfl, da, vs ++ [v], [], rfl, upd_same, rfl, All3_zero.mpr ⟨?_, rfl⟩⟩ (by simp) (fun b m => ?_) .nil⟩
    · have e : upd H da (.lst (vs ++ [v])) b = H b := upd_ne (fun e => ns (e ▸ s))
      rw [e]; exact al.al b s
    · simp at m; subst m; exact .inl (by simp)
    · have key : ∀ {ds : List D} {us : List V}, DenL G S H ds us → DenL G S H (ds ++ [d]) (us ++ [v]) := by
        intro ds
        induction ds with
        | nil => intro us q; simp only [DenL] at q; subst q; simp only [List.nil_append, DenL]; exact ⟨v, [], rfl, hd, rfl⟩
        | cons d0 ds ih =>
          intro us q
          simp only [DenL] at q
          obtain ⟨v0, r, rfl, q1, q2⟩ := q
          simp only [List.cons_append, DenL]
          exact ⟨v0, r ++ [v], rfl, q1, ih q2⟩
      exact (key hl).grow g
    · simp at m; subst m
      exact ⟨ns, by rw [upd_same]; simp, by simp⟩
/-- the reading of a comprehension -/
theorem noEx_req {α} {J R S H σ σ' S' H'} {o : Out α} {β} {F : α → List D → Out β} {K : β → List D → Prop} {J' : Jc} {R' : List Ent} (h : Req J R S H σ (o.noEx.bind F) K) : Req J' R' S' H' σ' o fun a e => Req J R S H σ (F a e) K := by
  cases o with
  | ok a e => exact h
  | ex c fs e => exact h.elim
  | stuck => exact h.elim
theorem un_at {κ : List Kd} {vs : List Nat} (h : vs.all (fun i => κ[i]? == some Kd.un) = true) : ∀ i : Nat, κ[i]? ≠ some .un → i ∉ vs := fun i hk m => by
  have := (List.all_eq_true.mp h) i m
  exact hk (by simpa using this)
theorem lc_reading {J : Jc} {κ1 κb κ2 κ3 κ4 : List Kd} {vs ws : List Nat} {src : M (List D)} {g : D → List D → Option (List D)} {f1 : M Bool} {fe : M D} {wi : TI} {tG : TG} {tT : TT} {tE : TE}
    (J' : Jc) (hG : J'.G = J.G)
    (qg : ∀ R S H σ env d v e' Q, Rl J.G S H κb env σ (⟨.sh, d, some v⟩ :: R) → g d env = some e' → (∀ σ', Agr ws σ σ' → Rl J.G S H κ2 e' σ' R → Q σ' H) → tG v σ H Q)
    (qt : ∀ R S H σ env Q, Rl J.G S H κ2 env σ R → Req J' R S H σ (f1 env) (fun b e => ∀ S' H', Grow S H S' H' → Rl J.G S' H' κ3 e σ R → Q b H') → tT σ H Q)
    (qe : ∀ R S H σ env Q, Rl J.G S H κ3 env σ R → Req J' R S H σ (fe env) (fun d e => ∀ S' H' v, Grow S H S' H' → Rl J.G S' H' κ4 e σ (⟨.sh, d, some v⟩ :: R) → Q v H') → tE σ H Q)
    (hb : kle κb κ1 = true) (hb3 : kle κb κ3 = true) (hb4 : kle κb κ4 = true) (hun : vs.all (fun i => κb[i]? == some Kd.un) = true) (hws : ws.all vs.contains = true)
    {R S H σ env} {Q : VK} (qi : ∀ Rk, Req J R S H σ (src env) (fun ds e => ∀ S' H' I, Grow S H S' H' → Rl J.G S' H' κ1 e σ R → ItOk J.G I S' H' ds → Rk I H') → wi σ H Rk)
    (hq : Req J R S H σ (lcM src vs g f1 fe env) (fun d e => ∀ S' H' v, Grow S H S' H' → Rl J.G S' H' κb e σ (⟨.ow 0, d, some v⟩ :: R) → Q v H')) :
    tLc wi tG tT tE vs σ H Q := by
  have hout := un_at hun
  have toW : ∀ {S H e R}, Rl J.G S H κb e σ R → Rl J.G S H κb (wipeE e vs) (wipe σ vs) R := fun h => h.sig (wipe_length _ _) (wipeE_length _ _) fun i hi => ⟨wipe_out (hout i hi), wipeE_out (hout i hi)⟩
  have ofW : ∀ {S H e R}, Rl J.G S H κb e (wipe σ vs) R → Rl J.G S H κb e σ R := fun h => h.sig (wipe_length _ _).symm rfl fun i hi => ⟨(wipe_out (hout i hi)).symm, rfl⟩
  refine qi _ (hq.bind.mono fun items e1 _ z S1 H1 I g1 r1 io dA hD => ?_)
  by_cases hlim : items.length ≤ lim
  · rw [if_pos hlim] at z
    have r1b := toW (r1.weak hb)
    obtain ⟨g1', rD⟩ := r1b.rel.newList (ds := []) (vs := []) hD (by simp only [DenL])
    refine ⟨fun i m H' => ∃ S' e' acc, m = items.length - i ∧ i ≤ items.length ∧ acc.length ≤ i ∧ Grow S1 H1 S' H' ∧ Rl J.G S' H' κb e' (wipe σ vs) (⟨.ow 0, .lst acc, some (.ref dA)⟩ :: R) ∧
      Req J R S' H' σ ((lcGo vs g f1 fe (items.drop i) e').bind fun ds e => .ok (.lst (acc ++ ds)) e) (fun d e => ∀ S2 H2 v, Grow S' H' S2 H2 → Rl J.G S2 H2 κb e σ (⟨.ow 0, d, some v⟩ :: R) → Q v H2),
      ⟨items.length, S1, wipeE e1 vs, [], by omega, Nat.zero_le _, Nat.le_refl _, g1', ⟨r1b.l1, r1b.l2, rD⟩, ?_⟩, ?_⟩
    · rw [List.drop_zero]
      exact ((z.later g1).later g1').mono fun d e _ y S2 H2 v g2 r2 => y S2 H2 v ((g1.trans g1').trans g2) r2
    · rintro i m H' ⟨S', e', acc, rfl, hi', ha, g2, r2, z2⟩
      obtain ⟨hst, hgo⟩ := io S' H' g2
      by_cases hlt : i < items.length
      · have ed : items[i]? = some items[i] := List.getElem?_eq_getElem hlt
        obtain ⟨go, hy⟩ := hgo i _ ed
        have edr : items.drop i = items[i] :: items.drop (i + 1) := List.drop_eq_getElem_cons hlt
        rw [edr] at z2
        unfold lcGo at z2
        refine .inr ⟨go, _, fun H3 q => q, fun x H3 y => ?_⟩
        obtain ⟨S3, g3, r3⟩ := hy x H3 y _ r2.rel
        cases eg : g items[i] e' with
        | none => rw [eg] at z2; exact z2.elim
        | some e3 =>
          rw [eg] at z2
          refine qg _ S3 H3 (wipe σ vs) e' _ x e3 _ ⟨r2.l1, r2.l2, r3⟩ eg fun σ4 ag r4 => ⟨wipe_agr ag hws, ?_⟩
          have back : ∀ {S H e R}, Rl J.G S H κb e σ4 R → Rl J.G S H κb (wipeE e vs) (wipe σ vs) R := fun h => h.sig ag.1.symm (wipeE_length _ _) fun i hi =>
            ⟨(ag.2 i fun q => hout i hi (by have := (List.all_eq_true.mp hws) i q; simpa using this)).symm, wipeE_out (hout i hi)⟩
          have z3 := Req.later (show Req J R S' H' σ ((((f1 e3).noEx.bind _) : Out (List D)).bind _) _ from z2) g3
          refine qt _ _ _ _ _ _ r4 (noEx_req (Req.bind z3) |>.mono fun b e5 _ z5 S5 H5 g5 r5 => ?_)
          have z5 := z5
          have nxt : ∀ S7 H7 e7 acc', Grow S3 H3 S7 H7 → acc'.length ≤ i + 1 → Rl J.G S7 H7 κb e7 σ4 (⟨.ow 0, .lst acc', some (.ref dA)⟩ :: R) →
              Req J R S7 H7 σ ((lcGo vs g f1 fe (items.drop (i + 1)) (wipeE e7 vs)).bind fun ds e => .ok (.lst (acc' ++ ds)) e) (fun d e => ∀ S2 H2 v, Grow S7 H7 S2 H2 → Rl J.G S2 H2 κb e σ (⟨.ow 0, d, some v⟩ :: R) → Q v H2) →
              ∃ m', m' < items.length - i ∧ ∃ S' e' acc, m' = items.length - (i + 1) ∧ i + 1 ≤ items.length ∧ acc.length ≤ i + 1 ∧ Grow S1 H1 S' H7 ∧ Rl J.G S' H7 κb e' (wipe σ vs) (⟨.ow 0, .lst acc, some (.ref dA)⟩ :: R) ∧
                Req J R S' H7 σ ((lcGo vs g f1 fe (items.drop (i + 1)) e').bind fun ds e => .ok (.lst (acc ++ ds)) e) (fun d e => ∀ S2 H2 v, Grow S' H7 S2 H2 → Rl J.G S2 H2 κb e σ (⟨.ow 0, d, some v⟩ :: R) → Q v H2) := fun S7 H7 e7 acc' g7 ha' r7 z7 =>
            ⟨items.length - (i + 1), by omega, S7, wipeE e7 vs, acc', rfl, hlt, ha', (g2.trans g3).trans g7, back r7, z7⟩
          cases b with
          | false =>
            refine iteF (nxt S5 H5 e5 acc g5 (by omega) (r5.weak hb3) ?_)
            have z6 := Req.join z5
            exact (z6.later g5).mono fun d e _ y S2 H2 v g6 r6 => y S2 H2 v ((g3.trans g5).trans g6) r6
          | true =>
            refine iteT (qe _ _ _ _ _ _ r5 (noEx_req (show Req J R S3 H3 σ ((fe e5).noEx.bind _) _ from z5) |>.mono fun d e7 _ z7 S7 H7 y7 g7 r7 => ?_))
            obtain ⟨us, hu, lu, g8, r8⟩ := r7.rel.grow1
            refine ⟨us, hu, by rw [lu]; exact lim_lt (by omega), nxt S7 _ e7 (acc ++ [d]) ((g5.trans g7).trans g8) (by rw [List.length_append]; simp; omega) (Rl.weak ⟨r7.l1, r7.l2, r8⟩ hb4) ?_⟩
            have z7'' := Req.bind z7
            have z7' : Req J R S3 H3 σ (lcGo vs g f1 fe (items.drop (i + 1)) (wipeE e7 vs)) (fun a e => Req J R S3 H3 σ ((fun (ds : List D) e => (Out.ok (D.lst (acc ++ (d :: ds))) e : Out D)) a e) (fun d e => ∀ S2 H2 v, Grow S' H' S2 H2 → Rl J.G S2 H2 κb e σ (⟨.ow 0, d, some v⟩ :: R) → Q v H2)) := Req.mono z7'' fun a e _ q => q
            have z8 := Req.join z7'
            have ea : (fun (ds : List D) e => (Out.ok (D.lst (acc ++ (d :: ds))) e : Out D)) = fun ds e => .ok (.lst ((acc ++ [d]) ++ ds)) e := by
              funext ds e
              rw [List.append_assoc, List.singleton_append]
            rw [ea] at z8
            exact (z8.later ((g5.trans g7).trans g8)).mono fun d e _ y S2 H2 v g6 r6 => y S2 H2 v ((g3.trans ((g5.trans g7).trans g8)).trans g6) r6
      · have ei : i = items.length := by omega
        subst ei
        rw [List.drop_length] at z2
        refine .inl ⟨hst, ?_⟩
        have z3 : ∀ S2 H2 v, Grow S' H' S2 H2 → Rl J.G S2 H2 κb e' σ (⟨.ow 0, .lst (acc ++ []), some v⟩ :: R) → Q v H2 := z2
        rw [List.append_nil] at z3
        exact z3 S' H' _ .refl (ofW r2)
  · rw [if_neg hlim] at z
    exact z.elim
section
variable {J : Jc} {κ κ1 κb κ2 κ3 κ4 : List Kd} {vs ws : List Nat} {src : M (List D)} {g : D → List D → Option (List D)} {f1 : M Bool} {fe : M D} {tg iter elt : Expr} {ifs : List Expr} {scope : Scope} {own : List (Str × Nat)} {pos : Pos}
theorem lc_family {P : Rg → Hp → St → List D → Prop} (hi : IxP J κ tg iter src κ1 P)
    (hg : ∀ (s : Shared) (H : Hp) (C : Addr) (cl : List (Str × Addr)) (fp : List Addr), Gtx (J.blk s H scope C cl fp) κb tg .sh g ws κ2)
    (ht : ∀ (s : Shared) (H : Hp) (C : Addr) (cl : List (Str × Addr)) (fp : List Addr), Cx1 (J.blk s H scope C cl fp) κ2 ifs f1 κ3)
    (he : ∀ (s : Shared) (H : Hp) (C : Addr) (cl : List (Str × Addr)) (fp : List Addr), Ex (J.blk s H scope C cl fp) κ3 elt .sh fe κ4)
    (hb : kle κb κ1 = true) (hb3 : kle κb κ3 = true) (hb4 : kle κb κ4 = true) (hun : vs.all (fun i => κb[i]? == some Kd.un) = true) (hws : ws.all vs.contains = true) :
    ∃ wi tG tT tE, PI J.X tg iter wi ∧ (∀ (s : Shared) (H : Hp) (C : Addr) (cl : List (Str × Addr)) (fp : List Addr), PG (J.X.blk s H scope (compEnvC scope cl C J.X.env) fp) tg tG) ∧
      (∀ (s : Shared) (H : Hp) (C : Addr) (cl : List (Str × Addr)) (fp : List Addr), PTs (J.X.blk s H scope (compEnvC scope cl C J.X.env) fp) ifs tT) ∧
      (∀ (s : Shared) (H : Hp) (C : Addr) (cl : List (Str × Addr)) (fp : List Addr), PE (J.X.blk s H scope (compEnvC scope cl C J.X.env) fp) elt tE) ∧
      ∀ {R S H σ env} {Q : VK}, P S H σ env → Rl J.G S H κ env σ R → Req J R S H σ (lcM src vs g f1 fe env) (fun d e => ∀ S' H' v, Grow S H S' H' → Rl J.G S' H' κb e σ (⟨.ow 0, d, some v⟩ :: R) → Q v H') → tLc wi tG tT tE vs σ H Q := by
  obtain ⟨wi, pi, qi⟩ := hi.ex
  refine ⟨wi, fun v σ H Q => ∀ s H0 C cl fp, Classical.choose (hg s H0 C cl fp).ex v σ H Q, fun σ H Q => ∀ s H0 C cl fp, Classical.choose (ht s H0 C cl fp).ex σ H Q, fun σ H Q => ∀ s H0 C cl fp, Classical.choose (he s H0 C cl fp).ex σ H Q, pi,
    fun s H C cl fp => ⟨fun pins s' σ H' v u Q I r h => (Classical.choose_spec (hg s H C cl fp).ex).1.run pins s' σ H' v u Q I r (h s H C cl fp)⟩,
    fun s H C cl fp => ⟨fun pins s' σ H' Q I h => (Classical.choose_spec (ht s H C cl fp).ex).1.run pins s' σ H' Q I (h s H C cl fp)⟩,
    fun s H C cl fp => ⟨fun pins s' σ H' Q I h => (Classical.choose_spec (he s H C cl fp).ex).1.run pins s' σ H' Q I (h s H C cl fp)⟩, fun {R S H σ env Q} hP h hq => ?_⟩
  refine lc_reading (J := J) (κ2 := κ2) (J.blk J.X.s_0 J.X.H_0 scope 0 [] []) rfl (fun R S H σ env d v e' Q h hq z s H0 C cl fp => ?_) (fun R S H σ env Q h hq s H0 C cl fp => ?_) (fun R S H σ env Q h hq s H0 C cl fp => ?_) hb hb3 hb4 hun hws (fun Rk => qi R S H σ env Rk hP h) hq
  · exact (Classical.choose_spec (hg s H0 C cl fp).ex).2 R S H σ env d v e' Q h hq z
  · exact (Classical.choose_spec (ht s H0 C cl fp).ex).2 R S H σ env Q h hq
  · exact (Classical.choose_spec (he s H0 C cl fp).ex).2 R S H σ env Q h hq
theorem ex_lc (hN : J.X.N.Nodup) (hi : Ix J κ tg iter src κ1) (ok : BlkOk J.X.N J.X.env.scope scope own)
    (hg : ∀ (s : Shared) (H : Hp) (C : Addr) (cl : List (Str × Addr)) (fp : List Addr), Gtx (J.blk s H scope C cl fp) κb tg .sh g ws κ2)
    (ht : ∀ (s : Shared) (H : Hp) (C : Addr) (cl : List (Str × Addr)) (fp : List Addr), Cx1 (J.blk s H scope C cl fp) κ2 ifs f1 κ3)
    (he : ∀ (s : Shared) (H : Hp) (C : Addr) (cl : List (Str × Addr)) (fp : List Addr), Ex (J.blk s H scope C cl fp) κ3 elt .sh fe κ4)
    (hb : kle κb κ1 = true := by rfl) (hb3 : kle κb κ3 = true := by rfl) (hb4 : kle κb κ4 = true := by rfl) (hun : (own.map (·.2)).all (fun i => κb[i]? == some Kd.un) = true := by rfl) (hws : ws.all (own.map (·.2)).contains = true := by rfl)
    (hs : ∀ x, foldedSetIterable iter J.X.env x = pure x := by intro _; rfl) (hhot : J.hot = false := by rfl) : Ex J κ (.ListComp elt [⟨tg, iter, ifs, 0⟩] scope pos) (.ow 0) (lcM src (own.map (·.2)) g f1 fe) κb := by
  obtain ⟨wi, tG, tT, tE, p1, p2, p3, p4, q⟩ := lc_family hi.p hg ht he hb hb3 hb4 hun hws
  exact ⟨_, pe_lc (J.calm hhot) hN p1 ok p2 p3 p4 hs, fun R S H σ env Q h hq => q trivial h hq⟩
/-- name = [..], the name a local of the def, on one line -/
theorem sx_setLc {i : Nat} {y : Str} {py spos : Pos} (hN : J.X.N.Nodup) (hy : J.X.N[i]? = some y) (hyl : J.X.env.scope.names.lookup y = some .local) (hsw : swapsWith (.ListComp elt [⟨tg, iter, ifs, 0⟩] scope pos) (some (.Name y py)) spos.line J.X.env = pure true)
    (hi : Ix J κ tg iter src κ1) (ok : BlkOk J.X.N J.X.env.scope scope own)
    (hg : ∀ (s : Shared) (H : Hp) (C : Addr) (cl : List (Str × Addr)) (fp : List Addr), Gtx (J.blk s H scope C cl fp) κb tg .sh g ws κ2)
    (ht : ∀ (s : Shared) (H : Hp) (C : Addr) (cl : List (Str × Addr)) (fp : List Addr), Cx1 (J.blk s H scope C cl fp) κ2 ifs f1 κ3)
    (he : ∀ (s : Shared) (H : Hp) (C : Addr) (cl : List (Str × Addr)) (fp : List Addr), Ex (J.blk s H scope C cl fp) κ3 elt .sh fe κ4)
    (hb : kle κb κ1 = true := by rfl) (hb3 : kle κb κ3 = true := by rfl) (hb4 : kle κb κ4 = true := by rfl) (hun : (own.map (·.2)).all (fun i => κb[i]? == some Kd.un) = true := by rfl) (hws : ws.all (own.map (·.2)).contains = true := by rfl)
    (hil : i < κb.length := by decide) (hkx : J.kx[i]? = some .un := by rfl) (hs : ∀ x, foldedSetIterable iter J.X.env x = pure x := by intro _; rfl) (hhot : J.hot = false := by rfl) :
    Sx J κ (.Assign [.Name y py] (.ListComp elt [⟨tg, iter, ifs, 0⟩] scope pos) spos) (sAsg (lcM src (own.map (·.2)) g f1 fe) (tName i)) (κb.set i (.ow 0)) := by
  obtain ⟨wi, tG, tT, tE, p1, p2, p3, p4, q⟩ := lc_family hi.p hg ht he hb hb3 hb4 hun hws
  refine ⟨_, ps_setLc (J.calm hhot) hN hy hyl hsw p1 ok p2 p3 p4 hs, fun R S H σ env D h hq => q trivial h (SReq.bind hq |>.mono fun d e1 _ z S1 H1 v g1 r1 => ?_)⟩
  have e1' : κb[i]? = some (κb[i]'hil) := List.getElem?_eq_getElem _
  have e2 : e1[i]? = some (e1[i]'(by rw [r1.l2, ← r1.l1]; exact hil)) := List.getElem?_eq_getElem _
  have z : ∀ S' H' σ', Grow S H S' H' → Fix J.kx σ σ' → Rl J.G S' H' (κb.set i (.ow 0)) (e1.set i d) σ' R → D.nx σ' H' := z
  refine z S1 H1 _ g1 (fun j k' ej nj => ?_) (r1.store e1' e2)
  by_cases hij : i = j
  · subst hij; rw [hkx] at ej; cases ej; exact (nj rfl).elim
  · rw [List.getElem?_set_ne hij]
end
end Rm
namespace Rm
open PySem PySem.Spec L2
def vOf : D → Option V
  | .non => some .non
  | .bl b => some (.bl b)
  | .int i => some (.int i)
  | .str x => some (.str x)
  | _ => none
theorem den_leaf {G S H d v w} (h : vOf d = some w) : Den G S H d v ↔ v = w := by
  cases d <;> simp [vOf] at h <;> subst h <;> simp only [Den]
theorem Rel.view {G S H} : ∀ {ks : List Kd} {ds : List D} {vs : List V} {xs : List Ent}, ks.all Kd.seen = true → ds.length = ks.length → vs.length = ks.length → Rel G S H (ents ks ds (vs.map some) ++ xs) →
    ∃ S2 : Rg, (∀ a, S a → S2 a) ∧ DenL G S2 H ds vs
  | [], [], [], xs, _, _, _, _ => ⟨S, fun _ s => s, by simp only [DenL]⟩
  | k :: ks, d :: ds, v :: vs, xs, hk, l1, l2, h => by
    simp only [List.all_cons, Bool.and_eq_true] at hk
    have h : Rel G S H (⟨k, d, some v⟩ :: (ents ks ds (vs.map some) ++ xs)) := h
    obtain ⟨S2, i2, hd⟩ := Rel.view hk.2 (by simpa using l1) (by simpa using l2) h.drop
    obtain ⟨al, L, q⟩ := h
    cases q with
    | @cons _ _ L0 M he nd f hr =>
      refine ⟨fun a => S2 a ∨ a ∈ L0, fun a s => .inl (i2 a s), ?_⟩
      simp only [DenL]
      refine ⟨v, vs, rfl, ?_, hd.grow (Grow.of fun a s => ⟨.inl s, rfl⟩)⟩
      cases k with
      | un => simp [Kd.seen] at hk
      | at_ a => simp [Kd.seen] at hk
      | sh =>
        obtain ⟨_, w, e, q⟩ := he
        cases e
        exact q.grow (Grow.of fun a s => ⟨.inl (i2 a s), rfl⟩)
      | ow j =>
        obtain ⟨w, e, q⟩ := he
        cases e
        exact DenW.freeze (fun a s => Or.inl (i2 a s)) (fun a m => Or.inr m) q
  | [], _ :: _, _, _, _, l, _, _ => by simp at l
  | [], [], _ :: _, _, _, _, l, _ => by simp at l
  | _ :: _, [], _, _, _, l, _, _ => by simp at l
  | _ :: _, _ :: _, [], _, _, _, l, _ => by simp at l
theorem Rel.outK {G S H} : ∀ {ks : List Kd} {ds : List D} {vs : List V} {T xs : List Ent}, Rel G S H (T ++ (ents ks ds (vs.map some) ++ xs)) → Rel G S H (T ++ (ents (ks.map Kd.out) ds (vs.map some) ++ xs))
  | [], ds, vs, T, xs, h => h
  | k :: ks, [], vs, T, xs, h => h
  | k :: ks, d :: ds, [], T, xs, h => h
  | k :: ks, d :: ds, v :: vs, T, xs, h => by
    have h1 : Rel G S H ((T ++ [⟨k, d, some v⟩]) ++ (ents ks ds (vs.map some) ++ xs)) := by simpa [ents] using h
    have h2 := Rel.outK h1
    have h3 : Rel G S H (T ++ ⟨k, d, some v⟩ :: (ents (ks.map Kd.out) ds (vs.map some) ++ xs)) := by simpa using h2
    show Rel G S H (T ++ ⟨k.out, d, some v⟩ :: (ents (ks.map Kd.out) ds (vs.map some) ++ xs))
    cases k with
    | un => exact h3
    | sh => exact (h3.perm List.perm_middle).toUn.perm List.perm_middle.symm
    | at_ j => exact (h3.perm List.perm_middle).toUn.perm List.perm_middle.symm
    | ow j => exact h3
/-- operations that only look: their answer a leaf; any -/
def LeafP (G : Gx) (r : List V → Hp → VK → Prop) (g : List D → Option D) : Prop := ∀ (S : Rg) (H : Hp) (ds : List D) (vs : List V) (d : D) (Q : VK), g ds = some d → DenL G S H ds vs → ∃ w, vOf d = some w ∧ (Q w H → r vs H Q)
def PureP (G : Gx) (r : List V → Hp → VK → Prop) (g : List D → Option D) : Prop := ∀ (S : Rg) (H : Hp) (ds : List D) (vs : List V) (d : D) (Q : VK), g ds = some d → DenL G S H ds vs → ∃ w, Den G S H d w ∧ (Q w H → r vs H Q)
theorem LeafP.pure {G r g} (h : LeafP G r g) : PureP G r g := fun S H ds vs d Q hg hd => by
  obtain ⟨w, e, z⟩ := h S H ds vs d Q hg hd
  exact ⟨w, (den_leaf e).mpr rfl, z⟩
/-- operations whose answer is no object -/
theorem prim_leaf {G : Gx} {r ks} {g : List D → Option D} (hk : ks.all Kd.seen = true) (h : ∀ S H ds vs d (Q : VK), g ds = some d → DenL G S H ds vs → ∃ w, vOf d = some w ∧ (Q w H → r vs H Q)) : Prim G r ks .sh (ro g) := by
  intro S H ds vs d os xs Q hg l1 l2 hr hq
  unfold ro at hg
  cases eg : g ds with
  | none => rw [eg] at hg; cases hg
  | some d' =>
    rw [eg] at hg
    have e1 : d' = d ∧ ds = os := by cases hg; exact ⟨rfl, rfl⟩
    obtain ⟨rfl, rfl⟩ := e1
    obtain ⟨S2, i2, hd⟩ := hr.view hk l1 l2
    obtain ⟨w, ew, hw⟩ := h S2 H ds vs d' Q eg hd
    refine hw (hq S H w .refl l1 ?_)
    exact (Rel.outK (T := []) hr).push ((den_leaf ew).mpr rfl)
theorem denL1 {G S H d vs} (h : DenL G S H [d] vs) : ∃ v, vs = [v] ∧ Den G S H d v := by
  simp only [DenL] at h
  obtain ⟨v, r, rfl, p, rfl⟩ := h
  exact ⟨v, rfl, p⟩
theorem denL2 {G S H d e vs} (h : DenL G S H [d, e] vs) : ∃ v u, vs = [v, u] ∧ Den G S H d v ∧ Den G S H e u := by
  simp only [DenL] at h
  obtain ⟨v, r, rfl, p, u, r', rfl, q, rfl⟩ := h
  exact ⟨v, u, rfl, p, q⟩
def gAdd : List D → Option D
  | [.int a, .int b] => some (.int (a + b))
  | [.str x, .str y] => if x.length + y.length ≤ lim then some (.str (x ++ y)) else none
  | _ => none
def gI (C : Int → Int → Prop) [DecidableRel C] (f : Int → Int → Int) : List D → Option D
  | [.int a, .int b] => if C a b then some (.int (f a b)) else none
  | _ => none
def cMul (i j : Int) : Prop := (-18446744073709551616 < i ∧ i < 18446744073709551616) ∨ (-18446744073709551616 < j ∧ j < 18446744073709551616)
def cMod (_ j : Int) : Prop := 0 < j
def cDiv (_ j : Int) : Prop := 0 < j ∧ j < 2 ^ 200
def cPow (i j : Int) : Prop := 0 ≤ j ∧ j ≤ 1000 ∧ i.natAbs < 18446744073709551616
def cShr (_ j : Int) : Prop := 0 ≤ j
def cAny (_ _ : Int) : Prop := True
instance : DecidableRel cMul := fun _ _ => inferInstanceAs (Decidable (_ ∨ _))
instance : DecidableRel cMod := fun _ _ => inferInstanceAs (Decidable (_ < _))
instance : DecidableRel cDiv := fun _ _ => inferInstanceAs (Decidable (_ ∧ _))
instance : DecidableRel cPow := fun _ _ => inferInstanceAs (Decidable (_ ∧ _))
instance : DecidableRel cShr := fun _ _ => inferInstanceAs (Decidable (_ ≤ _))
instance : DecidableRel cAny := fun _ _ => inferInstanceAs (Decidable True)
theorem lp_I {G} {C C' : Int → Int → Prop} [DecidableRel C] {f : Int → Int → Int}  (hC : ∀ i j, C i j → C' i j) : LeafP G (r2 (rI C' fun i j => .int (f i j))) (gI C f) := fun S H ds vs d Q hg hd => by
    unfold gI at hg
    split at hg
    · split at hg
      · rename_i hc
        cases hg
        obtain ⟨v, u, rfl, p, q⟩ := denL2 hd
        simp only [Den] at p q
        exact ⟨_, rfl, fun z => ⟨_, _, p, q, hC _ _ hc, z⟩⟩
      · cases hg
    · cases hg
theorem prim_I {G ks} {C C' : Int → Int → Prop} [DecidableRel C] {f : Int → Int → Int} (hk : ks.all Kd.seen = true) (hC : ∀ i j, C i j → C' i j) : Prim G (r2 (rI C' fun i j => .int (f i j))) ks .sh (ro (gI C f)) := prim_leaf hk (lp_I hC)
theorem lp_I0 {G} {f : Int → Int → Int}  : LeafP G (r2 (rI0 fun i j => .int (f i j))) (gI cAny f) := fun S H ds vs d Q hg hd => by
    unfold gI at hg
    split at hg
    · split at hg
      · rename_i hc
        cases hg
        obtain ⟨v, u, rfl, p, q⟩ := denL2 hd
        simp only [Den] at p q
        exact ⟨_, rfl, fun z => ⟨_, _, p, q, z⟩⟩
      · cases hg
    · cases hg
theorem prim_I0 {G ks} {f : Int → Int → Int} (hk : ks.all Kd.seen = true) : Prim G (r2 (rI0 fun i j => .int (f i j))) ks .sh (ro (gI cAny f)) := prim_leaf hk (lp_I0)
theorem lg2 {j : Int} (h0 : 0 < j) (h : j < 2 ^ 200) : j.natAbs.log2 < 9000 := by
  have h1 : j.natAbs < 2 ^ 200 := by
    have : (2 : Int) ^ 200 = ((2 ^ 200 : Nat) : Int) := by decide
    rw [this] at h
    omega
  exact Nat.lt_of_lt_of_le (PySem.Flt.log2_lt_of (by decide) h1) (by decide)
section
variable {J : Jc} {κ κ1 : List Kd} {a b c e : Expr} {pos : Pos} {fr : M (List D)} {as : List Ak}
theorem ex_add (hev : Ev J κ [a, b] as fr κ1) (hk : (as.map Ak.kd).all Kd.seen = true := by rfl) : Ex J κ (.BinOp a .Add b pos) .sh (primM (ro gAdd) as fr) (backK as κ1) :=
  ex_bin (OpR.or op_add op_add_str) (prim_leaf hk fun S H ds vs d Q hg hd => by
    unfold gAdd at hg
    split at hg
    · cases hg
      obtain ⟨v, u, rfl, p, q⟩ := denL2 hd
      simp only [Den] at p q
      exact ⟨_, rfl, fun z => .inl ⟨_, _, p, q, z⟩⟩
    · split at hg
      · rename_i hl
        cases hg
        obtain ⟨v, u, rfl, p, q⟩ := denL2 hd
        simp only [Den] at p q
        exact ⟨_, rfl, fun z => .inr ⟨_, _, p, q, lim_ok hl, z⟩⟩
      · cases hg
    · cases hg) hev
theorem ex_sub (hev : Ev J κ [a, b] as fr κ1) (hk : (as.map Ak.kd).all Kd.seen = true := by rfl) : Ex J κ (.BinOp a .Sub b pos) .sh (primM (ro (gI cAny fun i j => i - j)) as fr) (backK as κ1) := ex_bin op_sub (prim_I0 hk) hev
theorem ex_mul (hev : Ev J κ [a, b] as fr κ1) (hk : (as.map Ak.kd).all Kd.seen = true := by rfl) : Ex J κ (.BinOp a .Mult b pos) .sh (primM (ro (gI cMul fun i j => i * j)) as fr) (backK as κ1) :=
  ex_bin op_mul (prim_I hk fun i j h => by
    unfold cMul at h
    have e : (2 : Int) ^ 64 = 18446744073709551616 := by decide
    unfold CMul
    rw [e]
    exact h) hev
theorem ex_mod (hev : Ev J κ [a, b] as fr κ1) (hk : (as.map Ak.kd).all Kd.seen = true := by rfl) : Ex J κ (.BinOp a .Mod b pos) .sh (primM (ro (gI cMod fun i j => i % j)) as fr) (backK as κ1) := ex_bin op_mod (prim_I hk fun _ _ h => h) hev
theorem ex_fdiv (hev : Ev J κ [a, b] as fr κ1) (hk : (as.map Ak.kd).all Kd.seen = true := by rfl) : Ex J κ (.BinOp a .FloorDiv b pos) .sh (primM (ro (gI cDiv fun i j => i / j)) as fr) (backK as κ1) := ex_bin op_fdivW (prim_I hk fun _ _ h => ⟨h.1, lg2 h.1 h.2⟩) hev
theorem cPow_ok {i j : Int} (h : cPow i j) : CPow i j := ⟨h.1, Int.le_trans h.2.1 (by decide), Nat.lt_of_lt_of_le h.2.2 (by decide)⟩
theorem ex_pow (hev : Ev J κ [a, b] as fr κ1) (hk : (as.map Ak.kd).all Kd.seen = true := by rfl) : Ex J κ (.BinOp a .Pow b pos) .sh (primM (ro (gI cPow fun i j => i ^ j.toNat)) as fr) (backK as κ1) := ex_bin op_pow (prim_I hk fun _ _ h => cPow_ok h) hev
def gNeg : List D → Option D
  | [.int a] => some (.int (-a))
  | _ => none
theorem ex_neg (hev : Ev J κ [a] as fr κ1) (hk : (as.map Ak.kd).all Kd.seen = true := by rfl) : Ex J κ (.UnaryOp .USub a pos) .sh (primM (ro gNeg) as fr) (backK as κ1) :=
  ex_un1 un_neg (prim_leaf hk fun S H ds vs d Q hg hd => by
    unfold gNeg at hg
    split at hg
    · cases hg
      obtain ⟨v, rfl, p⟩ := denL1 hd
      simp only [Den] at p
      exact ⟨_, rfl, fun z => ⟨_, p, z⟩⟩
    · cases hg) hev
def gCmp (f : Int → Int → Bool) (h : List Nat → List Nat → Bool) : List D → Option D
  | [.int a, .int b] => some (.bl (f a b))
  | [.str a, .str b] => some (.bl (h a.cps.toList b.cps.toList))
  | _ => none
theorem lp_cmp {G} {f : Int → Int → Bool} {h : List Nat → List Nat → Bool}  : LeafP G (r2 fun x y H Q => rI0 (fun i j => .bl (f i j)) x y H Q ∨ (∃ i j, x = .str i ∧ y = .str j ∧ Q (.bl (h i.cps.toList j.cps.toList)) H)) (gCmp f h) := fun S H ds vs d Q hg hd => by
    unfold gCmp at hg
    split at hg
    · cases hg
      obtain ⟨v, u, rfl, p, q⟩ := denL2 hd
      simp only [Den] at p q
      exact ⟨_, rfl, fun z => .inl ⟨_, _, p, q, z⟩⟩
    · cases hg
      obtain ⟨v, u, rfl, p, q⟩ := denL2 hd
      simp only [Den] at p q
      exact ⟨_, rfl, fun z => .inr ⟨_, _, p, q, z⟩⟩
    · cases hg
theorem prim_cmp {G ks} {f : Int → Int → Bool} {h : List Nat → List Nat → Bool} (hk : ks.all Kd.seen = true) : Prim G (r2 fun x y H Q => rI0 (fun i j => .bl (f i j)) x y H Q ∨ (∃ i j, x = .str i ∧ y = .str j ∧ Q (.bl (h i.cps.toList j.cps.toList)) H)) ks .sh (ro (gCmp f h)) := prim_leaf hk (lp_cmp)
abbrev gLt := gCmp (fun i j => decide (i < j)) fun a b => decide (a < b)
abbrev gLe := gCmp (fun i j => decide (i ≤ j)) fun a b => !decide (b < a)
abbrev gGt := gCmp (fun i j => decide (j < i)) fun a b => decide (b < a)
end
mutual
def toP : D → Option PyData
  | .non => some .none
  | .bl b => some (.bool b)
  | .int i => some (.int i)
  | .str x => some (.str x)
  | .lst xs => (toPs xs).map .list
  | .tup xs => (toPs xs).map .tuple
  | _ => none
def toPs : List D → Option (List PyData)
  | [] => some []
  | x :: xs => match toP x, toPs xs with
    | some y, some ys => some (y :: ys)
    | _, _ => none
end
mutual
theorem dp_of {G S H} : ∀ {d : D} {v : V} {p : PyData}, toP d = some p → Den G S H d v → Dp G.K H v p
  | .non, v, p, e, h => by simp only [toP] at e; cases e; simp only [Den] at h; subst h; exact .non
  | .bl b, v, p, e, h => by simp only [toP] at e; cases e; simp only [Den] at h; subst h; exact .bl b
  | .int b, v, p, e, h => by simp only [toP] at e; cases e; simp only [Den] at h; subst h; exact .int b
  | .str b, v, p, e, h => by simp only [toP] at e; cases e; simp only [Den] at h; subst h; exact .str b
  | .lst xs, v, p, e, h => by
    simp only [toP] at e
    cases ep : toPs xs with
    | none => rw [ep] at e; cases e
    | some ps =>
      rw [ep] at e
      cases e
      obtain ⟨a, vs, rfl, q, l⟩ := den_lst h
      exact .lst q (dpAll_of ep l)
  | .tup xs, v, p, e, h => by
    simp only [toP] at e
    cases ep : toPs xs with
    | none => rw [ep] at e; cases e
    | some ps =>
      rw [ep] at e
      cases e
      obtain ⟨a, vs, rfl, q, l⟩ := den_tup h
      exact .tup q (dpAll_of ep l)
  | .dK _, _, _, e, _ | .dT _, _, _, e, _ | .ins _ _, _, _, e, _ | .fn _, _, _, e, _ | .rol _, _, _, e, _ | .ty _, _, _, e, _ | .cls _, _, _, e, _ | .tok _ _, _, _, e, _ => by simp only [toP] at e; cases e
theorem dpAll_of {G S H} : ∀ {ds : List D} {vs : List V} {ps : List PyData}, toPs ds = some ps → DenL G S H ds vs → DpAll G.K H vs ps
  | [], vs, ps, e, h => by simp only [toPs] at e; cases e; simp only [DenL] at h; subst h; exact .nil
  | d :: ds, vs, ps, e, h => by
    simp only [toPs] at e
    simp only [DenL] at h
    obtain ⟨v, r, rfl, h1, h2⟩ := h
    split at e
    · rename_i y ys e1 e2
      cases e
      exact .cons (dp_of e1 h1) (dpAll_of e2 h2)
    · cases e
end
def eqD (x y : D) : Option Bool := match toP x, toP y with
  | some a, some b => if SeqAt.shaped a = true ∧ SeqAt.shaped b = true then some (PyData.eqv a b) else none
  | _, _ => none
def gEq : List D → Option D
  | [x, y] => (eqD x y).map .bl
  | _ => none
def gNe : List D → Option D
  | [x, y] => (eqD x y).map fun b => .bl (!b)
  | _ => none
theorem eqD_some {x y : D} {b} (h : eqD x y = some b) : ∃ p q, toP x = some p ∧ toP y = some q ∧ SeqAt.shaped p = true ∧ SeqAt.shaped q = true ∧ b = PyData.eqv p q := by
  unfold eqD at h
  split at h
  · rename_i p q e1 e2
    split at h
    · rename_i hs
      cases h
      exact ⟨p, q, e1, e2, hs.1, hs.2, rfl⟩
    · cases h
  · cases h
theorem lp_eq {G}  : LeafP G (r2 (rEqD G.K)) gEq := fun S H ds vs d Q hg hd => by
  unfold gEq at hg
  split at hg
  · rename_i x y
    cases eb : eqD x y with
    | none => rw [eb] at hg; cases hg
    | some b =>
      rw [eb] at hg
      cases hg
      obtain ⟨p, q, e1, e2, s1, s2, rfl⟩ := eqD_some eb
      obtain ⟨v, u, rfl, h1, h2⟩ := denL2 hd
      exact ⟨_, rfl, fun z => ⟨p, q, dp_of e1 h1, dp_of e2 h2, s1, s2, z⟩⟩
  · cases hg
theorem prim_eq {G ks} (hk : ks.all Kd.seen = true) : Prim G (r2 (rEqD G.K)) ks .sh (ro gEq) := prim_leaf hk (lp_eq)
theorem lp_ne {G}  : LeafP G (r2 (rNeD G.K)) gNe := fun S H ds vs d Q hg hd => by
  unfold gNe at hg
  split at hg
  · rename_i x y
    cases eb : eqD x y with
    | none => rw [eb] at hg; cases hg
    | some b =>
      rw [eb] at hg
      cases hg
      obtain ⟨p, q, e1, e2, s1, s2, rfl⟩ := eqD_some eb
      obtain ⟨v, u, rfl, h1, h2⟩ := denL2 hd
      exact ⟨_, rfl, fun z => ⟨p, q, dp_of e1 h1, dp_of e2 h2, s1, s2, z⟩⟩
  · cases hg
theorem prim_ne {G ks} (hk : ks.all Kd.seen = true) : Prim G (r2 (rNeD G.K)) ks .sh (ro gNe) := prim_leaf hk (lp_ne)
section
variable {J : Jc} {κ κ1 : List Kd} {a b c e : Expr} {pos : Pos} {fr : M (List D)} {as : List Ak} {n : Nat}
end
end Rm
namespace Rm
open PySem PySem.Spec L2
theorem Rel.wrL {G : Gx} {S H xs ds v} (h : Rel G S H (⟨.ow 0, .lst ds, some v⟩ :: xs)) : ∃ a vs, v = .ref a ∧ H a = some (.lst vs) ∧ DenL G S H ds vs ∧
    ∀ ds' vs', DenL G S H ds' vs' → Grow S H S (upd H a (.lst vs')) ∧ Rel G S (upd H a (.lst vs')) (⟨.ow 0, .lst ds', some v⟩ :: xs) := by
  obtain ⟨al, L, q⟩ := id h
  cases q with
  | @cons _ _ L0 M he nd f hr =>
    obtain ⟨w, e, a, vs, M0, e1, ha, e2, hA⟩ := he
    cases e
    cases e1
    obtain ⟨hl, rfl⟩ := All3_zero.mp hA
    refine ⟨a, vs, rfl, ha, hl, fun ds' vs' hd => ?_⟩
    have ns : ¬ S a := (f a (by rw [e2]; simp)).1
    have g : Grow S H S (upd H a (.lst vs')) := Grow.of fun b s => ⟨s, upd_ne fun e => ns (e ▸ s)⟩
    refine Rel.step h (ys := [⟨.ow 0, .lst ds', some (.ref a)⟩]) fun L' he' nd' f' => ?_
    obtain ⟨w, e, a', vs2, M1, e1, ha', e2', hA'⟩ := he'
    cases e
    cases e1
    obtain ⟨hl', rfl⟩ := All3_zero.mp hA'
    subst e2'
    refine ⟨g, fun b n nb => .inr (upd_ne fun e => nb (by rw [e]; simp)), fun b s => .inl s, fun b s => ?_, [a] ++ [], fun b m => ?_, .cons ⟨_, rfl, a, vs', [], rfl, upd_same, rfl, All3_zero.mpr ⟨hd.grow g, rfl⟩⟩ (by simp) (fun b m => ?_) .nil⟩
    · have e : upd H a (.lst vs') b = H b := upd_ne (fun e => ns (e ▸ s))
      rw [e]; exact al.al b s
    · simp at m; subst m; exact .inl (by simp)
    · simp at m; subst m
      exact ⟨ns, by rw [upd_same]; simp, by simp⟩
theorem denL_append {G S H} : ∀ {ds es : List D} {vs us : List V}, DenL G S H ds vs → DenL G S H es us → DenL G S H (ds ++ es) (vs ++ us)
  | [], es, vs, us, h, k => by simp only [DenL] at h; subst h; exact k
  | d :: ds, es, vs, us, h, k => by
    simp only [DenL] at h
    obtain ⟨v, r, rfl, p, q⟩ := h
    simp only [List.cons_append, DenL]
    exact ⟨v, r ++ us, rfl, p, denL_append q k⟩
theorem denL_one {G S H d v} (h : Den G S H d v) : DenL G S H [d] [v] := by
  simp only [DenL]
  exact ⟨v, [], rfl, h, rfl⟩
theorem denL_rev {G S H} : ∀ {ds : List D} {vs : List V}, DenL G S H ds vs → DenL G S H ds.reverse vs.reverse
  | [], vs, h => by simp only [DenL] at h; subst h; simp only [List.reverse_nil, DenL]
  | d :: ds, vs, h => by
    simp only [DenL] at h
    obtain ⟨v, r, rfl, p, q⟩ := h
    rw [List.reverse_cons, List.reverse_cons]
    exact denL_append (denL_rev q) (denL_one p)
theorem denL_set {G S H} : ∀ {ds : List D} {vs : List V} {d v} (i : Nat), DenL G S H ds vs → Den G S H d v → DenL G S H (ds.set i d) (vs.set i v)
  | [], vs, _, _, i, h, _ => by simp only [DenL] at h; subst h; simp only [List.set_nil, DenL]
  | d0 :: ds, vs, d, v, 0, h, k => by
    simp only [DenL] at h
    obtain ⟨v0, r, rfl, p, q⟩ := h
    simp only [List.set_cons_zero, DenL]
    exact ⟨v, r, rfl, k, q⟩
  | d0 :: ds, vs, d, v, i + 1, h, k => by
    simp only [DenL] at h
    obtain ⟨v0, r, rfl, p, q⟩ := h
    simp only [List.set_cons_succ, DenL]
    exact ⟨v0, r.set i v, rfl, p, denL_set i q k⟩
def gApp : List D → Option (D × List D)
  | [.lst ds, d] => if ds.length < lim then some (.non, [.lst (ds ++ [d]), d]) else none
  | _ => none
theorem prim_app {G : Gx} : Prim G (rM rAppend) [.ow 0, .sh] .sh gApp := by
  intro S H ds vs d os xs Q hg l1 l2 hr hq
  unfold gApp at hg
  split at hg
  · rename_i ds0 d0
    split at hg
    · rename_i hl
      cases hg
      match vs, l2 with
      | [v0, v1], _ =>
        have h1 : Rel G S H (⟨.sh, d0, some v1⟩ :: ⟨.ow 0, .lst ds0, some v0⟩ :: xs) := hr.perm (List.Perm.swap _ _ _)
        have hd := h1.shared
        obtain ⟨a, us, rfl, ha, hA, wr⟩ := h1.drop.wrL
        obtain ⟨g, r⟩ := wr (ds0 ++ [d0]) (us ++ [v1]) (denL_append hA (denL_one hd))
        refine ⟨a, us, v1, rfl, rfl, ha, by rw [hA.length]; exact lim_lt (Nat.le_of_lt hl), hq S _ .non g rfl ?_⟩
        refine Rel.push ?_ (by simp only [Den])
        show Rel G S _ (⟨.ow 0, .lst (ds0 ++ [d0]), some (.ref a)⟩ :: ⟨.un, d0, some v1⟩ :: xs)
        exact (r.un (d := d0) (v := some v1)).perm (List.Perm.swap _ _ _)
    · cases hg
  · cases hg
def gSetI : List D → Option (D × List D)
  | [.lst ds, .int i, d] => match ixN ds.length i with
    | some j => some (.non, [.lst (ds.set j d), .int i, d])
    | none => none
  | _ => none
section
variable {J : Jc} {κ κ1 κ2 : List Kd} {a b c e : Expr} {pos p apos cpos : Pos} {fr : M (List D)} {fa fb fi : M D} {as : List Ak} {n : Nat} {xn : Str} {np : Pos}
theorem ex_append (i : Nat) (hN : J.X.N[i]? = some xn) (hvi : Vis J.X.env.scope xn) (hk : κ[i]? = some (.ow 0)) (hev : Ev J (κ.set i .un) [e] [.sh] fr κ2)
    (hst : noStar [e] = true := by rfl) (hbase : attributeBase (.Name xn np) "append" J.X.env (eval (.Name xn np) J.X.env) = eval (.Name xn np) J.X.env := by rfl)
    (hfew : ((backTo cpos (starEach [e] J.X.env)).all (fun x => !x.1) && (backToKw cpos (keywordEach [] J.X.env)).all (fun x => x.1.isSome)
      && decide ([e].length + ([] : List Keyword).length + (if ([] : List Keyword).isEmpty then 0 else 1) < 30)) = true := by rfl)
    (hline : (apos.endLine == cpos.line) = true := by rfl) (hplain : (backTo cpos (starEach [] J.X.env)).any (·.1) = false := by rfl)
    (hdb : (xn == ("__debug__" : Str)) = false := by decide) (hcd : (xn == ("__classdict__" : Str)) = false := by decide) :
    Ex J κ (.Call (.Attribute (.Name xn np) "append" apos) [e] [] cpos) .sh (methM "list" gApp (.io i 0) [.sh] (vr i) fr) (backK [.io i 0, .sh] κ2) :=
  ex_bmI i 0 hN hvi hk PySem.F.plainAttrs_list PySem.F.slot_list_append PySem.F.type_list_append mt_append (by decide) prim_app hev hst hbase hfew hline hplain hdb hcd
def setIM (i : Nat) (fe fi : M D) : M Fl := fun e => (fe e).bind fun d e => match e[i]? with
  | some l => (fi (e.set i .non)).bind fun k e => match gSetI [l, k, d] with
    | some (_, l' :: _) => .ok .nx (e.set i l')
    | _ => .stuck
  | none => .stuck
theorem sx_setI (i : Nat) {ix : Expr} {tpos : Pos} (hN : J.X.N[i]? = some xn) (hvi : Vis J.X.env.scope xn) (he : Ex J κ e .sh fa κ1) (hk : κ1[i]? = some (.ow 0)) (hi : Ex J (κ1.set i .un) ix .sh fi κ2)
    (hs : swapsWithSole [.Subscript (.Name xn np) ix tpos] e pos.line J.X.env = pure false := by rfl) (hw : swappedStores [.Subscript (.Name xn np) ix tpos] e J.X.env = pure none := by rfl)
    (h1 : (assignEach [.Subscript (.Name xn np) ix tpos] J.X.env).map (·.2) = [assign (.Subscript (.Name xn np) ix tpos) J.X.env] := by rfl)
    (hpg : ∀ to ti t, PE J.X (.Name xn np) to → PE J.X ix ti → PSet J.X t → PG J.X (.Subscript (.Name xn np) ix tpos) (gSub to ti t) := by intro to ti t h1 h2 h3; exact pg_sub h1 h2 h3)
    (hdb : (xn == ("__debug__" : Str)) = false := by decide) (hcd : (xn == ("__classdict__" : Str)) = false := by decide) :
    Sx J κ (.Assign [.Subscript (.Name xn np) ix tpos] e pos) (setIM i fa fi) (κ2.set i (.ow 0)) := by
  obtain ⟨t, p, q⟩ := he.ex
  obtain ⟨t2, p2, q2⟩ := hi.ex
  refine ⟨_, ps_asg p (hpg _ _ _ (pe_var hN hvi hdb hcd) p2 set_list) hs hw h1, fun R S H σ env D h hq => q _ _ _ _ _ _ h (SReq.bind hq |>.mono fun d e1 _ z S1 H1 v g1 r1 => ?_)⟩
  cases el : e1[i]? with
  | none => rw [el] at z; exact z.elim
  | some l =>
    rw [el] at z
    obtain ⟨v0, hv, h'⟩ := r1.take hk el
    refine ⟨v0, hv, q2 _ _ _ _ _ _ (h' .non) ((((SReq.bind (show SReq J _ R S H σ ((fi (e1.set i .non)).bind _) D from z)).later g1).tmp _).tmp _ |>.mono fun k e2 _ z2 S2 H2 u g2 r2 => ?_)⟩
    cases eg : gSetI [l, k, d] with
    | none => rw [eg] at z2; exact z2.elim
    | some pr =>
      rw [eg] at z2
      unfold gSetI at eg
      split at eg
      · rename_i ds k' d'' heq
        cases heq
        split at eg
        · rename_i j hj
          cases eg
          have hu := r2.rel.shared
          simp only [Den] at hu
          subst hu
          have r3 : Rel J.G S2 H2 (⟨.sh, d, some v⟩ :: ⟨.ow 0, .lst ds, some v0⟩ :: (R ++ ents κ2 e2 σ)) := r2.rel.drop.perm (List.Perm.swap _ _ _)
          have hd := r3.shared
          obtain ⟨a, us, rfl, ha, hA, wr⟩ := r3.drop.wrL
          obtain ⟨g3, r4⟩ := wr (ds.set j d) (us.set j v) (denL_set j hA hd)
          refine ⟨a, us, k', j, rfl, rfl, ha, by rw [hA.length]; exact hj, ?_⟩
          have hi' : i < σ.length := (List.getElem?_eq_some_iff.mp hv).1
          have e3 : κ2[i]? = some (κ2[i]'(by rw [r2.l1]; exact hi')) := List.getElem?_eq_getElem _
          have e4 : e2[i]? = some (e2[i]'(by rw [r2.l2]; exact hi')) := List.getElem?_eq_getElem _
          have z2 : ∀ S' H' σ', Grow S H S' H' → Fix J.kx σ σ' → Rl J.G S' H' (κ2.set i (.ow 0)) (e2.set i (.lst (ds.set j d))) σ' R → D.nx σ' H' := z2
          exact z2 S2 _ σ ((g1.trans g2).trans g3) .refl (Rl.put ⟨r2.l1, r2.l2, r4⟩ e3 e4 hv)
        · cases eg
      · cases eg
/-- operations that hand on a part of what is shared -/
theorem prim_part {G : Gx} {r} {g : List D → Option D} {n : Nat} (h : ∀ S H ds vs d (Q : VK), g ds = some d → DenL G S H ds vs → ∃ w, Den G S H d w ∧ (Q w H → r vs H Q)) : Prim G r (List.replicate n .sh) .sh (ro g) := by
  intro S H ds vs d os xs Q hg l1 l2 hr hq
  unfold ro at hg
  cases eg : g ds with
  | none => rw [eg] at hg; cases hg
  | some d' =>
    rw [eg] at hg
    have e1 : d' = d ∧ ds = os := by cases hg; exact ⟨rfl, rfl⟩
    obtain ⟨rfl, rfl⟩ := e1
    have hd := rel_sh hr (by simpa using l1) (by simpa using l2)
    obtain ⟨w, ew, hw⟩ := h S H ds vs d' Q eg hd
    exact hw (hq S H w .refl l1 ((Rel.outK (T := []) hr).push ew))
def gIx : List D → Option D
  | [.lst xs, .int i] => atI xs i
  | [.rol xs, .int i] => atI xs i
  | [.tup xs, .int i] => atI xs i
  | [.str z, .int i] => if z.length ≤ lim then (atI z.cps.toList i).map chD else none
  | _ => none
theorem atI_den {G S H ds vs} {i : Int} {d} (h : DenL G S H ds vs) (e : atI ds i = some d) : ∃ w, atI vs i = some w ∧ Den G S H d w := by
  unfold atI at e ⊢
  rw [h.length]
  cases ei : ixN ds.length i with
  | none => rw [ei] at e; cases e
  | some j =>
    rw [ei] at e
    exact denL_get h e
theorem pp_ix {G : Gx} : PureP G (r2 (rIx G.K)) gIx := fun S H ds vs d Q hg hd => by
  unfold gIx at hg
  split at hg
  · obtain ⟨v, u, rfl, p, q⟩ := denL2 hd
    obtain ⟨a, us, rfl, s, l⟩ := den_lst p
    simp only [Den] at q
    obtain ⟨w, e1, e2⟩ := atI_den l hg
    exact ⟨w, e2, fun z => .inl ⟨a, us, _, w, rfl, q, s, e1, z⟩⟩
  · obtain ⟨v, u, rfl, p, q⟩ := denL2 hd
    obtain ⟨a, us, rfl, s, l⟩ := den_rol p
    simp only [Den] at q
    obtain ⟨w, e1, e2⟩ := atI_den l hg
    exact ⟨w, e2, fun z => .inl ⟨a, us, _, w, rfl, q, s, e1, z⟩⟩
  · obtain ⟨v, u, rfl, p, q⟩ := denL2 hd
    obtain ⟨a, us, rfl, s, l⟩ := den_tup p
    simp only [Den] at q
    obtain ⟨w, e1, e2⟩ := atI_den l hg
    exact ⟨w, e2, fun z => .inr (.inl ⟨a, us, _, w, rfl, q, s, e1, z⟩)⟩
  · rename_i z i
    split at hg
    · rename_i hl
      obtain ⟨v, u, rfl, p, q⟩ := denL2 hd
      simp only [Den] at p q
      cases ec : atI z.cps.toList i with
      | none => rw [ec] at hg; cases hg
      | some c =>
        rw [ec] at hg
        cases hg
        exact ⟨.str ⟨#[c]⟩, by simp only [chD, Den], fun zq => .inr (.inr ⟨z, i, c, p, q, lim_ok hl, ec, zq⟩)⟩
    · cases hg
  · cases hg
/-- an item of an owned list of what is shared -/
def gIxO : List D → Option D
  | [.lst xs, .int i] => atI xs i
  | _ => none
def isNon : D → Bool
  | .non => true
  | _ => false
def gIsN : List D → Option D
  | [x, .non] => some (.bl (isNon x))
  | _ => none
def gNotN : List D → Option D
  | [x, .non] => some (.bl (!isNon x))
  | _ => none
def strIn (i j : Str) : Bool := !(Builtin.Str.occurrences j i 0 j.length 1).isEmpty
/-- x in a text, a list of data, a tuple of flat things -/
def flatD : D → Bool
  | .non => true | .bl _ => true | .int _ => true | .str _ => true
  | _ => false
def inD (x y : D) : Option Bool := match y with
  | .str z => match x with
    | .str s => some (strIn s z)
    | _ => none
  | .lst ys => match toP x, toPs ys with
    | some p, some ps => if SeqAt.shaped p = true ∧ SeqAt.shaped (.list ps) = true then some (ps.any fun z => PyData.eqv z p) else none
    | _, _ => none
  | .tup ys => if flatD x = true ∧ ys.all flatD = true then match toP x, toPs ys with
      | some p, some ps => some (ps.any fun z => PyData.eqv z p)
      | _, _ => none
    else none
  | _ => none
def gIn : List D → Option D
  | [x, y] => (inD x y).map .bl
  | _ => none
def gNotIn : List D → Option D
  | [x, y] => (inD x y).map fun b => .bl (!b)
  | _ => none
theorem flat_v {G S H d v} (h : flatD d = true) (q : Den G S H d v) : flatV v = true ∧ vOf d = some v := by
  cases d <;> first | (cases h; done) | (simp only [Den] at q; subst q; exact ⟨rfl, rfl⟩)
theorem flat_vs {G S H} : ∀ {ds vs}, ds.all flatD = true → DenL G S H ds vs → vs.all flatV = true ∧ ds.map vOf = vs.map some
  | [], vs, _, h => by simp only [DenL] at h; subst h; exact ⟨rfl, rfl⟩
  | d :: ds, vs, hf, h => by
    simp only [List.all_cons, Bool.and_eq_true] at hf
    simp only [DenL] at h
    obtain ⟨v, r, rfl, p, q⟩ := h
    have h1 := flat_v hf.1 p
    have h2 := flat_vs hf.2 q
    simp [h1.1, h1.2, h2.1, h2.2]
theorem eqv_flat {x y : D} {v u : V} {p q : PyData} (hx : vOf x = some v) (hy : vOf y = some u) (ex : toP x = some p) (ey : toP y = some q) : PyData.eqv q p = eqV u v := by
  cases x <;> simp only [vOf, reduceCtorEq, Option.some.injEq] at hx <;> subst hx <;> simp only [toP, Option.some.injEq] at ex <;> subst ex <;>
  cases y <;> simp only [vOf, reduceCtorEq, Option.some.injEq] at hy <;> subst hy <;> simp only [toP, Option.some.injEq] at ey <;> subst ey <;> simp only [PyData.eqv, eqV]
theorem inV_flat {x : D} {v : V} {p : PyData} (hx : vOf x = some v) (ex : toP x = some p) : ∀ {ds : List D} {vs : List V} {ps : List PyData}, ds.map vOf = vs.map some → toPs ds = some ps → (ps.any fun z => PyData.eqv z p) = inV v vs
  | [], vs, ps, e1, e2 => by
    simp only [toPs, Option.some.injEq] at e2
    subst e2
    cases vs with
    | nil => rfl
    | cons _ _ => simp at e1
  | d :: ds, vs, ps, e1, e2 => by
    cases vs with
    | nil => simp at e1
    | cons u us =>
      simp only [List.map_cons, List.cons.injEq] at e1
      simp only [toPs] at e2
      split at e2
      · rename_i y ys h1 h2
        cases e2
        have := inV_flat hx ex e1.2 h2
        unfold inV at this ⊢
        rw [List.any_cons, List.any_cons, this, eqv_flat hx e1.1 ex h1]
      · cases e2
abbrev rInA (K : PySem.W.Frag) (neg : Bool) : R2 := fun x y H Q => (∃ i j, x = .str i ∧ y = .str j ∧ Q (.bl (if neg then !strIn i j else strIn i j)) H) ∨ ((∃ d ds, Dp K H x d ∧ Dp K H y (.list ds) ∧ SeqAt.shaped d = true ∧ SeqAt.shaped (.list ds) = true ∧ Q (.bl (if neg then !(ds.any fun z => PyData.eqv z d) else ds.any fun z => PyData.eqv z d)) H) ∨ rIn K neg x y H Q)
theorem in_val {G S H x y v u b} {Q : VK} (neg : Bool) (e : inD x y = some b) (hx : Den G S H x v) (hy : Den G S H y u) (z : Q (.bl (if neg then !b else b)) H) : rInA G.K neg v u H Q := by
  unfold inD at e
  split at e
  · split at e
    · cases e
      simp only [Den] at hx hy
      exact .inl ⟨_, _, hx, hy, z⟩
    · cases e
  · rename_i ys
    split at e
    · rename_i p ps e1 e2
      split at e
      · rename_i hs
        cases e
        have hp : toP (.lst ys) = some (.list ps) := by simp only [toP]; rw [e2]; rfl
        exact .inr (.inl ⟨p, ps, dp_of e1 hx, dp_of hp hy, hs.1, hs.2, z⟩)
      · cases e
    · cases e
  · rename_i ys
    split at e
    · rename_i hf
      split at e
      · rename_i p ps e1 e2
        cases e
        obtain ⟨a, us, rfl, s, l⟩ := den_tup hy
        have f1 := flat_v hf.1 hx
        have f2 := flat_vs hf.2 l
        refine .inr (.inr ⟨a, us, rfl, .inr s, f1.1, f2.1, ?_⟩)
        rw [← inV_flat f1.2 e1 f2.2 e2]
        exact z
      · cases e
    · cases e
  · cases e
theorem opR_in {X : Cx} {m : Nat} (hr : Room m X.A) : OpR X (compareOp .In) (rInA X.K false) := fun pins s σ H x y v u Q I rx ry h => by
  have hu : X.A.units + 65 < cLine := by have := hr.un; omega
  rcases h with h | h | h
  · exact op_in_str pins s σ H x y v u Q I rx ry h
  · exact op_inD hu pins s σ H x y v u Q I rx ry h
  · exact op_in_seq pins s σ H x y v u Q I rx ry h
theorem opR_notIn {X : Cx} {m : Nat} (hr : Room m X.A) : OpR X (compareOp .NotIn) (rInA X.K true) := fun pins s σ H x y v u Q I rx ry h => by
  have hu : X.A.units + 65 < cLine := by have := hr.un; omega
  rcases h with h | h | h
  · exact op_notin_str pins s σ H x y v u Q I rx ry h
  · exact op_notInD hu pins s σ H x y v u Q I rx ry h
  · exact op_notIn_seq pins s σ H x y v u Q I rx ry h
end
end Rm
namespace Rm
open PySem PySem.Spec L2
def typN : D → Option String
  | .non => some "NoneType" | .bl _ => some "bool" | .int _ => some "int" | .str _ => some "str"
  | .lst _ => some "list" | .rol _ => some "list" | .tup _ => some "tuple" | .dK _ => some "dict"
  | _ => none
def isiB (t n : String) : Bool := t == n || (t == "bool" && n == "int")
def isiTs : List String := ["NoneType", "bool", "int", "str", "list", "tuple", "dict"]
theorem isiB_ok : ∀ t ∈ isiTs, ∀ n ∈ isiTs, kitB t n = some (isiB t n) := by decide +kernel
theorem typN_mem {d t} (h : typN d = some t) : t ∈ isiTs := by
  cases d <;> simp only [typN, reduceCtorEq, Option.some.injEq] at h <;> subst h <;> decide
theorem tyx_of {G S H d v t} (h : typN d = some t) (q : Den G S H d v) : TyX G.K H v (.type t) := by
  cases d with
  | non => simp only [typN, Option.some.injEq] at h; subst h; simp only [Den] at q; subst q; exact .base .non
  | bl b => simp only [typN, Option.some.injEq] at h; subst h; simp only [Den] at q; subst q; exact .base (.bl b)
  | int b => simp only [typN, Option.some.injEq] at h; subst h; simp only [Den] at q; subst q; exact .base (.int b)
  | str b => simp only [typN, Option.some.injEq] at h; subst h; simp only [Den] at q; subst q; exact .base (.str b)
  | lst b =>
    simp only [typN, Option.some.injEq] at h; subst h; simp only [Den] at q
    obtain ⟨a, vs, rfl, _, e, _⟩ := q
    exact .base (.lst e)
  | rol b =>
    simp only [typN, Option.some.injEq] at h; subst h
    obtain ⟨a, vs, rfl, s, _⟩ := den_rol q
    rcases s with (s | ⟨o, s⟩) | ⟨o, its, n, hk, hc, _⟩
    · exact .base (.lst s)
    · exact .base (.frz s)
    · exact .kList hk hc
  | tup b =>
    simp only [typN, Option.some.injEq] at h; subst h
    obtain ⟨a, vs, rfl, s, _⟩ := den_tup q
    rcases s with (s | ⟨o, s⟩) | ⟨o, its, n, hk, hc, _⟩
    · exact .base (.tup s)
    · exact .fTuple s
    · exact .kTuple hk hc
  | dK b =>
    simp only [typN, Option.some.injEq] at h; subst h; simp only [Den] at q
    obtain ⟨a, vs, rfl, _, e, _⟩ := q
    rcases e with s | ⟨o, s⟩
    · exact .base (.dK s)
    · exact .fDict s
  | _ => cases h
section
variable {J : Jc} {κ κ1 κ2 : List Kd} {a b c e : Expr} {es : List Expr} {pos p apos cpos : Pos} {fr : M (List D)} {fa fb fc fi : M D} {as : List Ak} {n : Nat} {x xn : Str} {np : Pos}
theorem ex_ty {T : String} (hg : Gl J.X x) (hm : J.X.mg x = none) (hv : bootBuiltins x = some (.type T)) (hn : x ≠ "__name__" := by decide) (hd : (x == ("__debug__" : Str)) = false := by decide) : Ex J κ (.Name x pos) .sh (cn (.ty T)) κ :=
  ex_cn (pe_bltn hg hm hv (v := .ty T) rfl hn hd) fun _ _ => by simp only [Den]
/-- isinstance of plain data, one built-in class -/
def gIsi1 : List D → Option D
  | [x, .ty n] => if isiTs.contains n = true then (typN x).map fun t => .bl (isiB t n) else none
  | _ => none
def gLen : List D → Option D
  | [.lst xs] => some (.int xs.length)
  | [.rol xs] => some (.int xs.length)
  | [.tup xs] => some (.int xs.length)
  | [.str x] => if x.length ≤ lim then some (.int x.length) else none
  | _ => none
theorem lp_len {G : Gx} : LeafP G (rLen G.K) gLen := fun S H ds vs d Q hgd hd => by
    unfold gLen at hgd
    split at hgd
    · cases hgd
      obtain ⟨v, rfl, q⟩ := denL1 hd
      obtain ⟨a, us, rfl, s, l⟩ := den_lst q
      exact ⟨_, rfl, fun z => ⟨_, _, rfl, .inl ⟨us, s, rfl⟩, by rw [l.length]; exact z⟩⟩
    · cases hgd
      obtain ⟨v, rfl, q⟩ := denL1 hd
      obtain ⟨a, us, rfl, s, l⟩ := den_rol q
      exact ⟨_, rfl, fun z => ⟨_, _, rfl, .inl ⟨us, s, rfl⟩, by rw [l.length]; exact z⟩⟩
    · cases hgd
      obtain ⟨v, rfl, q⟩ := denL1 hd
      obtain ⟨a, us, rfl, s, l⟩ := den_tup q
      exact ⟨_, rfl, fun z => ⟨_, _, rfl, .inr ⟨us, s, rfl⟩, by rw [l.length]; exact z⟩⟩
    · split at hgd
      · rename_i x hl
        cases hgd
        obtain ⟨v, rfl, q⟩ := denL1 hd
        simp only [Den] at q
        subst q
        exact ⟨_, rfl, fun z => ⟨_, _, rfl, ⟨lim_ok hl, rfl⟩, z⟩⟩
      · cases hgd
    · cases hgd
def gMax : List D → Option D
  | [.int i, .int j] => some (.int (if j > i then j else i))
  | _ => none
def gMin : List D → Option D
  | [.int i, .int j] => some (.int (if j < i then j else i))
  | _ => none
theorem ex_max2 (hg : Gl J.X "max") (hm : J.X.mg "max" = none) (hev : Ev J κ [a, b] as fr κ1) (hk : (as.map Ak.kd).all Kd.seen = true := by rfl) (hhot : J.hot = false := by rfl) (hst : noStar [a, b] = true := by rfl) (hpl : (backTo pos (starEach [b] J.X.env)).any (·.1) = false := by rfl) :
    Ex J κ (.Call (.Name "max" p) [a, b] [] pos) .sh (primM (ro gMax) as fr) (backK as κ1) :=
  ex_callB (call_max2 (J.calm hhot)) (prim_leaf hk fun S H ds vs d Q hgd hd => by
    unfold gMax at hgd
    split at hgd
    · cases hgd
      obtain ⟨v, u, rfl, p, q⟩ := denL2 hd
      simp only [Den] at p q
      subst p q
      exact ⟨_, rfl, fun z => ⟨_, _, rfl, z⟩⟩
    · cases hgd) hg hm (by decide +kernel) hev hst (by decide) (by decide) hpl
theorem ex_min2 (hg : Gl J.X "min") (hm : J.X.mg "min" = none) (hev : Ev J κ [a, b] as fr κ1) (hk : (as.map Ak.kd).all Kd.seen = true := by rfl) (hhot : J.hot = false := by rfl) (hst : noStar [a, b] = true := by rfl) (hpl : (backTo pos (starEach [b] J.X.env)).any (·.1) = false := by rfl) :
    Ex J κ (.Call (.Name "min" p) [a, b] [] pos) .sh (primM (ro gMin) as fr) (backK as κ1) :=
  ex_callB (call_min2 (J.calm hhot)) (prim_leaf hk fun S H ds vs d Q hgd hd => by
    unfold gMin at hgd
    split at hgd
    · cases hgd
      obtain ⟨v, u, rfl, p, q⟩ := denL2 hd
      simp only [Den] at p q
      subst p q
      exact ⟨_, rfl, fun z => ⟨_, _, rfl, z⟩⟩
    · cases hgd) hg hm (by decide +kernel) hev hst (by decide) (by decide) hpl
def chain3 (fa fb fc : M D) (g h : List D → Option D) : M D := fun e => (fa e).bind fun x e => (fb e).bind fun y e => match g [x, y] with
  | some (.bl true) => (fc e).bind fun w e => match h [y, w] with
    | some d => .ok d e
    | none => .stuck
  | some (.bl false) => .ok (.bl false) e
  | _ => .stuck
/-- a comparison of two shared values as data -/
def CmpD (G : Gx) (r : R2) (g : List D → Option D) : Prop := ∀ S H x y u v d (Q : VK), g [x, y] = some d → Den G S H x u → Den G S H y v → ∃ w, vOf d = some w ∧ (Q w H → r u v H Q)
theorem chain_rd {r r' : R2} {g h : List D → Option D} {ta tb tc : TE} (hg : CmpD J.G r g) (hh : CmpD J.G r' h)
    (ra : ∀ R S H σ env Q, Rl J.G S H κ env σ R → Req J R S H σ (fa env) (fun d e => ∀ S' H' v, Grow S H S' H' → Rl J.G S' H' κ1 e σ (⟨.sh, d, some v⟩ :: R) → Q v H') → ta σ H Q)
    (rb : ∀ R S H σ env Q, Rl J.G S H κ1 env σ R → Req J R S H σ (fb env) (fun d e => ∀ S' H' v, Grow S H S' H' → Rl J.G S' H' κ2 e σ (⟨.sh, d, some v⟩ :: R) → Q v H') → tb σ H Q)
    (rc : ∀ R S H σ env Q, Rl J.G S H κ2 env σ R → Req J R S H σ (fc env) (fun d e => ∀ S' H' v, Grow S H S' H' → Rl J.G S' H' κ2 e σ (⟨.sh, d, some v⟩ :: R) → Q v H') → tc σ H Q)
    {R S H σ env} {Q : VK} (hR : Rl J.G S H κ env σ R) (hq : Req J R S H σ (chain3 fa fb fc g h env) (fun d e => ∀ S' H' v, Grow S H S' H' → Rl J.G S' H' κ2 e σ (⟨.sh, d, some v⟩ :: R) → Q v H')) : tChain r r' ta tb tc σ H Q := by
  refine ra _ _ _ _ _ _ hR (hq.bind.mono fun x e1 _ z S1 H1 u g1 r1 => ?_)
  refine rb _ _ _ _ _ _ r1 (((z.bind.later g1).tmp _).mono fun y e2 _ z2 S2 H2 v g2 r2 => ?_)
  have hx : Den J.G S2 H2 x u := r2.rel.drop.shared
  have hy : Den J.G S2 H2 y v := r2.rel.shared
  split at z2
  · rename_i heq
    obtain ⟨w, ew, k⟩ := hg S2 H2 x y u v _ (fun z H3 => ∃ k, z = .bl k ∧ (if k = true then tc σ H3 fun w' H4 => r' v w' H4 Q else Q (.bl false) H3)) heq hx hy
    cases ew
    refine k ⟨true, rfl, iteT (rc _ _ _ _ _ _ r2 (((((Req.bind z2).later (g1.trans g2)).tmp _).tmp _).mono fun w e3 _ z3 S3 H3 w' g3 r3 => ?_))⟩
    have hy3 : Den J.G S3 H3 y v := r3.rel.drop.shared
    have hw3 : Den J.G S3 H3 w w' := r3.rel.shared
    cases eh : h [y, w] with
    | none => rw [eh] at z3; exact z3.elim
    | some d =>
      rw [eh] at z3
      obtain ⟨w2, ew2, k2⟩ := hh S3 H3 y w v w' d Q eh hy3 hw3
      exact k2 (z3 S3 H3 w2 ((g1.trans g2).trans g3) ⟨r3.l1, r3.l2, Rel.push r3.rel.drop.drop.drop ((den_leaf ew2).mpr rfl)⟩)
  · rename_i heq
    obtain ⟨w, ew, k⟩ := hg S2 H2 x y u v _ (fun z H3 => ∃ k, z = .bl k ∧ (if k = true then tc σ H3 fun w' H4 => r' v w' H4 Q else Q (.bl false) H3)) heq hx hy
    cases ew
    exact k ⟨false, rfl, iteF (z2 S2 H2 (.bl false) (g1.trans g2) ⟨r2.l1, r2.l2, Rel.push r2.rel.drop.drop (by simp only [Den])⟩)⟩
  · exact z2.elim
theorem tx_chain {op op' : CmpOp} {r r' : R2} {g h : List D → Option D} (ho : OpR J.X (compareOp op) r) (ho' : OpR J.X (compareOp op') r') (hg : CmpD J.G r g) (hh : CmpD J.G r' h)
    (ha : Ex J κ a .sh fa κ1) (hb : Ex J κ1 b .sh fb κ2) (hc : Ex J κ2 c .sh fc κ2) (hm : lastMarks [op, op'] [b, c] = false := by with_unfolding_all rfl) : Tx J κ (.Compare a [op, op'] [b, c] pos) (asB (chain3 fa fb fc g h)) κ2 := by
  obtain ⟨ta, pa, ra⟩ := ha.ex
  obtain ⟨tb, pb, rb⟩ := hb.ex
  obtain ⟨tc, pc, rc⟩ := hc.ex
  refine ⟨_, pt_chain ho ho' pa pb pc hm, fun R S H σ env Q hR hq => chain_rd (Q := fun z H2 => ∃ k, z = .bl k ∧ Q k H2) hg hh ra rb rc hR (hq.bind.mono fun d e1 _ z S1 H1 v g1 r1 => ?_)⟩
  cases d with
  | bl b =>
    have := r1.rel.shared
    simp only [Den] at this
    exact ⟨b, this, z S1 H1 g1 r1.drop⟩
  | _ => exact z.elim
theorem cmpD {G : Gx} {f : Int → Int → Bool} {h : List Nat → List Nat → Bool} : CmpD G (fun x y H Q => rI0 (fun i j => .bl (f i j)) x y H Q ∨ (∃ i j, x = .str i ∧ y = .str j ∧ Q (.bl (h i.cps.toList j.cps.toList)) H)) (gCmp f h) := by
  intro S H x y u v d Q hg p q
  unfold gCmp at hg
  split at hg
  · rename_i heq
    cases heq
    cases hg
    simp only [Den] at p q
    exact ⟨_, rfl, fun z => .inl ⟨_, _, p, q, z⟩⟩
  · rename_i heq
    cases heq
    cases hg
    simp only [Den] at p q
    exact ⟨_, rfl, fun z => .inr ⟨_, _, p, q, z⟩⟩
  · cases hg
theorem tx_le_le (ha : Ex J κ a .sh fa κ1) (hb : Ex J κ1 b .sh fb κ2) (hc : Ex J κ2 c .sh fc κ2) (hm : lastMarks [.LtE, .LtE] [b, c] = false := by with_unfolding_all rfl) : Tx J κ (.Compare a [.LtE, .LtE] [b, c] pos) (asB (chain3 fa fb fc gLe gLe)) κ2 := tx_chain (OpR.or op_le op_le_str) (OpR.or op_le op_le_str) cmpD cmpD ha hb hc hm
def gSlS (lo hi : Option Int) : D → Option D
  | .str z => if z.length ≤ lim then some (.str (cutS z lo hi)) else none
  | _ => none
structure Ox (J : Jc) (κ : List Kd) (e : Option Expr) (f : M (Option Int)) (κ' : List Kd) : Prop where
  ex : ∃ t : TO, PO J.X e t ∧ ∀ R S H σ env Q, Rl J.G S H κ env σ R →
    Req J R S H σ (f env) (fun o e => ∀ S' H', Grow S H S' H' → Rl J.G S' H' κ' e σ R → Q o H') → t σ H Q
def oNone : M (Option Int) := fun e => .ok none e
def oSome (f : M D) : M (Option Int) := fun e => (f e).bind fun d e => match d with | .int i => .ok (some i) e | _ => .stuck
theorem ox_none : Ox J κ none oNone κ := ⟨tNoPart, po_none, fun R S H σ env Q h q => q S H .refl h⟩
theorem ox_some (h : Ex J κ e .sh fa κ1) : Ox J κ (some e) (oSome fa) κ1 := by
  obtain ⟨t, p, q⟩ := h.ex
  refine ⟨tPart t, po_some p, fun R S H σ env Q h hq => q _ _ _ _ _ _ h (hq.bind.mono fun d e1 _ z S1 H1 v g1 r1 => ?_)⟩
  cases d with
  | int i =>
    have := r1.rel.shared
    simp only [Den] at this
    exact ⟨i, this, z S1 H1 g1 r1.drop⟩
  | _ => exact z.elim
def slM (f : M D) (fl fh : M (Option Int)) (g : Option Int → Option Int → D → Option D) : M D := fun e => (f e).bind fun d e => (fl e).bind fun lo e => (fh e).bind fun hi e => match g lo hi d with | some d => .ok d e | none => .stuck
variable {f1 f2 : M (Option Int)} {lo hi : Option Expr} {κ3 : List Kd} {p2 : Pos}
theorem ex_slS (he : Ex J κ e .sh fa κ1) (hl : Ox J κ1 lo f1 κ2) (hh : Ox J κ2 hi f2 κ3) : Ex J κ (.Subscript e (.Slice lo hi none p2) pos) .sh (slM fa f1 f2 gSlS) κ3 := by
  obtain ⟨t, p, q⟩ := he.ex
  obtain ⟨tl, pl, ql⟩ := hl.ex
  obtain ⟨th, ph, qh⟩ := hh.ex
  refine ⟨_, pe_slice sl_str p pl ph, fun R S H σ env Q h hq => q _ _ _ _ _ _ h (hq.bind.mono fun d e1 _ z S1 H1 v g1 r1 => ?_)⟩
  refine ql _ _ _ _ _ _ r1 (((z.bind.later g1).tmp _).mono fun o e2 _ z2 S2 H2 g2 r2 => ?_)
  refine qh _ _ _ _ _ _ r2 (((z2.bind.later (g1.trans g2)).tmp _).mono fun o' e3 _ z3 S3 H3 g3 r3 => ?_)
  cases d with
  | str s =>
    simp only [gSlS] at z3
    by_cases hl : s.length ≤ lim
    · simp only [if_pos hl] at z3
      have := r3.rel.shared
      simp only [Den] at this
      exact ⟨s, this, lim_ok hl, z3 S3 H3 _ ((g1.trans g2).trans g3) ⟨r3.l1, r3.l2, Rel.push r3.rel.drop (by simp only [Den])⟩⟩
    · simp only [if_neg hl] at z3
      exact z3.elim
  | _ => exact z3.elim
def strsOf : List D → Option (List Str)
  | [] => some []
  | .str x :: r => (strsOf r).map (x :: ·)
  | _ => none
theorem strsOf_den {G S H} : ∀ {ds : List D} {ys vs}, strsOf ds = some ys → DenL G S H ds vs → vs = ys.map V.str
  | [], ys, vs, e, h => by simp only [strsOf] at e; cases e; simp only [DenL] at h; subst h; rfl
  | t :: ts, ys, vs, e, h => by
    cases t with
    | str x =>
      simp only [strsOf] at e
      cases er : strsOf ts with
      | none => rw [er] at e; cases e
      | some r =>
        rw [er] at e
        cases e
        simp only [DenL, Den] at h
        obtain ⟨v, us, rfl, rfl, q⟩ := h
        rw [strsOf_den er q]
        rfl
    | _ => simp only [strsOf] at e; cases e
def seqOf : D → Option (List D)
  | .lst ds => some ds
  | .tup ds => some ds
  | _ => none
def gJoin : List D → Option D
  | [.str a, y] => match seqOf y with
    | some ds => match strsOf ds with
      | some ys => if (ys.map (·.length)).sum + ys.length * a.length ≤ lim then some (.str (Txt.join a ys)) else none
      | none => none
    | none => none
  | _ => none
theorem prim_join {G} {r : V → List V → Hp → VK → Prop} (hr : r = fun x xs H Q => ∃ a p, ∃ ys : List Str, x = .str a ∧ xs = [.ref p] ∧ (SqL G.K H p (ys.map V.str) ∨ SqT G.K H p (ys.map V.str)) ∧
      (ys.map (·.length)).sum + ys.length * a.length ≤ 16777216 ∧ Q (.str (Txt.join a ys)) H) : Prim G (rM r) [.sh, .sh] .sh (ro gJoin) := prim_leaf (by rfl) fun S H ds vs d Q hgd hd => by
  subst hr
  unfold gJoin at hgd
  split at hgd
  · split at hgd
    · split at hgd
      · split at hgd
        · rename_i a y _ ds es _ ys ey hl
          cases hgd
          obtain ⟨v, u, rfl, p, q⟩ := denL2 hd
          simp only [Den] at p
          subst p
          have : ∃ b, u = .ref b ∧ (SqL G.K H b (ys.map V.str) ∨ SqT G.K H b (ys.map V.str)) := by
            cases y with
            | lst xs => cases es; obtain ⟨b, us, rfl, s, l⟩ := den_lst q; rw [strsOf_den ey l] at s; exact ⟨b, rfl, .inl s⟩
            | tup xs => cases es; obtain ⟨b, us, rfl, s, l⟩ := den_tup q; rw [strsOf_den ey l] at s; exact ⟨b, rfl, .inr s⟩
            | _ => cases es
          obtain ⟨b, rfl, s⟩ := this
          exact ⟨_, rfl, fun z => ⟨a, b, ys, rfl, rfl, s, Nat.le_trans hl (by unfold lim; decide), z⟩⟩
        · cases hgd
      · cases hgd
    · cases hgd
  · cases hgd
theorem ex_join {o : Expr} {fo : M D} (ho : Ex J κ o .sh fo κ1) (hev : Ev J κ1 [e] [.sh] fr κ2) (hst : noStar [e] = true := by rfl) (hbase : attributeBase o "join" J.X.env (eval o J.X.env) = eval o J.X.env := by rfl)
    (hfew : ((backTo cpos (starEach [e] J.X.env)).all (fun x => !x.1) && (backToKw cpos (keywordEach [] J.X.env)).all (fun x => x.1.isSome)
      && decide ([e].length + ([] : List Keyword).length + (if ([] : List Keyword).isEmpty then 0 else 1) < 30)) = true := by rfl)
    (hline : (apos.endLine == cpos.line) = true := by rfl) (hplain : (backTo cpos (starEach [] J.X.env)).any (·.1) = false := by rfl) :
    Ex J κ (.Call (.Attribute o "join" apos) [e] [] cpos) .sh (methM "str" (ro gJoin) .sh [.sh] fo fr) κ2 :=
  ex_bm (as := [.sh]) PySem.F.plainAttrs_str PySem.F.slot_str_join PySem.F.type_str_join mt_join (by decide) (prim_join rfl) ho hev hst hbase hfew hline hplain
def keyD : D → Option Key
  | .int i => some (.inl i)
  | .str x => some (.inr x)
  | _ => none
theorem keyD_den {G S H d k v} (h : keyD d = some k) (q : Den G S H d v) : v = kV k := by
  cases d with
  | int i => cases h; simp only [Den] at q; exact q
  | str i => cases h; simp only [Den] at q; exact q
  | _ => cases h
/-- a new dict, owned -/
theorem Rel.newDK {G : Gx} {S H xs} {p : Addr} (h : Rel G S H xs) (hp : H p = none) : Grow S H S (upd H p (.dK [])) ∧ Rel G S (upd H p (.dK [])) (⟨.ow 0, .dK [], some (.ref p)⟩ :: xs) := by
  have ns : ¬ S p := fun s => h.1.al p s hp
  have g : Grow S H S (upd H p (.dK [])) := Grow.of fun a s => ⟨s, upd_ne fun e => ns (e ▸ s)⟩
  refine Rel.step0 (ys := [⟨.ow 0, .dK [], some (.ref p)⟩]) h g (fun a n => .inr (upd_ne fun e => n (e ▸ hp))) (fun a s => .inl s) (fun a s => by
    have e : upd H p (.dK []) a = H a := upd_ne (fun e => ns (e ▸ s))
    rw [e]; exact h.1.al a s) ⟨[p] ++ [], fun a m => ?_, .cons ⟨_, rfl, ?_⟩ (by simp) (fun a m => ?_) .nil⟩
  · simp at m; subst m; exact hp
  · exact ⟨p, [], [], rfl, upd_same, rfl, rfl, rfl, rfl⟩
  · simp at m; subst m
    exact ⟨ns, by rw [upd_same]; simp, by simp⟩
theorem ex_dict0 : Ex J κ (.Dict [] [] pos) (.ow 0) (cn (.dK [])) κ :=
  ⟨tDNewK, pe_dnewK, fun R S H σ env Q h hq p hp => by
    obtain ⟨g, r⟩ := h.rel.newDK hp
    exact hq S _ _ g ⟨h.l1, h.l2, r⟩⟩
/-- an owned dict is written -/
theorem Rel.wrK {G : Gx} {S H xs ds v} (h : Rel G S H (⟨.ow 0, .dK ds, some v⟩ :: xs)) : ∃ a ws, v = .ref a ∧ H a = some (.dK ws) ∧ DenK G S H ds ws ∧
    ∀ ds' ws', DenK G S H ds' ws' → Grow S H S (upd H a (.dK ws')) ∧ Rel G S (upd H a (.dK ws')) (⟨.ow 0, .dK ds', some v⟩ :: xs) := by
  obtain ⟨al, L, q⟩ := id h
  cases q with
  | @cons _ _ L0 M he nd f hr =>
    obtain ⟨w, e, a, ws, M0, e1, ha, e2, hk, hA⟩ := he
    cases e
    cases e1
    obtain ⟨hl, rfl⟩ := All3_zero.mp hA
    refine ⟨a, ws, rfl, ha, DenK_iff.mpr ⟨hk, hl⟩, fun ds' ws' hd => ?_⟩
    have ns : ¬ S a := (f a (by rw [e2]; simp)).1
    have g : Grow S H S (upd H a (.dK ws')) := Grow.of fun b s => ⟨s, upd_ne fun e => ns (e ▸ s)⟩
    refine Rel.step h (ys := [⟨.ow 0, .dK ds', some (.ref a)⟩]) fun L' he' nd' f' => ?_
    obtain ⟨w, e, a', vs2, M1, e1, ha', e2', hk', hA'⟩ := he'
    cases e
    cases e1
    obtain ⟨hl', rfl⟩ := All3_zero.mp hA'
    subst e2'
    have hd' := DenK_iff.mp hd
    refine ⟨g, fun b n nb => .inr (upd_ne fun e => nb (by rw [e]; simp)), fun b s => .inl s, fun b s => ?_, [a] ++ [], fun b m => ?_, .cons ⟨_, rfl, a, ws', [], rfl, upd_same, rfl, hd'.1, All3_zero.mpr ⟨hd'.2.grow g, rfl⟩⟩ (by simp) (fun b m => ?_) .nil⟩
    · have e : upd H a (.dK ws') b = H b := upd_ne (fun e => ns (e ▸ s))
      rw [e]; exact al.al b s
    · simp at m; subst m; exact .inl (by simp)
    · simp at m; subst m
      exact ⟨ns, by rw [upd_same]; simp, by simp⟩
def putD {κ : Type} [DecidableEq κ] (kvs : List (κ × D)) (k : κ) (v : D) : List (κ × D) :=
  if (kvs.any fun kv => decide (kv.1 = k)) = true then kvs.map (fun kv => if kv.1 = k then (kv.1, v) else kv) else kvs ++ [(k, v)]
theorem denK_cons {G S H k d ds ws} : DenK G S H ((k, d) :: ds) ws ↔ ∃ v r, ws = (k, v) :: r ∧ Den G S H d v ∧ DenK G S H ds r := by simp only [DenK]
theorem denK_any {G S H} {k : Key} : ∀ {ds ws}, DenK G S H ds ws → (ws.any fun kv => decide (kv.1 = k)) = (ds.any fun kv => decide (kv.1 = k))
  | [], ws, h => by simp only [DenK] at h; subst h; rfl
  | (k0, d) :: ds, ws, h => by
    obtain ⟨v, r, rfl, _, q⟩ := denK_cons.mp h
    simp only [List.any_cons, denK_any q]
theorem denK_put {G S H} {k : Key} {d v} (hd : Den G S H d v) {ds ws} (h : DenK G S H ds ws) : DenK G S H (putD ds k d) (putK ws k v) := by
  unfold putD putK
  rw [denK_any h]
  split
  · have : ∀ {ds ws}, DenK G S H ds ws → DenK G S H (ds.map fun kv => if kv.1 = k then (kv.1, d) else kv) (ws.map fun kv => if kv.1 = k then (kv.1, v) else kv) := by
      intro ds
      induction ds with
      | nil => intro ws h; simp only [DenK] at h; subst h; simp only [List.map_nil, DenK]
      | cons p ds ih =>
        intro ws h
        obtain ⟨k0, d0⟩ := p
        obtain ⟨v0, r, rfl, p, q⟩ := denK_cons.mp h
        simp only [List.map_cons]
        by_cases e : k0 = k
        · simp only [if_pos e]
          exact denK_cons.mpr ⟨v, _, rfl, hd, ih q⟩
        · simp only [if_neg e]
          exact denK_cons.mpr ⟨v0, _, rfl, p, ih q⟩
    exact this h
  · have : ∀ {ds ws}, DenK G S H ds ws → DenK G S H (ds ++ [(k, d)]) (ws ++ [(k, v)]) := by
      intro ds
      induction ds with
      | nil => intro ws h; simp only [DenK] at h; subst h; exact denK_cons.mpr ⟨v, [], rfl, hd, by simp only [DenK]⟩
      | cons p ds ih =>
        intro ws h
        obtain ⟨k0, d0⟩ := p
        obtain ⟨v0, r, rfl, p, q⟩ := denK_cons.mp h
        exact denK_cons.mpr ⟨v0, r ++ [(k, v)], rfl, p, ih q⟩
    exact this h
def mergeD (kvs more : List (Key × D)) : List (Key × D) := more.foldl (fun acc kv => putD acc kv.1 kv.2) kvs
theorem denK_merge {G S H} : ∀ {more ms ds ws}, DenK G S H more ms → DenK G S H ds ws → DenK G S H (mergeD ds more) (mergeK ws ms)
  | [], ms, ds, ws, h, k => by simp only [DenK] at h; subst h; exact k
  | (k0, d0) :: more, ms, ds, ws, h, k => by
    obtain ⟨v, r, rfl, p, q⟩ := denK_cons.mp h
    have := denK_merge (more := more) q (denK_put (k := k0) p k)
    exact this
/-- one written entry (more are not needed so far) -/
def dict1M (fk fv : M D) : M D := fun e => (fk e).bind fun k e => (fv e).bind fun v e => match keyD k with
  | some k => .ok (.dK [(k, v)]) e
  | none => .stuck
end
end Rm
namespace Rm
open PySem PySem.Spec L2
structure Cal (P : Program) (w : World) (K : PySem.W.Frag) (mg : Str → Option Value) (base : Heap) (x : Str) (n : Nat) (ps : List Str) (sp : Sp) : Prop where
  ex : ∃ g fd, FnG P w K mg base (L2.CX P w) n g fd ps sp ∧ mg x = some (.ref g) ∧ PySem.W.keepIn K (.ref g) = true ∧ Binds K fd ps []
section
variable {J : Jc} {κ κ1 κ2 κ3 κ' : List Kd} {a b c e : Expr} {es : List Expr} {pos p apos : Pos} {fa fb fc f : M D} {fr : M (List D)} {k ka kb kc kr : Kd} {as : List Ak} {x m : Str} {n : Nat} {ps : List Str} {F : List D → Out D}
theorem ex_c (C : Cal J.X.prog J.X.w J.X.K J.X.mg J.X.base x n ps (SpF J.G (as.map Ak.kd) kr F)) (hr : Room n J.X.A) (ha : Ax J κ (e :: es) as fr κ1) (hg : Gl J.X x := by rfl) (hl : kleF J.kx (backK as κ1) = true := by rfl) (hdb : (x == ("__debug__" : Str)) = false := by decide)
    (he : starEach (e :: es) J.X.env = (false, eval e J.X.env) :: starEach es J.X.env := by rfl) (hpl : (backTo pos (starEach es J.X.env)).any (·.1) = false := by rfl) :
    Ex J κ (.Call (.Name x p) (e :: es) [] pos) kr (callM F as fr) (backK as κ1) := by
  obtain ⟨g, fd, Fk, hm, hk, hb⟩ := C.ex
  exact ex_call Fk hr hg hm hk hb ha hl hdb he hpl
def sBrk : M Fl := fun e => .ok .bk e
def sCnt : M Fl := fun e => .ok .ct e
theorem Ix.weak {tg : Expr} {f : M (List D)} (h : Ix J κ tg e f κ1) (l : kle κ' κ1 = true) : Ix J κ tg e f κ' := by
  obtain ⟨t, p, q⟩ := h.ex
  exact ⟨t, p, fun R S H σ env Q h hq => q R S H σ env Q h (hq.mono fun d e _ z S' H' I g r it => z S' H' I g (r.weak l) it)⟩
theorem Tx.weak {f : M Bool} (h : Tx J κ e f κ1) (l : kle κ' κ1 = true) : Tx J κ e f κ' := by
  obtain ⟨t, p, q⟩ := h.ex
  exact ⟨t, p, fun R S H σ env Q h hq => q R S H σ env Q h (hq.mono fun d e _ z S' H' g r => z S' H' g (r.weak l))⟩
end
structure CmpS (J : Jc) (op : CmpOp) (as : List Ak) (g : List D → Option (D × List D)) : Prop where
  ex : ∃ r, OpR J.X (compareOp op) r ∧ Prim J.G (Rm.r2 r) (as.map Ak.kd) .sh g
section
variable {J : Jc} {κ κ1 : List Kd} {a b : Expr} {pos : Pos} {fr : M (List D)} {as : List Ak} {op : CmpOp} {g : List D → Option (D × List D)} {n : Nat}
theorem cs_lt (hk : (as.map Ak.kd).all Kd.seen = true := by rfl) : CmpS J .Lt as (ro gLt) := ⟨_, OpR.or op_lt op_lt_str, prim_cmp hk⟩
theorem cs_gt (hk : (as.map Ak.kd).all Kd.seen = true := by rfl) : CmpS J .Gt as (ro gGt) := ⟨_, OpR.or op_gt op_gt_str, prim_cmp hk⟩
theorem cs_eq (hr : Room n J.X.A) (hk : (as.map Ak.kd).all Kd.seen = true := by rfl) : CmpS J .Eq as (ro gEq) := ⟨_, op_eqD hr.units, prim_eq hk⟩
theorem cs_ne (hr : Room n J.X.A) (hk : (as.map Ak.kd).all Kd.seen = true := by rfl) : CmpS J .NotEq as (ro gNe) := ⟨_, op_neD hr.units, prim_ne hk⟩
theorem ex_cs (c : CmpS J op as g) (hev : Ev J κ [a, b] as fr κ1) (hm : behindInMarks op b = false := by rfl) : Ex J κ (.Compare a [op] [b] pos) .sh (primM g as fr) (backK as κ1) := by
  obtain ⟨r, h, p⟩ := c.ex
  exact ex_cmp1 h p hev hm
theorem tx_cs (c : CmpS J op as g) (hev : Ev J κ [a, b] as fr κ1) (hm : behindInMarks op b = false := by rfl) : Tx J κ (.Compare a [op] [b] pos) (asB (primM g as fr)) (backK as κ1) := by
  obtain ⟨r, h, p⟩ := c.ex
  exact tx_cmp1 h p hev hm
theorem ex_gs {x z : Str} (hm : ∃ t, J.X.mg x = some (.str z t)) (hg : Gl J.X x := by rfl) (hdb : (x == ("__debug__" : Str)) = false := by decide) : Ex J κ (.Name x pos) .sh (cn (.str z)) κ := by
  obtain ⟨t, hm⟩ := hm
  exact ex_glob (v := .str z) hg hm (by first | exact .str _ _ | exact ⟨_, rfl⟩ | rfl | constructor) (fun _ _ => by simp only [Den]) hdb
theorem ex_gi {x : Str} {z : Int} (hm : ∃ t, J.X.mg x = some (.int z t)) (hg : Gl J.X x := by rfl) (hdb : (x == ("__debug__" : Str)) = false := by decide) : Ex J κ (.Name x pos) .sh (cn (.int z)) κ := by
  obtain ⟨t, hm⟩ := hm
  exact ex_glob (v := .int z) hg hm (by first | exact .int _ _ | exact ⟨_, rfl⟩ | rfl | constructor) (fun _ _ => by simp only [Den]) hdb
end
/-- a def's facts, made from its datum and its own proof -/
theorem Cal.mk' {P : Program} {w : World} {K : PySem.W.Frag} {mg : Str → Option Value} {base : Heap} {x qual : Str} {st : Stmt} {n : Nat} {ps : List Str} {sp : Sp} {f : Addr} {fd : FuncData}
    (F : FunD K x qual (defArgs st) (defBody st) (defScope st) [] [] f fd) (hm : mg x = some (.ref f)) (ok : FnG P w K mg base (L2.CX P w) n f fd ps sp)
    (h : ∀ (kV doc pm : Value) (an : Option Addr) (cdv ct : Value) (us : List Value), us.length = ps.length → bindArgs (PySem.W.fnOf x qual (defArgs st) (defBody st) (defScope st) .none kV doc pm an cdv ct) ⟨us, []⟩ = pure (ps.zip us)) : Cal P w K mg base x n ps sp :=
  ⟨f, fd, ok, hm, F.kp, F.bindsN h⟩
end Rm
namespace Rm
open PySem PySem.Spec L2
/-- the script as a datum -/
def scr (ns : List Int) : D := .rol (ns.map D.int)
theorem denL_ints {G S H} : ∀ ns : List Int, DenL G S H (ns.map D.int) (ns.map V.int)
  | [] => by simp only [List.map_nil, DenL]
  | n :: ns => by
    simp only [List.map_cons, DenL]
    exact ⟨_, _, rfl, by simp only [Den], denL_ints ns⟩
theorem law_sp {K : PySem.W.Frag} {cl fa : Nat → Addr} {F : List D → Out D} {H : Hp} {a : Addr} {ns : List Int} (hS : SqL K H a (ns.map V.int)) (hF : ∃ e, F [scr ns] = .ok (.bl true) e) : SpF (gx K cl fa) [.sh] .sh F [.ref a] H (fun v _ => v = .bl true) (fun _ _ _ => False) := by
  obtain ⟨e, hF⟩ := hF
  have hd : ∃ S : Rg, (∀ b, S b → H b ≠ none) ∧ Den (⟨K, cl, fa⟩ : Gx0) S H (scr ns) (.ref a) := by
    rcases hS with h | h
    · refine ⟨fun b => b = a, fun b e => ?_, ?_⟩
      · rw [e]
        rcases h with h | ⟨o, h⟩ <;> (rw [h]; simp)
      · unfold scr
        simp only [Den]
        exact ⟨a, _, rfl, .inl ⟨rfl, h⟩, denL_ints ns⟩
    · refine ⟨fun _ => False, fun b e => e.elim, ?_⟩
      unfold scr
      simp only [Den]
      exact ⟨a, _, rfl, .inr fun H' => .inr h, denL_ints ns⟩
  obtain ⟨S, al, hd⟩ := hd
  refine ⟨S, [], [scr ns], rfl, rfl, ⟨⟨al, trivial⟩, [], ?_⟩, ?_⟩
  · exact RelP.cons (L := []) (M := []) ⟨rfl, _, rfl, hd⟩ .nil (fun a m => nomatch m) .nil
  · rw [hF]
    intro S' H' v g l r
    have := r.shared
    simp only [Den] at this
    exact this
theorem CX_none {P : Program} {w : World} {H : Hp} {s : Shared} {e : Value} {s' : Shared} (h : L2.CX P w [] H s (fun _ _ _ => False) e s') : False := by
  obtain ⟨a, B, H', cls, d, h⟩ := h
  exact h.2.2.2.2.2.2.2
/-- the end: the law's def walked, its data law -/
theorem walk_rm {l : PySem.W.OpenLaw} {n k : Nat} {q : Program} {loose : List Str} {XP : (Str → Option Value) → Heap → Prop} {YP : World → Heap → Prop} {d : DefRec} {x : Str}
    (hn : l.most = some n) (hn2 : n ≤ sizeLine) (hdf : d.params.defaults = []) (hr : Room k callerA)
    (F : ∀ (w : World) (mg : Str → Option Value) (fa : Addr) (h : Heap), YP w h → h.Ns mainGlobals mg → mg d.name = some (.ref fa) →
      ∃ (K : PySem.W.Frag) (fd : FuncData) (sp : Sp), K.In h ∧ (∀ (s : Shared) (u : Value), BindsTo s fd ⟨[u], []⟩ [(x, u)]) ∧
        (∀ (H : Hp) (a : Addr) (ns : List Int), ns.length ≤ n → (∀ z ∈ ns, Builtin.Int.intBits z ≤ 1048576) → Only H → SqL K H a (ns.map V.int) → sp [.ref a] H (fun v _ => v = .bl true) fun _ _ _ => False) ∧
        ∀ base : Heap, K.In base → base.Ns mainGlobals mg → FnG l.prog w K mg base (L2.CX l.prog w) k fa fd [x] sp) :
    PySem.W.WalkO q loose XP YP l.row.toRowW d [] (fun f vs => PySem.call f vs) := by
  refine Att.attach_callB hn hdf fun w s₀ s₁ mg mb fa o pm cd doc a vs ns G Y ho hd hcd hmg hobj hints hlen hbits hg => ?_
  obtain ⟨K, fd, sp, KX, hb, hsp, hF⟩ := F w mg fa _ Y G.T.g hmg
  exact law_callG KX G.T.g G.T.b G.T.builtins G.T.nolimit hg hobj hints (Nat.le_trans hlen hn2) hr hF hb (fun H hO hS => hsp H a ns hlen hbits hO hS) fun H e s' => CX_none
/-- a call's facts give the def's -/
theorem Cal.ok {P : Program} {w : World} {K : PySem.W.Frag} {mg : Str → Option Value} {base : Heap} {x : Str} {n : Nat} {ps : List Str} {sp : Sp} {f : Addr} {fd : FuncData} {X : Str} (h : ∃ fd, FnG P w K mg base (L2.CX P w) n f fd ps sp) : True := trivial
end Rm
namespace Rm
open PySem PySem.Spec L2
def fz : Kd → Kd
  | .ow _ => .sh
  | k => k
def fzE (x : Ent) : Ent := ⟨fz x.k, x.d, x.v⟩
theorem RelP.fz {G S H S'} (g : ∀ a, S a → S' a) : ∀ {xs L}, (∀ a ∈ L, S' a) → RelP G S H xs L → RelP G S' H (xs.map fzE) []
  | [], _, _, _ => .nil
  | x :: xs, _, f, h => by
    cases h with
    | @cons _ _ L0 M he nd ff hr =>
      have ih := RelP.fz (xs := xs) g (fun a m => f a (List.mem_append_right _ m)) hr
      refine RelP.cons (L := []) (M := []) ?_ .nil (fun a m => nomatch m) ih
      obtain ⟨k, d, v⟩ := x
      cases k with
      | un => rfl
      | sh =>
        obtain ⟨_, w, e, q⟩ := he
        exact ⟨rfl, w, e, q.grow (Grow.of fun a s => ⟨g a s, rfl⟩)⟩
      | ow o =>
        obtain ⟨w, e, q⟩ := he
        exact ⟨rfl, w, e, DenW.freeze g (fun a m => f a (List.mem_append_left _ m)) q⟩
      | at_ o => exact ⟨rfl, he.2⟩
theorem ents_fz : ∀ {κ : List Kd} {env : List D} {σ : St}, (ents κ env σ).map fzE = ents (κ.map fz) env σ
  | [], _, _ => rfl
  | _ :: _, [], _ => rfl
  | _ :: _, _ :: _, [] => rfl
  | k :: κ, d :: e, v :: σ => by
    simp only [ents, List.map_cons, ents_fz]
    rfl
theorem Rl.view {G : Gx} {S H κ env σ R} (h : Rl G S H κ env σ R) : ∃ S2, Grow S H S2 H ∧ Rl G S2 H (κ.map fz) env σ (R.map fzE) ∧ ∀ S' H', Grow S2 H S' H' → Grow S H S H' ∧ Rl G S H' κ env σ R := by
  obtain ⟨l1, l2, al, L, hp⟩ := h
  refine ⟨fun a => S a ∨ a ∈ L, Grow.of fun a s => ⟨.inl s, rfl⟩, ⟨by rw [List.length_map]; exact l1, l2, ⟨fun a s => ?_, G.st S H _ H (fun a s => ⟨.inl s, rfl⟩) al.ph⟩, [], ?_⟩, fun S' H' g => ?_⟩
  · rcases s with s | s
    · exact al.al a s
    · exact (hp.off a s).2
  · have := RelP.fz (S' := fun a => S a ∨ a ∈ L) (fun a s => .inl s) (fun a m => .inr m) hp
    rw [List.map_append, ents_fz] at this
    exact this
  · have g0 : Grow S H S H' := fun a s => ⟨s, (g a (.inl s)).2⟩
    exact ⟨g0, l1, l2, ⟨fun a s => by rw [(g0 a s).2]; exact al.al a s, G.st _ _ _ _ g0.w al.ph⟩, L, hp.keep g0 fun a m => ⟨(g a (.inr m)).2, (hp.off a m).1⟩⟩
/-- a reading whose answer is a leaf -/
def leafM (f : M D) : M D := fun e => match f e with
  | .ok d _ => if (vOf d).isSome = true then .ok d e else .stuck
  | _ => .stuck
def leafB (f : M Bool) : M Bool := fun e => match f e with
  | .ok b _ => .ok b e
  | _ => .stuck
/-- within a view nothing is raised, nothing is handed back -/
def Jc.vw (J : Jc) : Jc := { J with kx := List.replicate J.kx.length .un, W := fun _ _ _ _ => False, tk := takes0 }
section
variable {J : Jc} {κ κ1 κf κ' : List Kd} {a b c e : Expr} {pos : Pos} {fa fb f : M D} {f1 : M Bool}
end
def getDk (kvs : List (Key × D)) (k : Key) : Option D := (kvs.find? fun kv => decide (kv.1 = k)).map (·.2)
theorem denK_get {G S H} {k : Key} : ∀ {ds : List (Key × D)} {ws}, DenK G S H ds ws → (getDk ds k = none ∧ valV ws k = none) ∨ ∃ d v, getDk ds k = some d ∧ valV ws k = some v ∧ Den G S H d v
  | [], ws, h => by simp only [DenK] at h; subst h; exact .inl ⟨rfl, rfl⟩
  | (k0, d) :: ds, ws, h => by
    obtain ⟨v, r, rfl, p, q⟩ := denK_cons.mp h
    by_cases e : k0 = k
    · exact .inr ⟨d, v, by simp [getDk, e], valV_pos e, p⟩
    · rcases denK_get (k := k) q with ⟨h1, h2⟩ | ⟨d', v', h1, h2, h3⟩
      · exact .inl ⟨by unfold getDk at h1 ⊢; rw [List.find?_cons_of_neg (by simpa using e)]; exact h1, by rw [valV_neg e]; exact h2⟩
      · exact .inr ⟨d', v', by unfold getDk at h1 ⊢; rw [List.find?_cons_of_neg (by simpa using e)]; exact h1, by rw [valV_neg e]; exact h2, h3⟩
theorem den_dK {G S H ds v} (h : Den G S H (.dK ds) v) : ∃ a ws, v = .ref a ∧ Rd H a (.dK ws) ∧ DenK G S H ds ws := by
  simp only [Den] at h
  obtain ⟨a, ws, e, _, q, l⟩ := h
  exact ⟨a, ws, e, q, l⟩
def rDG : R2 := fun x y H Q => ∃ a v, x = .ref a ∧ DGet H a y (some v) ∧ Q v H
theorem ix_dict {X : Cx} (hu : X.A.units + 1 < cLine) : IxR X rDG := by
  intro value slice pins s σ H x y v u Q I rx ry h hs
  obtain ⟨a, w, rfl, g, q⟩ := h
  cases rx
  unfold PyProof.Rows.subscriptTail
  have hT := dict_typeIs I g
  refine wpAny_bind ?_
  rw [getitemInPython_of_ne hT.not_modules]
  refine wpAny_bind (wpAny_specialOf hT PySem.F.slot_dict_getitem.lookup ?_)
  have fin : wpAny (model X.prog X.w) X.A (subscripted slice false (.ref a) u) (fun r s₃ => wpAny (model X.prog X.w) X.A (letTemporaryGo value (.ref a) r >>= fun _ => pure r) (EP X pins σ Q) X.xe s₃) X.xe s := by
    rw [hs]
    exact wpAny_operating (d_getItem hu I g ry fun w' s3 I3 rw' => wpAny_bind (wpAny_letTemporaryGo (wpAny_pure ⟨w, H, I3, rw', q⟩)))
  first
    | exact wpAny_pure (wpAny_bind fin)
    | exact wpAny_bind (wpAny_pure (wpAny_bind fin))
    | exact wpAny_bind fin
def gSub : List D → Option D
  | [.dK kvs, k] => (keyD k).bind (getDk kvs)
  | ds => gIx ds
theorem IxR.or {X : Cx} {r r' : R2} (h : IxR X r) (h' : IxR X r') : IxR X (fun x y H Q => r x y H Q ∨ r' x y H Q) := by
  intro value slice pins s σ H x y v u Q I rx ry hh hs
  rcases hh with hh | hh
  · exact h value slice pins s σ H x y v u Q I rx ry hh hs
  · exact h' value slice pins s σ H x y v u Q I rx ry hh hs
theorem pp_sub {G : Gx} : PureP G (r2 fun x y H Q => rIx G.K x y H Q ∨ rDG x y H Q) gSub := fun S H ds vs d Q hg hd => by
  unfold gSub at hg
  split at hg
  · rename_i kvs k
    obtain ⟨v, u, rfl, p, q⟩ := denL2 hd
    obtain ⟨a, ws, rfl, rd, dk⟩ := den_dK p
    cases ek : keyD k with
    | none => rw [ek] at hg; cases hg
    | some kk =>
      rw [ek] at hg
      have eu := keyD_den ek q
      rcases denK_get (k := kk) dk with ⟨h1, _⟩ | ⟨d', v', h1, h2, h3⟩
      · rw [show (some kk).bind (getDk kvs) = getDk kvs kk from rfl, h1] at hg; cases hg
      · rw [show (some kk).bind (getDk kvs) = getDk kvs kk from rfl, h1] at hg
        cases hg
        exact ⟨v', h3, fun z => .inr ⟨a, v', rfl, .inl ⟨ws, kk, rd, eu, h2.symm⟩, z⟩⟩
  · obtain ⟨w, hw, z⟩ := pp_ix S H ds vs d Q hg hd
    refine ⟨w, hw, fun q => ?_⟩
    have := z q
    unfold Rm.r2 at this ⊢
    split at this
    · exact .inl this
    · exact this
section
variable {J : Jc} {κ κ1 κf κ' : List Kd} {a b c e : Expr} {pos : Pos} {fr : M (List D)} {as : List Ak} {n : Nat}
theorem hu1 {A : Around} (hr : Room n A) : A.units + 1 < cLine := by have := hr.units; omega
theorem ex_sub' (hr : Room n J.X.A) (hev : Ev J κ [a, b] [.sh, .sh] fr κ1) (hs : PlainIx b := by exact fun _ _ => rfl) : Ex J κ (.Subscript a b pos) .sh (primM (ro gSub) [.sh, .sh] fr) κ1 :=
  ex_ix (L2.ix_seq.or (ix_dict (hu1 hr))) (prim_part (n := 2) pp_sub) hev hs
/-- x in d, too -/
def inD2 (x y : D) : Option Bool := match y with
  | .dK kvs => (keyD x).map fun k => (getDk kvs k).isSome
  | _ => inD x y
def gIn2 : List D → Option D
  | [x, y] => (inD2 x y).map .bl
  | _ => none
def gNotIn2 : List D → Option D
  | [x, y] => (inD2 x y).map fun b => .bl (!b)
  | _ => none
def rDI (neg : Bool) : R2 := fun y x H Q => ∃ a o, x = .ref a ∧ DGet H a y o ∧ Q (.bl (if neg then !o.isSome else o.isSome)) H
theorem inD2_val {G S H x y v u b} {Q : VK} (neg : Bool) (e : inD2 x y = some b) (hx : Den G S H x v) (hy : Den G S H y u) (z : Q (.bl (if neg then !b else b)) H) : rInA G.K neg v u H Q ∨ rDI neg v u H Q := by
  unfold inD2 at e
  split at e
  · rename_i kvs
    obtain ⟨a, ws, rfl, rd, dk⟩ := den_dK hy
    cases ek : keyD x with
    | none => rw [ek] at e; cases e
    | some kk =>
      rw [ek] at e
      have eu := keyD_den ek hx
      cases e
      refine .inr ⟨a, valV ws kk, rfl, .inl ⟨ws, kk, rd, eu, rfl⟩, ?_⟩
      have : (valV ws kk).isSome = (getDk kvs kk).isSome := by
        rcases denK_get (k := kk) dk with ⟨h1, h2⟩ | ⟨d', v', h1, h2, h3⟩ <;> rw [h1, h2] <;> rfl
      rw [this]
      exact z
  · exact .inl (in_val neg e hx hy z)
theorem cs_in2 (hr : Room n J.X.A) (hk : (as.map Ak.kd).all Kd.seen = true := by rfl) : CmpS J .In as (ro gIn2) := by
  refine ⟨_, OpR.or (opR_in hr) (r' := rDI false) ?_, prim_leaf hk fun S H ds vs d Q hg hd => ?_⟩
  · intro pins s σ H x y v u Q I rx ry ⟨a, o, ea, g, q⟩
    subst ea
    cases ry
    exact d_in (hu1 hr) I g rx fun s3 I3 => ⟨.bl o.isSome, H, I3, rfl, q⟩
  · unfold gIn2 at hg
    split at hg
    · rename_i x y
      cases eb : inD2 x y with
      | none => rw [eb] at hg; cases hg
      | some b =>
        rw [eb] at hg
        cases hg
        obtain ⟨v, u, rfl, p, q⟩ := denL2 hd
        exact ⟨_, rfl, fun z => inD2_val false eb p q z⟩
    · cases hg
end
end Rm
namespace Rm
open PySem PySem.Spec L2
section
variable {J : Jc} {κ κ1 κ2 κ' : List Kd} {st : Stmt} {sts : List Stmt} {f : M Fl} {j : Own}
theorem Lx.pre (i : Nat) (hk : κ[i]? = some (.ow j)) (h : Lx J (κ.set i .sh) sts f κ') : Lx J κ sts f κ' := by
  obtain ⟨t, p, q⟩ := h.ex
  refine ⟨t, p, fun R S H σ env D r hq => ?_⟩
  obtain ⟨S', g, r'⟩ := r.frz1 hk
  exact q R S' H σ env D r' (hq.later g .refl)
theorem Lx.post (i : Nat) (h : Lx J κ sts f κ1) (hk : κ1[i]? = some (.ow j)) : Lx J κ sts f (κ1.set i .sh) := by
  obtain ⟨t, p, q⟩ := h.ex
  refine ⟨t, p, fun R S H σ env D r hq => q R S H σ env D r ?_⟩
  cases eo : f env with
  | stuck => rw [eo] at hq; exact hq
  | ex c fs e1 => rw [eo] at hq; exact hq
  | ok fl e1 =>
    rw [eo] at hq
    cases fl with
    | nx =>
      intro S' H' σ' g fx r'
      obtain ⟨S2, g2, r2⟩ := r'.frz1 hk
      exact hq S2 H' σ' (g.trans g2) fx r2
    | rt d => exact hq
    | bk => exact hq
    | ct => exact hq
end
section
variable {J : Jc} {κ κ1 κ2 κf κ' : List Kd} {a b c e o : Expr} {es : List Expr} {pos apos p : Pos} {fr : M (List D)} {fo : M D} {as : List Ak} {n : Nat}
theorem cs_notIn2 (hr : Room n J.X.A) (hk : (as.map Ak.kd).all Kd.seen = true := by rfl) : CmpS J .NotIn as (ro gNotIn2) := by
  refine ⟨_, OpR.or (opR_notIn hr) (r' := rDI true) ?_, prim_leaf hk fun S H ds vs d Q hg hd => ?_⟩
  · intro pins s σ H x y v u Q I rx ry ⟨a, o, ea, g, q⟩
    subst ea
    cases ry
    exact d_notIn (hu1 hr) I g rx fun s3 I3 => ⟨.bl (!o.isSome), H, I3, rfl, q⟩
  · unfold gNotIn2 at hg
    split at hg
    · rename_i x y
      cases eb : inD2 x y with
      | none => rw [eb] at hg; cases hg
      | some b =>
        rw [eb] at hg
        cases hg
        obtain ⟨v, u, rfl, p, q⟩ := denL2 hd
        exact ⟨_, rfl, fun z => inD2_val true eb p q z⟩
    · cases hg
def rFld (K : PySem.W.Frag) (f : Str) : List V → Hp → VK → Prop := fun vs H Q => match vs with
  | [x] => ∃ a C dx fs v, x = .ref a ∧ H a = some (.ins C dx fs) ∧ Cls K C ∧ NoAttr K C f ∧ fs.lookup f = some v ∧ Q v H
  | _ => False
/-- the classes cs have no attribute f of their own -/
def FldOk (G : Gx) (cs : List Nat) (f : Str) : Prop := ∀ c ∈ cs, Cls G.K (G.cl c) ∧ NoAttr G.K (G.cl c) f
def gFld (cs : List Nat) (f : Str) : List D → Option D
  | [.ins c fs] => if c ∈ cs then fs.lookup f else none
  | _ => none
theorem denF_cons {G S H k d ds ws} : DenF G S H ((k, d) :: ds) ws ↔ ∃ v r, ws = (k, v) :: r ∧ Den G S H d v ∧ DenF G S H ds r := by simp only [DenF]
theorem denF_get {G S H} {k : Str} : ∀ {ds : List (Str × D)} {ws}, DenF G S H ds ws → (ds.lookup k = none ∧ ws.lookup k = none) ∨ ∃ d v, ds.lookup k = some d ∧ ws.lookup k = some v ∧ Den G S H d v
  | [], ws, h => by simp only [DenF] at h; subst h; exact .inl ⟨rfl, rfl⟩
  | (k0, d) :: ds, ws, h => by
    obtain ⟨v, r, rfl, p, q⟩ := denF_cons.mp h
    cases e : k == k0 with
    | true => exact .inr ⟨d, v, by rw [List.lookup_cons, e], by rw [List.lookup_cons, e], p⟩
    | false =>
      rw [List.lookup_cons, e, List.lookup_cons, e]
      exact denF_get q
theorem pp_fld {G : Gx} {cs : List Nat} {f : Str} (ok : FldOk G cs f) : PureP G (rFld G.K f) (gFld cs f) := fun S H ds vs d Q hg hd => by
  unfold gFld at hg
  split at hg
  · rename_i c fs
    split at hg
    · rename_i hc
      obtain ⟨v, rfl, q⟩ := denL1 hd
      simp only [Den] at q
      obtain ⟨a, dx, ws, rfl, _, _, e, _, df⟩ := q
      rcases denF_get (k := f) df with ⟨h1, _⟩ | ⟨d', v', h1, h2, h3⟩
      · rw [h1] at hg; cases hg
      · rw [h1] at hg; cases hg
        exact ⟨v', h3, fun z => ⟨a, G.cl c, dx, ws, v', rfl, e, (ok c hc).1, (ok c hc).2, h2, z⟩⟩
    · cases hg
  · cases hg
theorem ex_fld {cs : List Nat} {f : Str} (ok : FldOk J.G cs f) (hev : Ev J κ [a] [.sh] fr κ1) (hb : attributeBase a f J.X.env (eval a J.X.env) = eval a J.X.env := by rfl) : Ex J κ (.Attribute a f pos) .sh (primM (ro (gFld cs f)) [.sh] fr) κ1 :=
  ex_prim (r := rFld J.X.K f) hev (prim_part (n := 1) (pp_fld ok)) fun ts pts => match ts, pts with
    | [ta], ⟨pa, _⟩ => ⟨tFld J.X.K ta f, pe_fld pa hb, fun σ H Q h => h⟩
structure CalM (P : Program) (w : World) (K : PySem.W.Frag) (mg : Str → Option Value) (base : Heap) (C : Addr) (m : Str) (n : Nat) (ps : List Str) (sp : Sp) : Prop where
  ex : ∃ g fd, FnG P w K mg base (L2.CX P w) n g fd ps sp ∧ Cls K C ∧ Meth K C m g ∧ Binds K fd ps []
def tMethS (C : Addr) (m : Str) (sp : Sp) (E : St → XK) (ta : TE) (t : TA) : TE := fun σ H Q => ta σ H fun x H1 => ∃ a dx fs, x = .ref a ∧ H1 a = some (.ins C dx fs) ∧ fs.lookup m = none ∧ t σ H1 fun vs H2 => sp (.ref a :: vs) H2 Q (E σ)
theorem pe_methS {X : Cx} {CX : CXT} {k : Nat} {f C : Addr} {fd : FuncData} {ps : List Str} {sp : Sp} {E : St → XK} {m : Str} {ta : TE} {t : TA} {pl : Sem Bool} (he : PE X o ta) (c : Cls X.K C) (hm : Meth X.K C m f) (gd : Gd X.A) (F : FnG X.prog X.w X.K X.mg X.base CX k f fd ps sp) (hr : Room k X.A) (hb : Binds X.K fd ps []) (hx : ∀ σ, PassesAt CX X σ (E σ)) (ha : PA X (e :: es) t)
    (hst : starEach (e :: es) X.env = (false, eval e X.env) :: starEach es X.env) (hpl : (backTo pos (starEach es X.env)).any (·.1) = false)
    (ht : eval (.Call (.Attribute o m apos) (e :: es) [] pos) X.env = (do
      let ov ← eval o X.env
      standAt apos.atName
      let (f, first) ← holding [ov] (getMethod ov m pl)
      callWith pos f first (backTo pos (starEach (e :: es) X.env)) (backToKw pos (keywordEach [] X.env)))) :
    PE X (.Call (.Attribute o m apos) (e :: es) [] pos) (tMethS C m sp E ta t) := by
  refine ⟨fun pins s σ H Q I h => ?_⟩
  refine PySem.W.methodCall_KW (pl := pl) (thn (he.run pins s σ H _ I h) fun u s1 ⟨x, H1, I1, rx, a, dx, fs, ex, ea, l, q⟩ => ?_) ht
  subst ex
  obtain rfl : u = Value.ref a := rx
  refine getmeth_ok I1 ea c hm l ?_
  refine PySem.W.callWith_K (first := [.ref a]) (h₀ := X.base) I.ok.mod.kin hm.kp (thn (ha.run pos pins s1 σ H1 _ I1 q) fun us s2 ⟨vs, H2, I2, r, q2⟩ => ⟨I2.kIn, ?_⟩) hst hpl
  exact run_g (us := .ref a :: us) (vs := .ref a :: vs) F gd hr hb (hx σ) I2 (.cons rfl r) q2
theorem pe_methS0 {X : Cx} {CX : CXT} {k : Nat} {f C : Addr} {fd : FuncData} {ps : List Str} {sp : Sp} {E : St → XK} {m : Str} {ta : TE} {pl : Sem Bool} (he : PE X o ta) (c : Cls X.K C) (hm : Meth X.K C m f) (gd : Gd X.A) (F : FnG X.prog X.w X.K X.mg X.base CX k f fd ps sp) (hr : Room k X.A) (hb : Binds X.K fd ps []) (hx : ∀ σ, PassesAt CX X σ (E σ))
    (ht : eval (.Call (.Attribute o m apos) [] [] pos) X.env = (do
      let ov ← eval o X.env
      standAt apos.atName
      let (f, first) ← holding [ov] (getMethod ov m pl)
      callWith pos f first (backTo pos (starEach [] X.env)) (backToKw pos (keywordEach [] X.env)))) :
    PE X (.Call (.Attribute o m apos) [] [] pos) (tMethS C m sp E ta tNil) := by
  refine ⟨fun pins s σ H Q I h => ?_⟩
  refine PySem.W.methodCall_KW (pl := pl) (thn (he.run pins s σ H _ I h) fun u s1 ⟨x, H1, I1, rx, a, dx, fs, ex, ea, l, q⟩ => ?_) ht
  subst ex
  obtain rfl : u = Value.ref a := rx
  refine getmeth_ok I1 ea c hm l ?_
  exact PySem.W.callWith_K0 (first := [.ref a]) I1.kIn hm.kp (run_g (us := [.ref a]) (vs := [.ref a]) F gd hr hb (hx σ) I1 (.cons rfl .nil) q)
def isIns (c : Nat) (m : Str) : D → Bool
  | .ins c' fs => decide (c' = c) && (fs.lookup m).isNone
  | _ => false
def methC (c : Nat) (m : Str) (F : List D → Out D) (as : List Ak) (fo : M D) (fr : M (List D)) : M D := fun e => (fo e).bind fun d0 e => if isIns c m d0 = true then (fr e).bind fun ds e => match F (d0 :: ds) with
  | .ok d o => .ok d (backE (.sh :: as) o e)
  | .ex c fs o => .ex c fs (backE (.sh :: as) o e)
  | .stuck => .stuck
  else .stuck
theorem isIns_den {G S H c m d v} (h : isIns c m d = true) (q : Den G S H d v) : ∃ a dx ws, v = .ref a ∧ H a = some (.ins (G.cl c) dx ws) ∧ ws.lookup m = none := by
  cases d with
  | ins c' fs =>
    simp only [isIns, Bool.and_eq_true, decide_eq_true_eq, Option.isNone_iff_eq_none] at h
    obtain ⟨rfl, h⟩ := h
    simp only [Den] at q
    obtain ⟨a, dx, ws, rfl, _, _, e, _, df⟩ := q
    rcases denF_get (k := m) df with ⟨_, h2⟩ | ⟨d', v', h1, _, _⟩
    · exact ⟨a, dx, ws, rfl, e, h2⟩
    · rw [h] at h1; cases h1
  | _ => cases h
theorem methC_core {to : TE} {t : TA} {c : Nat} {m : Str} {F : List D → Out D} {kr : Kd} (hl : kleF J.kx (backK as κ2) = true)
    (ro : ∀ R S H σ env Q, Rl J.G S H κ env σ R → Req J R S H σ (fo env) (fun d e => ∀ S' H' v, Grow S H S' H' → Rl J.G S' H' κ1 e σ (⟨.sh, d, some v⟩ :: R) → Q v H') → to σ H Q)
    (rt : ∀ R S H σ env Q, Rl J.G S H κ1 env σ R → Req J R S H σ (fr env) (fun ds e => ∀ S' H' vs, Grow S H S' H' → AOk as ds vs σ → Rl J.G S' H' κ2 e σ (ents (as.map Ak.kd) ds (vs.map some) ++ R) → Q vs H') → t σ H Q)
    {R S H σ env} {Q : VK} (h : Rl J.G S H κ env σ R)
    (hq : Req J R S H σ (methC c m F as fo fr env) (fun d e => ∀ S' H' v, Grow S H S' H' → Rl J.G S' H' (backK as κ2) e σ (⟨kr, d, some v⟩ :: R) → Q v H')) :
    tMethS (J.cl c) m (SpF J.G (.sh :: as.map Ak.kd) kr F) (WE J.W) to t σ H Q := by
  refine ro _ _ _ _ _ _ h (hq.bind.mono fun d0 e1 _ z S1 H1 v0 g1 r1 => ?_)
  by_cases hi : isIns c m d0 = true
  · rw [if_pos hi] at z
    obtain ⟨a, dx, ws, rfl, ea, lk⟩ := isIns_den hi r1.rel.shared
    refine ⟨a, dx, ws, rfl, ea, lk, rt _ _ _ _ _ _ r1 (((Req.later (Req.bind z) g1).tmp _).mono fun ds e2 _ z2 S2 H2 vs g2 ok r2 => ?_)⟩
    have r3 : Rl J.G S2 H2 κ2 e2 σ (ents ((.sh :: as : List Ak).map Ak.kd) (d0 :: ds) ((V.ref a :: vs).map some) ++ R) := by
      refine ⟨r2.l1, r2.l2, r2.rel.perm ?_⟩
      simp only [List.map_cons, ents, Ak.kd, List.cons_append, List.append_assoc]
      exact List.perm_middle
    exact call_req (as := .sh :: as) (κ1 := κ2) (ds := d0 :: ds) (vs := .ref a :: vs) hl (g1.trans g2) ⟨trivial, ok⟩ r3 rfl z2
  · rw [if_neg hi] at z
    exact z.elim
theorem ex_meth {c : Nat} {m : Str} {ps : List Str} {F : List D → Out D} {kr : Kd} {pl : Sem Bool} (C : CalM J.X.prog J.X.w J.X.K J.X.mg J.X.base (J.cl c) m n ps (SpF J.G (.sh :: as.map Ak.kd) kr F)) (hr : Room n J.X.A) (ho : Ex J κ o .sh fo κ1) (ha : Ax J κ1 (e :: es) as fr κ2) (hl : kleF J.kx (backK as κ2) = true := by rfl)
    (hst : starEach (e :: es) J.X.env = (false, eval e J.X.env) :: starEach es J.X.env := by rfl) (hpl : (backTo pos (starEach es J.X.env)).any (·.1) = false := by rfl)
    (ht : eval (.Call (.Attribute o m apos) (e :: es) [] pos) J.X.env = (do
      let ov ← eval o J.X.env
      standAt apos.atName
      let (f, first) ← holding [ov] (getMethod ov m pl)
      callWith pos f first (backTo pos (starEach (e :: es) J.X.env)) (backToKw pos (keywordEach [] J.X.env))) := by rfl) :
    Ex J κ (.Call (.Attribute o m apos) (e :: es) [] pos) kr (methC c m F as fo fr) (backK as κ2) := by
  obtain ⟨g, fd, Fk, hc, hm, hb⟩ := C.ex
  obtain ⟨to, po, ro⟩ := ho.ex
  obtain ⟨t, pt, rt⟩ := ha.ex
  exact ⟨_, pe_methS po hc hm J.gd Fk hr hb (fun σ => passAt J.tk σ) pt hst hpl ht, fun R S H σ env Q h hq => methC_core hl ro rt h hq⟩
theorem ex_meth0 {c : Nat} {m : Str} {ps : List Str} {F : List D → Out D} {kr : Kd} {pl : Sem Bool} (C : CalM J.X.prog J.X.w J.X.K J.X.mg J.X.base (J.cl c) m n ps (SpF J.G [.sh] kr F)) (hr : Room n J.X.A) (ho : Ex J κ o .sh fo κ1) (hl : kleF J.kx κ1 = true := by rfl)
    (ht : eval (.Call (.Attribute o m apos) [] [] pos) J.X.env = (do
      let ov ← eval o J.X.env
      standAt apos.atName
      let (f, first) ← holding [ov] (getMethod ov m pl)
      callWith pos f first (backTo pos (starEach [] J.X.env)) (backToKw pos (keywordEach [] J.X.env))) := by rfl) :
    Ex J κ (.Call (.Attribute o m apos) [] [] pos) kr (methC c m F [] fo aNil) κ1 := by
  obtain ⟨g, fd, Fk, hc, hm, hb⟩ := C.ex
  obtain ⟨to, po, ro⟩ := ho.ex
  exact ⟨_, pe_methS0 po hc hm J.gd Fk hr hb (fun σ => passAt J.tk σ) ht, fun R S H σ env Q h hq => methC_core (as := []) (fr := aNil) (κ2 := κ1) hl ro (fun R S H σ env Q h q => q S H [] .refl trivial h) h hq⟩
end
def FOk (G : Gx0) (S : Rg) (H : Hp) (kf : Option Nat) (d : D) (v : V) (L : List Addr) : Prop := match kf with
  | none => L = [] ∧ Den G S H d v
  | some j => DenO G S H (j + 1) d v L
def repF : List (Str × D) → Str → D → List (Str × D)
  | [], _, _ => []
  | (g, x) :: r, f, d => match f == g with
    | true => (g, d) :: r
    | false => (g, x) :: repF r f d
/-- the kind of a field -/
def fkOf : List (Option Nat) → List (Str × D) → Str → Option (Option Nat)
  | k :: ks, (g, _) :: r, f => match f == g with
    | true => some k
    | false => fkOf ks r f
  | _, _, _ => none
theorem repF_keys {f : Str} {d : D} : ∀ {fs : List (Str × D)}, (repF fs f d).map (·.1) = fs.map (·.1)
  | [] => rfl
  | (g, x) :: r => by
    unfold repF
    cases f == g with
    | true => rfl
    | false => simp only [List.map_cons, repF_keys]
theorem AllF.rep2 {G S H} {f : Str} {d : D} {kf : Option Nat} : ∀ {ks : List (Option Nat)} {fs : List (Str × D)} {ws : List (Str × V)} {M : List Addr}, ws.map (·.1) = fs.map (·.1) → AllF G S H ks (fs.map (·.2)) (ws.map (·.2)) M → fs.lookup f = some d → fkOf ks fs f = some kf →
    ∃ v L pre post, M = pre ++ (L ++ post) ∧ ws.lookup f = some v ∧ FOk G S H kf d v L ∧
      ∀ H' d' L', Grow S H S H' → (∀ a ∈ pre ++ post, H' a = H a) → FOk G S H' kf d' v L' → AllF G S H' ks ((repF fs f d').map (·.2)) (ws.map (·.2)) (pre ++ (L' ++ post))
  | _, [], _, _, _, _, e, _ => by cases e
  | [], _ :: _, _, _, _, h, _, _ => by simp only [List.map_cons] at h; exact h.elim
  | k :: ks, (g, x) :: fs, [], _, ek, _, _, _ => by simp at ek
  | k :: ks, (g, x) :: fs, (g', y) :: ws, M, ek, h, e, ef => by
    simp only [List.map_cons, List.cons.injEq] at ek
    obtain ⟨rfl, ek⟩ := ek
    obtain ⟨v, r, L1, L2, e1, rfl, p, q⟩ := h
    simp only [List.map_cons, List.cons.injEq] at e1
    obtain ⟨rfl, rfl⟩ := e1
    cases hk : f == g' with
    | true =>
      rw [List.lookup_cons, hk] at e
      cases e
      have ef' : some k = some kf := by unfold fkOf at ef; rw [hk] at ef; exact ef
      cases ef'
      refine ⟨y, L1, [], L2, rfl, by rw [List.lookup_cons, hk], by cases kf <;> exact p, fun H' d' L' gr f' p' => ?_⟩
      unfold repF
      rw [hk]
      exact ⟨y, _, L', L2, rfl, rfl, by cases kf <;> exact p', AllF.grow gr (fun a m => f' a (by simpa using m)) q⟩
    | false =>
      rw [List.lookup_cons, hk] at e
      have ef' : fkOf ks fs f = some kf := by unfold fkOf at ef; rw [hk] at ef; exact ef
      obtain ⟨v, L, pre, post, rfl, ev, pv, back⟩ := AllF.rep2 ek q e ef'
      refine ⟨v, L, L1 ++ pre, post, by simp only [List.append_assoc], by rw [List.lookup_cons, hk]; exact ev, pv, fun H' d' L' gr f' p' => ?_⟩
      unfold repF
      rw [hk]
      refine ⟨y, _, L1, pre ++ (L' ++ post), rfl, by simp only [List.append_assoc], ?_, back H' d' L' gr (fun a m => f' a (by simp only [List.append_assoc, List.mem_append] at m ⊢; exact .inr m)) p'⟩
      have st : ∀ a ∈ L1, H' a = H a := fun a m => f' a (by simp only [List.mem_append]; exact .inl (.inl m))
      cases k with
      | none => exact ⟨p.1, p.2.grow gr⟩
      | some j => exact DenO.grow gr st p
end Rm
namespace Rm
open PySem PySem.Spec L2
def Vl (G : Gx) (S : Rg) (H : Hp) (κ : List Kd) (env : List D) (σ : St) : Prop := (∀ (i : Nat) (d : D), κ[i]? = some .sh → env[i]? = some d → ∃ v, σ[i]? = some (some v) ∧ Den G S H d v) ∧
  ∀ (i : Nat) (ks : List (Option Nat)) (c : Nat) (fs : List (Str × D)), κ[i]? = some (.ow (.ob ks)) → env[i]? = some (.ins c fs) → ∃ a dx ws, σ[i]? = some (some (.ref a)) ∧ H a = some (.ins (G.cl c) dx ws) ∧
    ∀ f d, fs.lookup f = some d → fkOf ks fs f = some none → ∃ v, ws.lookup f = some v ∧ Den G S H d v
theorem Rl.vl {G : Gx} {S H κ env σ R} (h : Rl G S H κ env σ R) : Vl G S H κ env σ := by
  refine ⟨fun i d hk hd => ?_, fun i ks c fs hk hd => ?_⟩
  · obtain ⟨v, hv, h'⟩ := h.read hk hd
    exact ⟨v, hv, h'.rel.shared⟩
  · obtain ⟨v, hv, h'⟩ := h.take hk hd
    obtain ⟨al, L, q⟩ := (h' .non).rel
    cases q with
    | cons he _ _ _ =>
      obtain ⟨w, e, ho⟩ := he
      cases e
      obtain ⟨a, dx, ws, Mo, rfl, ea, _, _, kk, q⟩ := ho
      refine ⟨a, dx, ws, hv, ea, fun f d hf hk => ?_⟩
      obtain ⟨v, L, _, _, _, ev, pv, _⟩ := AllF.rep2 kk q hf hk
      exact ⟨v, ev, pv.2⟩
structure Dx (J : Jc) (κ : List Kd) (e : Expr) (g : List D → Option D) : Prop where
  ex : ∃ t : TE, PE J.X e t ∧ ∀ S H σ env, Vl J.G S H κ env σ → ∀ d, g env = some d → ∃ v, Den J.G S H d v ∧ ∀ H' (Q : VK), (∀ b, vw (H' b) = vw (H b)) → Q v H' → t σ H' Q
section
variable {J : Jc} {κ κ1 κ2 κ' : List Kd} {a e : Expr} {pos : Pos} {g : List D → Option D}
theorem dx_var (i : Nat) {x : Str} (hN : J.X.N[i]? = some x) (hv : Vis J.X.env.scope x) (hk : κ[i]? = some .sh) (hd : (x == ("__debug__" : Str)) = false := by decide) (hcd : (x == ("__classdict__" : Str)) = false := by decide) : Dx J κ (.Name x pos) fun env => env[i]? :=
  ⟨tVar i, pe_var hN hv hd hcd, fun S H σ env h d hg => by
    obtain ⟨v, e, q⟩ := h.1 i d hk hg
    exact ⟨v, q, fun H' Q _ z => ⟨v, e, z⟩⟩⟩
end
def kD : Key → D
  | .inl i => .int i
  | .inr x => .str x
def keysD : D → Option (List D)
  | .dK kvs => some (kvs.map fun kv => kD kv.1)
  | _ => none
theorem den_kV {G S H} (k : Key) : Den G S H (kD k) (kV k) := by cases k <;> simp only [kD, kV, Den]
theorem denK_len {G S H} : ∀ {ds : List (Key × D)} {ws}, DenK G S H ds ws → ws.length = ds.length
  | [], ws, h => by simp only [DenK] at h; subst h; rfl
  | (k0, d0) :: ds, ws, h => by
    obtain ⟨v, r, rfl, p, q⟩ := denK_cons.mp h
    simp [denK_len q]
def dkM (g : List D → Option D) : M (List D) := fun e => match g e with
  | some d => match keysD d with
    | some ks => .ok ks e
    | none => .stuck
  | none => .stuck
def Out.noX {α : Type} : Out α → Out α
  | .ok a e => .ok a e
  | _ => .stuck
def forDM (g : List D → Option D) (tg : D → List D → Option (List D)) (body : M Fl) : M Fl := fun e => (forM' (dkM g) tg body e).noX
section
variable {J : Jc} {κ κ1 κ2 κ' κb κ3 κ4 : List Kd} {a e tg : Expr} {pos : Pos} {g : List D → Option D}
theorem PS.or {X : Cx} {st : Stmt} {t1 t2 : TS} (h1 : PS X st t1) (h2 : PS X st t2) : PS X st (fun D σ H => t1 D σ H ∨ t2 D σ H) := ⟨fun pins s σ H D I h => h.elim (h1.run pins s σ H D I) (h2.run pins s σ H D I)⟩
theorem PE.or {X : Cx} {e : Expr} {t1 t2 : TE} (h1 : PE X e t1) (h2 : PE X e t2) : PE X e (fun σ H Q => t1 σ H Q ∨ t2 σ H Q) := ⟨fun pins s σ H Q I h => h.elim (h1.run pins s σ H Q I) (h2.run pins s σ H Q I)⟩
def lcDM (g : List D → Option D) (own : List Nat) (tg : D → List D → Option (List D)) (c : M Bool) (f : M D) : M D := fun e => (lcM (dkM g) own tg c f e).noX
variable {elt iter : Expr} {ifs : List Expr} {scope : Scope} {own : List (Str × Nat)} {gt : D → List D → Option (List D)} {f1 : M Bool} {fe : M D} {ws : List Nat}
end
end Rm
namespace Rm
open PySem PySem.Spec L2
structure CalK (P : Program) (w : World) (K : PySem.W.Frag) (mg : Str → Option Value) (base : Heap) (x : Str) (C : Addr) (n : Nat) (ps : List Str) (sp : Sp) : Prop where
  ex : ∃ f fd, Mk K C f ∧ FnG P w K mg base (L2.CX P w) n f fd ps sp ∧ mg x = some (.ref C) ∧ Binds K fd ps []
theorem Rel.newIns {G : Gx} {S H xs} {c : Nat} {x dx : Addr} (h : Rel G S H xs) (hx : H x = none) (hd : H dx = none) (ne : dx ≠ x) :
    Grow S H S (upd (upd H dx (.own x)) x (.ins (G.cl c) dx [])) ∧ Rel G S (upd (upd H dx (.own x)) x (.ins (G.cl c) dx [])) (⟨.ow (.ob []), .ins c [], some (.ref x)⟩ :: xs) := by
  have nx : ¬ S x := fun s => h.1.al x s hx
  have nd : ¬ S dx := fun s => h.1.al dx s hd
  have same : ∀ a, H a ≠ none → upd (upd H dx (.own x)) x (.ins (G.cl c) dx []) a = H a := fun a n => by
    rw [upd_ne (show a ≠ x from fun e => n (by rw [e]; exact hx)), upd_ne (show a ≠ dx from fun e => n (by rw [e]; exact hd))]
  have e1 : upd (upd H dx (.own x)) x (.ins (G.cl c) dx []) x = some (.ins (G.cl c) dx []) := upd_same
  have e2 : upd (upd H dx (.own x)) x (.ins (G.cl c) dx []) dx = some (.own x) := by rw [upd_ne ne, upd_same]
  refine Rel.step0 (ys := [⟨.ow (.ob []), .ins c [], some (.ref x)⟩]) h (Grow.of fun a s => ⟨s, same a (h.1.al a s)⟩) (fun a n => .inr (same a n)) (fun a s => .inl s) (fun a s => by rw [same a (h.1.al a s)]; exact h.1.al a s) ⟨[x, dx] ++ [], fun a m => ?_, .cons ⟨_, rfl, ?_⟩ ?_ (fun a m => ?_) .nil⟩
  · simp at m; rcases m with rfl | rfl
    · exact hx
    · exact hd
  · exact ⟨x, dx, [], [], rfl, e1, e2, rfl, rfl, rfl, rfl⟩
  · simp [ne.symm]
  · simp at m
    rcases m with rfl | rfl
    · exact ⟨nx, by rw [e1]; simp, by simp⟩
    · exact ⟨nd, by rw [e2]; simp, by simp⟩
section
variable {X : Cx} {CX : CXT} {k : Nat} {f C : Addr} {fd : FuncData} {ps : List Str} {sp : Sp} {E : St → XK} {x : Str} {p pos : Pos} {e : Expr} {es : List Expr} {t : TA} {σ : St}
theorem gd_make {A : Around} {C : Addr} {us : List Value} {kw : List (Str × Value)} (gd : Gd A) : Gd (A.under (.builtin "type.__call__" ⟨.ref C :: us, kw⟩)) := by
  show _ = _
  rw [← show A.guards = some [] from gd]
  have h : (Code.builtin "type.__call__" ⟨.ref C :: us, kw⟩).isGuard = false := by
    show guardIds.contains "type.__call__" = false
    decide +kernel
  simp [Around.under, Code.guards, pushGuards, h]
theorem run_makeS {pins : List (Addr × Obj)} {H : Hp} {s : Shared} {Q : VK} {us : List Value} {vs : List V} {E : XK} (M : Mk X.K C f) (gd : Gd X.A) (F : FnG X.prog X.w X.K X.mg X.base CX k f fd ps sp) (hr : Room (k + 1) X.A) (hb : Binds X.K fd ps [])
    (hx : PassesAt CX X σ E) (I : Inv X pins σ H s) (r : Vals vs us)
    (h : ∀ x dx, H x = none → H dx = none → dx ≠ x → sp (.ref x :: vs) (upd (upd H dx (.own x)) x (.ins C dx [])) (fun v H2 => v = .non ∧ Q (.ref x) H2) E) :
    wpAny (model X.prog X.w) X.A (call (.ref C) us) (EP X pins σ Q) X.xe s := by
  have hq := h (s.heap.objs.size + 1) s.heap.objs.size (I.hok.fresh (Nat.le_succ _)) (I.hok.fresh (Nat.le_refl _)) (Nat.ne_of_lt (Nat.lt_succ_self _))
  have I2 := Inv.made (C := C) I
  have r2 : Vals (V.ref (s.heap.objs.size + 1) :: vs) (Value.ref (s.heap.objs.size + 1) :: us) := .cons rfl r
  have hl : (Value.ref (s.heap.objs.size + 1) :: us).length = ps.length := by
    have e := r2.length
    rw [F.lng _ _ _ _ hq] at e
    exact e.symm
  have hl' : (Value.ref (s.heap.objs.size + 1) :: us ++ []).length = ps.length := by rw [List.append_nil]; exact hl
  have hbb := hb _ (Value.ref (s.heap.objs.size + 1) :: us) I2.kIn hl'
  rw [List.append_nil] at hbb
  refine wpAny_call (make_map (f := f) I.kIn M.makes M.init (beq_iff_eq.mp M.fn) (codeAny_mono (F.go _ X.stack _ _ ⟨Value.ref (s.heap.objs.size + 1) :: us, []⟩ (Value.ref (s.heap.objs.size + 1) :: us) _ _ E (hr.make C us []) (gd_make gd)
    (I2.env0.make C us []) hbb r2 hq) fun r s' hq' => ?_))
  cases r with
  | error e => exact hx pins _ _ e s' I2 hq'
  | ok fl =>
    cases fl with
    | ret u =>
      obtain ⟨v, H', I3, rv, ev, q3⟩ := I2.after hq'
      subst ev
      exact ⟨rv, ⟨V.ref (s.heap.objs.size + 1), H', I3, rfl, q3⟩⟩
    | next => exact False.elim hq'
    | brk => exact False.elim hq'
    | cont => exact False.elim hq'
def tMakeS (C : Addr) (sp : Sp) (E : St → XK) (t : TA) : TE := fun σ H Q => t σ H fun vs H1 => ∀ x dx, H1 x = none → H1 dx = none → dx ≠ x → sp (.ref x :: vs) (upd (upd H1 dx (.own x)) x (.ins C dx [])) (fun v H2 => v = .non ∧ Q (.ref x) H2) (E σ)
theorem pe_makeS (M : Mk X.K C f) (gd : Gd X.A) (F : FnG X.prog X.w X.K X.mg X.base CX k f fd ps sp) (hr : Room (k + 1) X.A) (hg : Gl X x) (hm : X.mg x = some (.ref C)) (hb : Binds X.K fd ps []) (hx : ∀ σ, PassesAt CX X σ (E σ))
    (ha : PA X (e :: es) t) (hdb : (x == ("__debug__" : Str)) = false) (he : starEach (e :: es) X.env = (false, eval e X.env) :: starEach es X.env) (hpl : (backTo pos (starEach es X.env)).any (·.1) = false) :
    PE X (.Call (.Name x p) (e :: es) [] pos) (tMakeS C sp E t) := by
  refine ⟨fun pins s σ H Q I h => ?_⟩
  refine wpAny_Call_Name_kw (ld_glob I hg hm ?_ hdb)
  refine PySem.W.callWith_K (h₀ := X.base) I.ok.mod.kin M.kp (thn (ha.run pos pins s σ H _ I h) fun us s1 ⟨vs, H1, I1, r, q⟩ => ⟨I1.kIn, ?_⟩) he hpl
  exact run_makeS M gd F hr hb (hx σ) I1 r q
end
/-- C(..): k0 the kind of what is made -/
def makeM (c : Nat) (F : List D → Out D) (as : List Ak) (fr : M (List D)) : M D := fun e => (fr e).bind fun ds e => match F (.ins c [] :: ds) with
  | .ok .non (s :: o) => .ok s (backE as o e)
  | .ex c fs (_ :: o) => .ex c fs (backE as o e)
  | _ => .stuck
section
variable {J : Jc} {κ κ1 κ2 κ' : List Kd} {e : Expr} {es : List Expr} {pos p : Pos} {fr : M (List D)} {as : List Ak} {n : Nat} {k0 kr : Kd} {F : List D → Out D} {c : Nat} {ps : List Str} {x : Str}
theorem make_core {t : TA} (hl : kleF J.kx (backK as κ1) = true)
    (rt : ∀ R S H σ env Q, Rl J.G S H κ env σ R → Req J R S H σ (fr env) (fun ds e => ∀ S' H' vs, Grow S H S' H' → AOk as ds vs σ → Rl J.G S' H' κ1 e σ (ents (as.map Ak.kd) ds (vs.map some) ++ R) → Q vs H') → t σ H Q)
    {R S H σ env} {Q : VK} (h : Rl J.G S H κ env σ R)
    (hq : Req J R S H σ (makeM c F as fr env) (fun d e => ∀ S' H' v, Grow S H S' H' → Rl J.G S' H' (backK as κ1) e σ (⟨k0, d, some v⟩ :: R) → Q v H')) :
    tMakeS (J.cl c) (SpG J.G (.ow (.ob []) :: as.map Ak.kd) (k0 :: (as.map Ak.kd).map Kd.out) .sh F) (WE J.W) t σ H Q := by
  refine rt _ _ _ _ _ _ h (hq.bind.mono fun ds e1 _ z S1 H1 vs g1 ok r1 x dx hx hd ne => ?_)
  have l := ok.len
  obtain ⟨g2, rn⟩ := (show Rel J.G S1 H1 _ from r1.rel).newIns (c := c) hx hd ne
  refine ⟨S1, R ++ ents κ1 e1 σ, .ins c [] :: ds, by simp [l.2], by simp [l.1], ?_, ?_⟩
  · refine rn.perm ?_
    simp only [List.map_cons, ents, List.cons_append, List.append_assoc]
    exact .refl _
  · cases eo : F (.ins c [] :: ds) with
    | stuck => rw [eo] at z; exact z
    | ok d o =>
      rw [eo] at z
      cases d with
      | non =>
        cases o with
        | nil => exact z.elim
        | cons s o =>
          intro S2 H2 v g3 le r2
          have hv : v = .non := by
            have := r2.shared
            simpa only [Den] using this
          refine ⟨hv, z S2 H2 (.ref x) ((g1.trans g2).trans g3) (Rl.back (T := [⟨k0, s, some (.ref x)⟩]) ok (by simpa using le) ⟨r1.l1, r1.l2, ?_⟩)⟩
          have := r2.drop
          simpa only [List.map_cons, ents, List.cons_append, List.nil_append, List.append_assoc] using this
      | _ => exact z.elim
    | ex c' fs o =>
      rw [eo] at z
      cases o with
      | nil => exact z.elim
      | cons s o =>
        intro S2 H2 cls dx' g3 rx le r2
        have q : Rel J.G S2 H2 (ents ((as.map Ak.kd).map Kd.out) o (vs.map some) ++ (R ++ ents κ1 e1 σ)) := r2.drop
        have r3 : Rl J.G S2 H2 (backK as κ1) (backE as o e1) σ ([] ++ R) := Rl.back (T := []) ok (by simpa using le) ⟨r1.l1, r1.l2, by simpa only [List.nil_append, List.append_assoc] using q⟩
        obtain ⟨S3, g4, r4⟩ := r3.weakF hl
        exact z S3 H2 cls dx' (((g1.trans g2).trans g3).trans g4) (rx.grow g4) r4
theorem ex_make (C : CalK J.X.prog J.X.w J.X.K J.X.mg J.X.base x (J.cl c) n ps (SpG J.G (.ow (.ob []) :: as.map Ak.kd) (k0 :: (as.map Ak.kd).map Kd.out) .sh F)) (hr : Room (n + 1) J.X.A) (ha : Ax J κ (e :: es) as fr κ1) (hg : Gl J.X x := by rfl) (hl : kleF J.kx (backK as κ1) = true := by rfl) (hdb : (x == ("__debug__" : Str)) = false := by decide)
    (he : starEach (e :: es) J.X.env = (false, eval e J.X.env) :: starEach es J.X.env := by rfl) (hpl : (backTo pos (starEach es J.X.env)).any (·.1) = false := by rfl) :
    Ex J κ (.Call (.Name x p) (e :: es) [] pos) k0 (makeM c F as fr) (backK as κ1) := by
  obtain ⟨f, fd, M, Fk, hm, hb⟩ := C.ex
  obtain ⟨t, pt, rt⟩ := ha.ex
  exact ⟨_, pe_makeS M J.gd Fk hr hg hm hb (fun σ => passAt J.tk σ) pt hdb he hpl, fun R S H σ env Q h hq => make_core hl rt h hq⟩
end
end Rm
namespace Rm
open PySem PySem.Spec L2
def repK : List (Key × D) → Key → D → List (Key × D)
  | [], _, _ => []
  | (k0, d0) :: r, k, d => if k0 = k then (k0, d) :: r else (k0, d0) :: repK r k d
theorem repK_keys {k : Key} {d : D} : ∀ {ds : List (Key × D)}, (repK ds k d).map (·.1) = ds.map (·.1)
  | [] => rfl
  | (k0, d0) :: r => by
    unfold repK
    split
    · rfl
    · simp only [List.map_cons, repK_keys]
theorem getDk_cons {k0 : Key} {d0 : D} {r : List (Key × D)} {k : Key} : getDk ((k0, d0) :: r) k = if k0 = k then some d0 else getDk r k := by
  unfold getDk
  by_cases e : k0 = k
  · rw [if_pos e, List.find?_cons_of_pos (by simpa using e)]; rfl
  · rw [if_neg e, List.find?_cons_of_neg (by simpa using e)]
theorem All3.rep {G S H} {j : Nat} {k : Key} {d : D} : ∀ {ds : List (Key × D)} {ws : List (Key × V)} {M : List Addr}, ws.map (·.1) = ds.map (·.1) → All3 (DenO G S H j) (ds.map (·.2)) (ws.map (·.2)) M → M.Nodup → getDk ds k = some d →
    ∃ v L, valV ws k = some v ∧ DenO G S H j d v L ∧ L.Nodup ∧ (∀ a ∈ L, a ∈ M) ∧
      ∀ H' d', Grow S H S H' → (∀ a ∈ M, a ∉ L → H' a = H a) → DenO G S H' j d' v L → All3 (DenO G S H' j) ((repK ds k d').map (·.2)) (ws.map (·.2)) M
  | [], _, _, _, _, _, e => by cases e
  | (k0, d0) :: ds, [], _, ek, _, _, _ => by simp at ek
  | (k0, d0) :: ds, (k1, v1) :: ws, M, ek, h, nd, e => by
    simp only [List.map_cons, List.cons.injEq] at ek
    obtain ⟨rfl, ek⟩ := ek
    obtain ⟨v, r, L1, L2, e1, rfl, p, q⟩ := h
    simp only [List.map_cons, List.cons.injEq] at e1
    obtain ⟨rfl, rfl⟩ := e1
    rw [getDk_cons] at e
    have nd2 := List.nodup_append.mp nd
    by_cases hk : k1 = k
    · rw [if_pos hk] at e
      cases e
      refine ⟨v1, L1, valV_pos hk, p, nd2.1, fun a m => List.mem_append_left _ m, fun H' d' g f p' => ?_⟩
      unfold repK
      rw [if_pos hk]
      exact ⟨v1, _, L1, L2, rfl, rfl, p', All3.imp (fun d v L hs h => DenO.grow g (fun a m => f a (List.mem_append_right _ (hs a m)) fun m1 => nd2.2.2 a m1 a (hs a m) rfl) h) q⟩
    · rw [if_neg hk] at e
      obtain ⟨v, L, ev, pv, ndL, sub, back⟩ := All3.rep ek q nd2.2.1 e
      refine ⟨v, L, (valV_neg hk).trans ev, pv, ndL, fun a m => List.mem_append_right _ (sub a m), fun H' d' g f p' => ?_⟩
      unfold repK
      rw [if_neg hk]
      refine ⟨v1, _, L1, L2, rfl, rfl, DenO.grow g (fun a m => f a (List.mem_append_left _ m) fun mL => nd2.2.2 a m a (sub a mL) rfl) p, back H' d' g (fun a m n => f a (List.mem_append_right _ m) n) p'⟩
/-- d with a value put in at the end of a path of keys -/
def putP : List Key → Key → D → D → Option D
  | [], k, dv, .dK ds => some (.dK (putD ds k dv))
  | k1 :: p, k, dv, .dK ds => (getDk ds k1).bind fun d1 => (putP p k dv d1).map fun d1' => .dK (repK ds k1 d1')
  | _, _, _, _ => none
/-- how many stand where the path ends -/
def lenP : List Key → D → Option Nat
  | [], .dK ds => some ds.length
  | k1 :: p, .dK ds => (getDk ds k1).bind fun d1 => lenP p d1
  | _, _ => none
def pathV (H : Hp) : V → List Key → V → Prop
  | v, [], x => x = v
  | v, k :: p, x => ∃ a ws v1, v = .ref a ∧ H a = some (.dK ws) ∧ valV ws k = some v1 ∧ pathV H v1 p x
theorem DenO.put {G S H} {k : Key} {dv : D} : ∀ {p : List Key} {d d' : D} {v : V} {L : List Addr}, DenO G S H (p.length + 1) d v L → L.Nodup → (∀ a ∈ L, ¬ S a) → putP p k dv d = some d' →
    ∃ b ws0, b ∈ L ∧ H b = some (.dK ws0) ∧ lenP p d = some ws0.length ∧ pathV H v p (.ref b) ∧ ∀ vv, Den G S H dv vv → DenO G S (upd H b (.dK (putK ws0 k vv))) (p.length + 1) d' v L
  | [], d, d', v, L, h, nd, off, e => by
    cases d with
    | dK ds =>
      obtain ⟨a, ws, M, rfl, ea, rfl, kk, q⟩ := h
      simp only [putP, Option.some.injEq] at e
      subst e
      obtain ⟨ql, rfl⟩ := All3_zero.mp q
      refine ⟨a, ws, List.mem_cons_self .., ea, by simp only [lenP, Option.some.injEq]; simpa using (congrArg List.length kk).symm, rfl, fun vv hv => ?_⟩
      have na : ¬ S a := off a (List.mem_cons_self ..)
      have g : Grow S H S (upd H a (.dK (putK ws k vv))) := Grow.of fun b s => ⟨s, upd_ne fun e => na (e ▸ s)⟩
      have dk : DenK G S H (putD ds k dv) (putK ws k vv) := denK_put hv (DenK_iff.mpr ⟨kk, ql⟩)
      have dk' := DenK_iff.mp (dk.grow g)
      exact ⟨a, _, [], rfl, upd_same, rfl, dk'.1, All3_zero.mpr ⟨dk'.2, rfl⟩⟩
    | _ => simp only [putP, reduceCtorEq] at e
  | k1 :: p, d, d', v, L, h, nd, off, e => by
    cases d with
    | dK ds =>
      obtain ⟨a, ws, M, rfl, ea, rfl, kk, q⟩ := h
      simp only [putP] at e
      cases e1 : getDk ds k1 with
      | none => rw [e1] at e; cases e
      | some d1 =>
        rw [e1] at e
        cases e2 : putP p k dv d1 with
        | none => simp only [Option.bind_some, e2, Option.map_none, reduceCtorEq] at e
        | some d1' =>
          simp only [Option.bind_some, e2, Option.map_some, Option.some.injEq] at e
          subst e
          have nd' := List.nodup_cons.mp nd
          obtain ⟨v1, L1, ev, pv, ndL, sub, back⟩ := All3.rep kk q nd'.2 e1
          obtain ⟨b, ws0, mb, eb, lb, pb, fin⟩ := DenO.put (p := p) pv ndL (fun x m => off x (List.mem_cons_of_mem _ (sub x m))) e2
          refine ⟨b, ws0, List.mem_cons_of_mem _ (sub b mb), eb, by simp only [lenP, e1, Option.bind_some]; exact lb, ⟨a, ws, v1, rfl, ea, ev, pb⟩, fun vv hv => ?_⟩
          have nb : ¬ S b := off b (List.mem_cons_of_mem _ (sub b mb))
          have g : Grow S H S (upd H b (.dK (putK ws0 k vv))) := Grow.of fun x s => ⟨s, upd_ne fun e => nb (e ▸ s)⟩
          have nab : a ≠ b := fun e => nd'.1 (by rw [e]; exact sub b mb)
          refine ⟨a, ws, M, rfl, by rw [upd_ne nab]; exact ea, rfl, by rw [repK_keys]; exact kk, back _ d1' g (fun x _ n => upd_ne fun e => n (e ▸ mb)) (fin vv hv)⟩
    | _ => simp only [putP, reduceCtorEq] at e
theorem putF_new {f : Str} {v : V} : ∀ {ws : List (Str × V)}, ws.lookup f = none → putF f v ws = ws ++ [(f, v)]
  | [], _ => rfl
  | (g, x) :: r, h => by
    cases e : f == g with
    | true => rw [List.lookup_cons, e] at h; cases h
    | false =>
      rw [List.lookup_cons, e] at h
      have ne : ¬ g = f := fun q => by rw [q, beq_self_eq_true] at e; cases e
      show (if g = f then _ else _) = _
      rw [if_neg ne, putF_new h]
      rfl
theorem lookup_keys {α β : Type} {f : Str} : ∀ {fs : List (Str × α)} {ws : List (Str × β)}, ws.map (·.1) = fs.map (·.1) → fs.lookup f = none → ws.lookup f = none
  | [], [], _, _ => rfl
  | [], _ :: _, e, _ => by simp at e
  | _ :: _, [], e, _ => by simp at e
  | (g, x) :: r, (g', y) :: r', e, h => by
    simp only [List.map_cons, List.cons.injEq] at e
    obtain ⟨rfl, e⟩ := e
    cases q : f == g' with
    | true => rw [List.lookup_cons, q] at h; cases h
    | false =>
      rw [List.lookup_cons, q] at h ⊢
      exact lookup_keys e h
def kdOf : Option Nat → Kd
  | none => .sh
  | some j => .ow (.n j)
theorem FOk.growW {G S H S' H'} (g : GrowW S H S' H') {kf d v L} (f : ∀ a ∈ L, H' a = H a) (h : FOk G S H kf d v L) : FOk G S' H' kf d v L := by
  cases kf with
  | none => exact ⟨h.1, h.2.growW g⟩
  | some j => exact DenO.growW g f h
theorem entOk_kdOf {G S H kf d v L} : EntOk G S H ⟨kdOf kf, d, some v⟩ L ↔ FOk G S H kf d v L := by
  cases kf with
  | none =>
    constructor
    · rintro ⟨e, w, q, h⟩; cases q; exact ⟨e, h⟩
    · rintro ⟨e, h⟩; exact ⟨e, v, rfl, h⟩
  | some j =>
    constructor
    · rintro ⟨w, q, h⟩; cases q; exact h
    · intro h; exact ⟨v, rfl, h⟩
theorem AllF.snoc {G S H} {kf : Option Nat} {d : D} {v : V} {Lv : List Addr} (hv : FOk G S H kf d v Lv) : ∀ {ks ds vs M}, AllF G S H ks ds vs M → AllF G S H (ks ++ [kf]) (ds ++ [d]) (vs ++ [v]) (M ++ Lv)
  | [], [], vs, M, h => by
    obtain ⟨rfl, rfl⟩ := h
    exact ⟨v, [], Lv, [], rfl, by simp, by cases kf <;> exact hv, rfl, rfl⟩
  | k :: ks, d0 :: ds, vs, M, h => by
    obtain ⟨v0, r, L1, L2, rfl, rfl, p, q⟩ := h
    exact ⟨v0, r ++ [v], L1, L2 ++ Lv, rfl, by rw [List.append_assoc], p, AllF.snoc hv q⟩
  | [], _ :: _, _, _, h => h.elim
  | _ :: _, [], _, _, h => h.elim
theorem Rel.fldNew {G : Gx} {S H xs d v w ks fs c f} {kf : Option Nat} (h : Rel G S H (⟨kdOf kf, d, some v⟩ :: ⟨.ow (.ob ks), .ins c fs, some w⟩ :: xs)) (hf : fs.lookup f = none) :
    ∃ a dx ws, w = .ref a ∧ H a = some (.ins (G.cl c) dx ws) ∧ ws.length = fs.length ∧ Grow S H S (upd H a (.ins (G.cl c) dx (putF f v ws))) ∧
      Rel G S (upd H a (.ins (G.cl c) dx (putF f v ws))) (⟨.ow (.ob (ks ++ [kf])), .ins c (fs ++ [(f, d)]), some w⟩ :: xs) := by
  obtain ⟨al, L, hp⟩ := h
  cases hp with
  | @cons _ _ Lv M0 hv ndv fv hr =>
    cases hr with
    | @cons _ _ Lo M ho ndo fo hr =>
      have hv' := entOk_kdOf.mp hv
      obtain ⟨w', ew, ho⟩ := ho
      cases ew
      obtain ⟨a, dx, ws, Mo, rfl, ea, ed, rfl, kk, q⟩ := ho
      have lk := lookup_keys kk hf
      refine ⟨a, dx, ws, rfl, ea, by simpa using congrArg List.length kk, ?_⟩
      rw [putF_new lk]
      have na : ¬ S a := (fo a (List.mem_cons_self ..)).1
      have nav : a ∉ Lv := fun m => (fv a m).2.2 (List.mem_append_left _ (List.mem_cons_self ..))
      have ndo' := List.nodup_cons.mp ndo
      have ndo2 := List.nodup_cons.mp ndo'.2
      have nadx : dx ≠ a := fun e => ndo'.1 (by rw [← e]; exact List.mem_cons_self ..)
      have naM : a ∉ Mo := fun m => ndo'.1 (List.mem_cons_of_mem _ m)
      have g : Grow S H S (upd H a (.ins (G.cl c) dx (ws ++ [(f, v)]))) := Grow.of fun b s => ⟨s, upd_ne fun e => na (e ▸ s)⟩
      have notm : a ∉ M := (fo a (List.mem_cons_self ..)).2.2
      refine ⟨g, ⟨fun b s => by rw [(g b s).2]; exact al.al b s, G.st _ _ _ _ g.w al.ph⟩, (a :: dx :: (Mo ++ Lv)) ++ M, .cons ⟨_, rfl, a, dx, _, Mo ++ Lv, rfl, upd_same, by rw [upd_ne nadx]; exact ed, rfl, by simp [kk], ?_⟩ ?_ (fun b m => ?_) (hr.keep g fun b m => ⟨upd_ne fun e => notm (e ▸ m), (hr.off b m).1⟩)⟩
      · have q1 := AllF.growW g.w (fun b m => upd_ne fun e => naM (e ▸ m)) q
        have v1 := FOk.growW g.w (fun b m => upd_ne fun e => nav (e ▸ m)) hv'
        simpa only [List.map_append, List.map_cons, List.map_nil] using AllF.snoc v1 q1
      · refine List.nodup_cons.mpr ⟨fun m => ?_, List.nodup_cons.mpr ⟨fun m => ?_, List.nodup_append.mpr ⟨ndo2.2, ndv, fun x m y m' e => ?_⟩⟩⟩
        · rcases List.mem_cons.mp m with e | m
          · exact nadx e.symm
          · rcases List.mem_append.mp m with m | m
            · exact naM m
            · exact nav m
        · rcases List.mem_append.mp m with m | m
          · exact ndo2.1 m
          · exact (fv dx m).2.2 (List.mem_append_left _ (List.mem_cons_of_mem _ (List.mem_cons_self ..)))
        · subst e
          exact (fv x m').2.2 (List.mem_append_left _ (List.mem_cons_of_mem _ (List.mem_cons_of_mem _ m)))
      · have hb : (b ∈ a :: dx :: Mo) ∨ b ∈ Lv := by
          rcases List.mem_cons.mp m with e | m
          · exact .inl (by rw [e]; exact List.mem_cons_self ..)
          · rcases List.mem_cons.mp m with e | m
            · exact .inl (by rw [e]; exact List.mem_cons_of_mem _ (List.mem_cons_self ..))
            · rcases List.mem_append.mp m with m | m
              · exact .inl (List.mem_cons_of_mem _ (List.mem_cons_of_mem _ m))
              · exact .inr m
        have up : upd H a (.ins (G.cl c) dx (ws ++ [(f, v)])) b ≠ none ∨ H b = none := by
          by_cases e : b = a
          · subst e; rw [upd_same]; exact .inl (by simp)
          · rw [upd_ne e]
            cases eb : H b with
            | none => exact .inr rfl
            | some _ => exact .inl (by simp)
        rcases hb with m | m
        · exact ⟨(fo b m).1, up.resolve_right (fo b m).2.1, (fo b m).2.2⟩
        · exact ⟨(fv b m).1, up.resolve_right (fv b m).2.1, fun m' => (fv b m).2.2 (List.mem_append_right _ m')⟩
end Rm
namespace Rm
open PySem PySem.Spec L2
theorem AllF.rep {G S H} {f : Str} {d : D} {kf : Option Nat} : ∀ {ks : List (Option Nat)} {fs : List (Str × D)} {ws : List (Str × V)} {M : List Addr}, ws.map (·.1) = fs.map (·.1) → AllF G S H ks (fs.map (·.2)) (ws.map (·.2)) M → M.Nodup → fs.lookup f = some d → fkOf ks fs f = some kf →
    ∃ v L, ws.lookup f = some v ∧ FOk G S H kf d v L ∧ L.Nodup ∧ (∀ a ∈ L, a ∈ M) ∧
      ∀ H' d', Grow S H S H' → (∀ a ∈ M, a ∉ L → H' a = H a) → FOk G S H' kf d' v L → AllF G S H' ks ((repF fs f d').map (·.2)) (ws.map (·.2)) M
  | _, [], _, _, _, _, _, e, _ => by cases e
  | [], _ :: _, _, _, _, h, _, _, _ => by simp only [List.map_cons] at h; exact h.elim
  | k :: ks, (g, x) :: fs, [], _, ek, _, _, _, _ => by simp at ek
  | k :: ks, (g, x) :: fs, (g', y) :: ws, M, ek, h, nd, e, ef => by
    simp only [List.map_cons, List.cons.injEq] at ek
    obtain ⟨rfl, ek⟩ := ek
    obtain ⟨v, r, L1, L2, e1, rfl, p, q⟩ := h
    simp only [List.map_cons, List.cons.injEq] at e1
    obtain ⟨rfl, rfl⟩ := e1
    have nd2 := List.nodup_append.mp nd
    cases hk : f == g' with
    | true =>
      rw [List.lookup_cons, hk] at e
      cases e
      have ef' : some k = some kf := by unfold fkOf at ef; rw [hk] at ef; exact ef
      cases ef'
      refine ⟨y, L1, by rw [List.lookup_cons, hk], by cases kf <;> exact p, nd2.1, fun a m => List.mem_append_left _ m, fun H' d' gr f' p' => ?_⟩
      unfold repF
      rw [hk]
      exact ⟨y, _, L1, L2, rfl, rfl, by cases kf <;> exact p', AllF.grow gr (fun a m => f' a (List.mem_append_right _ m) fun m1 => nd2.2.2 a m1 a m rfl) q⟩
    | false =>
      rw [List.lookup_cons, hk] at e
      have ef' : fkOf ks fs f = some kf := by unfold fkOf at ef; rw [hk] at ef; exact ef
      obtain ⟨v, L, ev, pv, ndL, sub, back⟩ := AllF.rep ek q nd2.2.1 e ef'
      refine ⟨v, L, by rw [List.lookup_cons, hk]; exact ev, pv, ndL, fun a m => List.mem_append_right _ (sub a m), fun H' d' gr f' p' => ?_⟩
      unfold repF
      rw [hk]
      refine ⟨y, _, L1, L2, rfl, rfl, ?_, back H' d' gr (fun a m n => f' a (List.mem_append_right _ m) n) p'⟩
      have st : ∀ a ∈ L1, H' a = H a := fun a m => f' a (List.mem_append_left _ m) fun mL => nd2.2.2 a m a (sub a mL) rfl
      cases k with
      | none => exact ⟨p.1, p.2.grow gr⟩
      | some j => exact DenO.grow gr st p
/-- a shared value is put into a field's dict, along a path of keys -/
theorem Rel.fldPut {G : Gx} {S H xs dv vv w ks fs c f df df'} {p : List Key} {k : Key} (h : Rel G S H (⟨.sh, dv, some vv⟩ :: ⟨.ow (.ob ks), .ins c fs, some w⟩ :: xs)) (hf : fs.lookup f = some df) (hk : fkOf ks fs f = some (some p.length)) (hp : putP p k dv df = some df') :
    ∃ a dx ws v0 b ws0, w = .ref a ∧ H a = some (.ins (G.cl c) dx ws) ∧ ws.lookup f = some v0 ∧ pathV H v0 p (.ref b) ∧ H b = some (.dK ws0) ∧ lenP p df = some ws0.length ∧ Grow S H S (upd H b (.dK (putK ws0 k vv))) ∧
      Rel G S (upd H b (.dK (putK ws0 k vv))) (⟨.ow (.ob ks), .ins c (repF fs f df'), some w⟩ :: xs) := by
  have hv := h.shared
  obtain ⟨al, L, hq⟩ := h.drop
  cases hq with
  | @cons _ _ Lo M ho ndo fo hr =>
    obtain ⟨w', ew, ho⟩ := ho
    cases ew
    obtain ⟨a, dx, ws, Mo, rfl, ea, ed, rfl, kk, q⟩ := ho
    have ndo' := List.nodup_cons.mp ndo
    have ndo2 := List.nodup_cons.mp ndo'.2
    obtain ⟨v0, Lf, ev, pv, ndf, sub, back⟩ := AllF.rep kk q ndo2.2 hf hk
    have off : ∀ x ∈ Lf, ¬ S x := fun x m => (fo x (List.mem_cons_of_mem _ (List.mem_cons_of_mem _ (sub x m)))).1
    obtain ⟨b, ws0, mb, eb, lb, pb, fin⟩ := DenO.put (p := p) pv ndf off hp
    have nb := off b mb
    have g : Grow S H S (upd H b (.dK (putK ws0 k vv))) := Grow.of fun x s => ⟨s, upd_ne fun e => nb (e ▸ s)⟩
    have mo : b ∈ Mo := sub b mb
    have nba : a ≠ b := fun e => ndo'.1 (by rw [e]; exact List.mem_cons_of_mem _ mo)
    have nbd : dx ≠ b := fun e => ndo2.1 (by rw [e]; exact mo)
    refine ⟨a, dx, ws, v0, b, ws0, rfl, ea, ev, pb, eb, lb, g, ⟨fun x s => by rw [(g x s).2]; exact al.al x s, G.st _ _ _ _ g.w al.ph⟩, (a :: dx :: Mo) ++ M, .cons ⟨_, rfl, a, dx, ws, Mo, rfl, by rw [upd_ne nba]; exact ea, by rw [upd_ne nbd]; exact ed, rfl, by rw [repF_keys]; exact kk, ?_⟩ ndo (fun x m => ⟨(fo x m).1, ?_, (fo x m).2.2⟩) (hr.keep g fun x m => ⟨upd_ne fun e => (fo b (List.mem_cons_of_mem _ (List.mem_cons_of_mem _ mo))).2.2 (e ▸ m), (hr.off x m).1⟩)⟩
    · exact back _ df' g (fun x _ n => upd_ne fun e => n (e ▸ mb)) (fin vv hv)
    · by_cases e : x = b
      · subst e; rw [upd_same]; simp
      · rw [upd_ne e]; exact (fo x m).2.1
theorem pathV_snoc {H : Hp} {k : Key} {a' : Addr} {ws : List (Key × V)} {x : V} : ∀ {p : List Key} {v : V}, pathV H v (p ++ [k]) x ↔ ∃ y, pathV H v p y ∧ ∃ a ws, y = .ref a ∧ H a = some (.dK ws) ∧ valV ws k = some x
  | [], v => by
    constructor
    · rintro ⟨a, ws, v1, e, eH, ev, rfl⟩; exact ⟨v, rfl, a, ws, e, eH, ev⟩
    · rintro ⟨y, rfl, a, ws, e, eH, ev⟩; exact ⟨a, ws, x, e, eH, ev, rfl⟩
  | k0 :: p, v => by
    constructor
    · rintro ⟨a, ws, v1, e, eH, ev, h⟩
      obtain ⟨y, hy, z⟩ := (pathV_snoc (a' := a') (ws := ws)).mp h
      exact ⟨y, ⟨a, ws, v1, e, eH, ev, hy⟩, z⟩
    · rintro ⟨y, ⟨a, ws, v1, e, eH, ev, hy⟩, z⟩
      exact ⟨a, ws, v1, e, eH, ev, (pathV_snoc (a' := a') (ws := ws)).mpr ⟨y, hy, z⟩⟩
/-- a path into a field of the i-th slot's object: its keys -/
structure Px (J : Jc) (κ : List Kd) (i c : Nat) (f : Str) (e : Expr) (gs : List D → Option (List Key)) : Prop where
  ex : ∃ t : TE, PE J.X e t ∧ ∀ S H σ env, Vl J.G S H κ env σ → ∀ p, gs env = some p → ∀ (a dx : Addr) (ws : List (Str × V)) (v0 x : V) (Q : VK), σ[i]? = some (some (.ref a)) → H a = some (.ins (J.cl c) dx ws) → ws.lookup f = some v0 → pathV H v0 p x → Q x H → t σ H Q
section
variable {J : Jc} {κ κ1 κ2 κ' : List Kd} {a e o ke : Expr} {pos pos' np apos : Pos} {fe : M D} {i c n : Nat} {f xn : Str} {gs : List D → Option (List Key)} {gk : List D → Option D} {ks : List (Option Nat)} {kf : Option Nat}
theorem px_fld (hN : J.X.N[i]? = some xn) (hv : Vis J.X.env.scope xn) (ok : FldOk J.G [c] f) (hb : attributeBase (.Name xn np) f J.X.env (eval (.Name xn np) J.X.env) = eval (.Name xn np) J.X.env := by rfl) (hd : (xn == ("__debug__" : Str)) = false := by decide) (hcd : (xn == ("__classdict__" : Str)) = false := by decide) :
    Px J κ i c f (.Attribute (.Name xn np) f apos) fun _ => some [] :=
  ⟨_, pe_fld (pe_var hN hv hd hcd) hb, fun S H σ env _ p hp a dx ws v0 x Q hs ea lk hx z => by
    cases hp
    cases hx
    exact ⟨_, hs, a, _, dx, ws, v0, rfl, ea, (ok c (by simp)).1, (ok c (by simp)).2, lk, z⟩⟩
def pkM (gs : List D → Option (List Key)) (gk : List D → Option D) : List D → Option (List Key) := fun env => (gs env).bind fun p => ((gk env).bind keyD).map fun k => p ++ [k]
theorem px_key (hr : Room n J.X.A) (h : Px J κ i c f o gs) (hk : Dx J κ ke gk) (hs : NoSl ke := by exact fun _ _ => rfl) : Px J κ i c f (.Subscript o ke pos) (pkM gs gk) := by
  obtain ⟨t, pt, q⟩ := h.ex
  obtain ⟨tk, pk, qk⟩ := hk.ex
  refine ⟨_, pe_dget (hu1 hr) pt pk hs, fun S H σ env hv p hp a dx ws v0 x Q hs ea lk hx z => ?_⟩
  unfold pkM at hp
  cases eg : gs env with
  | none => rw [eg] at hp; cases hp
  | some p0 =>
    cases ek : gk env with
    | none => rw [eg, ek] at hp; cases hp
    | some dk =>
      cases ekk : keyD dk with
      | none => rw [eg, ek] at hp; simp [ekk] at hp
      | some k =>
        rw [eg, ek] at hp
        have hp : some (p0 ++ [k]) = some p := by simpa [ekk] using hp
        cases hp
        obtain ⟨y, hy, a', ws', rfl, ea', ev⟩ := (pathV_snoc (a' := a) (ws := [])).mp hx
        obtain ⟨vk, dk', run⟩ := qk S H σ env hv dk ek
        have e1 := keyD_den ekk dk'
        exact q S H σ env hv p0 eg a dx ws v0 (.ref a') _ hs ea lk hy (run H _ (fun _ => rfl) ⟨a', x, rfl, .inl ⟨ws', k, .inl ea', e1, ev.symm⟩, z⟩)
/-- what stands where nothing is changed by looking -/
theorem dx_cn {v : V} {d : D} (h : PE J.X e (tC v)) (hd : ∀ S H, Den J.G S H d v) : Dx J κ e fun _ => some d :=
  ⟨_, h, fun S H σ env _ d' hd' => by cases hd'; exact ⟨v, hd S H, fun H' Q _ z => z⟩⟩
theorem dx_str {x j pos} : Dx J κ (.Constant (.str x) j pos) fun _ => some (.str x) := dx_cn pe_str fun _ _ => by simp only [Den]
/-- self.f = e, f new -/
def fldNM (i : Nat) (cs : List Nat) (f : Str) (fe : M D) : M Fl := fun e => (fe e).bind fun d e => match e[i]? with
  | some (.ins c fs) => if c ∈ cs ∧ fs.lookup f = none ∧ fs.length < 900 then .ok .nx (e.set i (.ins c (fs ++ [(f, d)]))) else .stuck
  | _ => .stuck
theorem sx_fldN {cs : List Nat} {i : Nat} (hN : J.X.N[i]? = some xn) (hv : Vis J.X.env.scope xn) (ok : FldOk J.G cs f) (he : Ex J κ e (kdOf kf) fe κ1) (hk : κ1[i]? = some (.ow (.ob ks)))
    (hs : swapsWith e (some (.Attribute (.Name xn np) f pos')) pos.line J.X.env = pure false := by rfl) (hd : (xn == ("__debug__" : Str)) = false := by decide) (hcd : (xn == ("__classdict__" : Str)) = false := by decide) :
    Sx J κ (.Assign [.Attribute (.Name xn np) f pos'] e pos) (fldNM i cs f fe) (κ1.set i (.ow (.ob (ks ++ [kf])))) := by
  obtain ⟨t, p, q⟩ := he.ex
  refine ⟨_, ps_fld (pe_var hN hv hd hcd) p hs, fun R S H σ env D h hq => q _ _ _ _ _ _ h ((SReq.bind hq).mono fun d e1 _ z S1 H1 v g1 r1 => ?_)⟩
  cases ed : e1[i]? with
  | none => rw [ed] at z; exact z.elim
  | some di =>
    rw [ed] at z
    cases di with
    | ins c fs =>
      simp only at z
      split at z
      · rename_i hc
        obtain ⟨w, hw, h'⟩ := r1.take hk ed
        have r2 := h' (.ins c fs)
        rw [List.set_self' ed] at r2
        have r3 : Rel J.G S1 H1 (⟨kdOf kf, d, some v⟩ :: ⟨.ow (.ob ks), .ins c fs, some w⟩ :: (R ++ ents (κ1.set i .un) e1 σ)) := r2.rel.perm (.swap ..)
        obtain ⟨a, dx, ws, rfl, ea, le, g2, r4⟩ := r3.fldNew hc.2.1
        refine ⟨_, hw, a, _, dx, ws, rfl, ea, (ok c hc.1).1, (ok c hc.1).2, by omega, ?_⟩
        have r5 : Rl J.G S1 _ (κ1.set i .un) e1 σ (⟨.ow (.ob (ks ++ [kf])), .ins c (fs ++ [(f, d)]), some (.ref a)⟩ :: R) := ⟨r2.l1, r2.l2, r4⟩
        have r6 := r5.put (i := i) (k0 := .un) (d0 := .ins c fs) (by rw [List.getElem?_set_self]; exact (List.getElem?_eq_some_iff.mp hk).1) ed hw
        rw [List.set_set] at r6
        have z : ∀ S' H' σ', Grow S H S' H' → Fix J.kx σ σ' → Rl J.G S' H' (κ1.set i (.ow (.ob (ks ++ [kf])))) (e1.set i (.ins c (fs ++ [(f, d)]))) σ' R → D.nx σ' H' := z
        exact z S1 _ σ (g1.trans g2) .refl r6
      · exact z.elim
    | _ => exact z.elim
/-- self.f[..][k] = e: a shared value into a dict within an owned field -/
def putPM (i c : Nat) (f : Str) (ks : List (Option Nat)) (gs : List D → Option (List Key)) (gk : List D → Option D) (fe : M D) : M Fl := fun e => (fe e).bind fun d e => match e[i]?, gs e, (gk e).bind keyD with
  | some (.ins c' fs), some p, some k => match fs.lookup f with
    | some df => match putP p k d df, lenP p df with
      | some df', some l => if c' = c ∧ fkOf ks fs f = some (some p.length) ∧ l < lim then .ok .nx (e.set i (.ins c' (repF fs f df'))) else .stuck
      | _, _ => .stuck
    | none => .stuck
  | _, _, _ => .stuck
theorem sx_putP {cont : Expr} {i c : Nat} (hr : Room n J.X.A) (he : Ex J κ e .sh fe κ1) (hk : κ1[i]? = some (.ow (.ob ks))) (hp : Px J κ1 i c f cont gs) (hx : Dx J κ1 ke gk)
    (hs : swapsWith e (some (.Subscript cont ke pos')) pos.line J.X.env = pure false := by rfl) :
    Sx J κ (.Assign [.Subscript cont ke pos'] e pos) (putPM i c f ks gs gk fe) κ1 := by
  obtain ⟨t, p, q⟩ := he.ex
  obtain ⟨tp, pp, qp⟩ := hp.ex
  obtain ⟨tk, pk, qk⟩ := hx.ex
  refine ⟨_, ps_dput (hu1 hr) pp pk p hs, fun R S H σ env D h hq => q _ _ _ _ _ _ h ((SReq.bind hq).mono fun d e1 _ z S1 H1 v g1 r1 => ?_)⟩
  have hvl : Vl J.G S1 H1 κ1 e1 σ := (show Rl J.G S1 H1 κ1 e1 σ R from r1.drop).vl
  split at z
  · rename_i c' fs pth k ed eg ek
    split at z
    · rename_i df lkf
      split at z
      · rename_i df' l ep el
        split at z
        · rename_i hc
          obtain ⟨rfl, hkf, hlim⟩ := hc
          obtain ⟨w, hw, h'⟩ := r1.take hk ed
          have r2 := h' (.ins c' fs)
          rw [List.set_self' ed] at r2
          have r3 : Rel J.G S1 H1 (⟨.sh, d, some v⟩ :: ⟨.ow (.ob ks), .ins c' fs, some w⟩ :: (R ++ ents (κ1.set i .un) e1 σ)) := r2.rel.perm (.swap ..)
          obtain ⟨a, dx, ws, v0, b, ws0, rfl, ea, ev, pv, eb, lb, g2, r4⟩ := r3.fldPut lkf hkf ep
          rw [el] at lb
          cases lb
          cases edk : gk e1 with
          | none => rw [edk] at ek; cases ek
          | some dk =>
            rw [edk] at ek
            obtain ⟨vk, dkn, run⟩ := qk S1 H1 σ e1 hvl dk edk
            have e1' := keyD_den ek dkn
            refine qp S1 H1 σ e1 hvl pth eg a dx ws v0 (.ref b) _ hw ea ev pv (run H1 _ (fun _ => rfl) ⟨b, _, rfl, .inl ⟨ws0, k, eb, e1', lim_lt (Nat.le_of_lt hlim), rfl⟩, ?_⟩)
            have r5 : Rl J.G S1 _ (κ1.set i .un) e1 σ (⟨.ow (.ob ks), .ins c' (repF fs f df'), some (.ref a)⟩ :: R) := ⟨r2.l1, r2.l2, r4⟩
            have r6 := r5.put (i := i) (k0 := .un) (d0 := .ins c' fs) (by rw [List.getElem?_set_self]; exact (List.getElem?_eq_some_iff.mp hk).1) ed hw
            rw [List.set_set, List.set_self' hk] at r6
            have z : ∀ S' H' σ', Grow S H S' H' → Fix J.kx σ σ' → Rl J.G S' H' κ1 (e1.set i (.ins c' (repF fs f df'))) σ' R → D.nx σ' H' := z
            exact z S1 _ σ (g1.trans g2) .refl r6
        · exact z.elim
      · exact z.elim
    · exact z.elim
  · exact z.elim
end
end Rm
namespace Rm
open PySem PySem.Spec L2
theorem All3.snoc {P : D → V → List Addr → Prop} {d : D} {v : V} {Lv : List Addr} (hv : P d v Lv) : ∀ {ds vs M}, All3 P ds vs M → All3 P (ds ++ [d]) (vs ++ [v]) (M ++ Lv)
  | [], vs, M, h => by
    obtain ⟨rfl, rfl⟩ := h
    exact ⟨v, [], Lv, [], rfl, by simp, hv, rfl, rfl⟩
  | d0 :: ds, vs, M, h => by
    obtain ⟨v0, r, L1, L2, rfl, rfl, p, q⟩ := h
    exact ⟨v0, r ++ [v], L1, L2 ++ Lv, rfl, by rw [List.append_assoc], p, All3.snoc hv q⟩
theorem getDk_none {k : Key} : ∀ {ds : List (Key × D)}, getDk ds k = none → (ds.any fun kv => decide (kv.1 = k)) = false
  | [], _ => rfl
  | (k0, d0) :: r, h => by
    rw [getDk_cons] at h
    split at h
    · cases h
    · rename_i e
      simp only [List.any_cons, Bool.or_eq_false_iff, decide_eq_false_iff_not]
      exact ⟨e, getDk_none h⟩
theorem any_keys {k : Key} : ∀ {ds : List (Key × D)} {ws : List (Key × V)}, ws.map (·.1) = ds.map (·.1) → (ws.any fun kv => decide (kv.1 = k)) = (ds.any fun kv => decide (kv.1 = k))
  | [], [], _ => rfl
  | [], _ :: _, e => by simp at e
  | _ :: _, [], e => by simp at e
  | (k0, d0) :: r, (k1, v1) :: r', e => by
    simp only [List.map_cons, List.cons.injEq] at e
    obtain ⟨rfl, e⟩ := e
    simp only [List.any_cons, any_keys e]
def putOM (i c : Nat) (f : Str) (ks : List (Option Nat)) (j : Nat) (gk : List D → Option D) (fe : M D) : M Fl := fun e => (fe e).bind fun d e => match e[i]?, (gk e).bind keyD with
  | some (.ins c' fs), some k => match fs.lookup f with
    | some (.dK ds) => if c' = c ∧ fkOf ks fs f = some (some (j + 1)) ∧ getDk ds k = none ∧ ds.length < lim then .ok .nx (e.set i (.ins c' (repF fs f (.dK (ds ++ [(k, d)]))))) else .stuck
    | _ => .stuck
  | _, _ => .stuck
section
variable {J : Jc} {κ κ1 κ2 κ' : List Kd} {a e o ke : Expr} {pos pos' np apos : Pos} {fe : M D} {i c n j : Nat} {f xn : Str} {gs : List D → Option (List Key)} {gk : List D → Option D} {ks : List (Option Nat)} {kf : Option Nat}
end
end Rm
namespace Rm
open PySem PySem.Spec L2
def NewL (G : Gx) (r : List V → Hp → VK → Prop) (g : List D → Option (List D)) : Prop := ∀ (S : Rg) (H : Hp) (ds : List D) (vs : List V) (ds' : List D) (Q : VK), g ds = some ds' → DenL G S H ds vs →
  ∃ us, DenL G S H ds' us ∧ ((∀ p, H p = none → Q (.ref p) (upd H p (.lst us))) → r vs H Q)
def nl (g : List D → Option (List D)) : List D → Option D := fun ds => (g ds).map .lst
theorem prim_newL {G : Gx} {r} {g : List D → Option (List D)} {n : Nat} (h : NewL G r g) : Prim G r (List.replicate n .sh) (.ow 0) (ro (nl g)) := by
  intro S H ds vs d os xs Q hg l1 l2 hr hq
  unfold ro nl at hg
  cases eg : g ds with
  | none => rw [eg] at hg; cases hg
  | some ds' =>
    rw [eg] at hg
    cases hg
    rw [List.length_replicate] at l1 l2
    have hd := rel_sh hr l1 l2
    obtain ⟨us, hu, k⟩ := h S H ds vs ds' Q eg hd
    refine k fun p hp => ?_
    obtain ⟨g1, r1⟩ := hr.newList hp hu
    refine hq S _ _ g1 (by rw [List.length_replicate]; exact l1) ?_
    exact Rel.outK (T := [⟨.ow 0, .lst ds', some (.ref p)⟩]) r1
def gCat : List D → Option (List D)
  | [.lst xs, .lst ys] => if xs.length + ys.length ≤ lim then some (xs ++ ys) else none
  | _ => none
theorem nl_cat {G : Gx} : NewL G (r2 rCat) gCat := fun S H ds vs ds' Q hg hd => by
  unfold gCat at hg
  split at hg
  · split at hg
    · rename_i xs ys hl
      cases hg
      obtain ⟨v, u, rfl, p, q⟩ := denL2 hd
      simp only [Den] at p q
      obtain ⟨a, us, rfl, _, ea, la⟩ := p
      obtain ⟨b, ws, rfl, _, eb, lb⟩ := q
      exact ⟨us ++ ws, denL_append la lb, fun z => ⟨a, b, us, ws, rfl, rfl, ea, eb, by rw [la.length, lb.length]; exact lim_ok hl, z⟩⟩
    · cases hg
  · cases hg
/-- an int, a text added: as ever; two lists: a new one -/
def cutD (xs : List D) (lo hi : Option Int) : List D := (xs.drop (HT.sIx xs.length 0 lo)).take (HT.sIx xs.length xs.length hi - HT.sIx xs.length 0 lo)
def seqOf' : D → Option (List D)
  | .lst ds => some ds
  | .rol ds => some ds
  | .tup ds => some ds
  | _ => none
def gList : List D → Option (List D)
  | [x] => seqOf' x
  | _ => none
theorem nl_list {G : Gx} : NewL G (fun xs H Q => ∃ p ys, xs = [V.ref p] ∧ (SqL G.K H p ys ∨ SqT G.K H p ys) ∧ ∀ l, H l = none → Q (.ref l) (upd H l (.lst ys))) gList := fun S H ds vs ds' Q hg hd => by
  unfold gList at hg
  split at hg
  · rename_i x
    obtain ⟨v, rfl, q⟩ := denL1 hd
    cases x with
    | lst xs => cases hg; obtain ⟨a, us, rfl, s, l⟩ := den_lst q; exact ⟨us, l, fun z => ⟨a, us, rfl, .inl s, z⟩⟩
    | rol xs => cases hg; obtain ⟨a, us, rfl, s, l⟩ := den_rol q; exact ⟨us, l, fun z => ⟨a, us, rfl, .inl s, z⟩⟩
    | tup xs => cases hg; obtain ⟨a, us, rfl, s, l⟩ := den_tup q; exact ⟨us, l, fun z => ⟨a, us, rfl, .inr s, z⟩⟩
    | _ => cases hg
  · cases hg
def gKeys : List D → Option (List D)
  | [.dK kvs] => some (kvs.map fun kv => kD kv.1)
  | _ => none
theorem denL_keys {G S H} : ∀ {kvs : List (Key × D)} {ws}, DenK G S H kvs ws → DenL G S H (kvs.map fun kv => kD kv.1) (ws.map fun kv => kV kv.1)
  | [], ws, h => by simp only [DenK] at h; subst h; simp only [List.map_nil, DenL]
  | (k, d) :: r, ws, h => by
    obtain ⟨v, r', rfl, p, q⟩ := denK_cons.mp h
    simp only [List.map_cons, DenL]
    exact ⟨_, _, rfl, den_kV k, denL_keys q⟩
theorem nl_keys {G : Gx} : NewL G (fun xs H Q => ∃ (a : Addr) (kvs : List (Key × V)), xs = [.ref a] ∧ Rd H a (.dK kvs) ∧ ∀ p, H p = none → Q (.ref p) (upd H p (.lst (kvs.map fun kv => kV kv.1)))) gKeys := fun S H ds vs ds' Q hg hd => by
  unfold gKeys at hg
  split at hg
  · cases hg
    obtain ⟨v, rfl, q⟩ := denL1 hd
    obtain ⟨a, ws, rfl, rd, dk⟩ := den_dK q
    exact ⟨_, denL_keys dk, fun z => ⟨a, ws, rfl, rd, z⟩⟩
  · cases hg
section
variable {J : Jc} {κ κ1 κ2 κ3 κ' : List Kd} {a b c e : Expr} {es : List Expr} {pos p apos cpos p2 : Pos} {fa fb : M D} {fr : M (List D)} {n : Nat} {f1 f2 : M (Option Int)} {lo hi : Option Expr}
theorem ex_cat (hev : Ev J κ [a, b] [.sh, .sh] fr κ1) : Ex J κ (.BinOp a .Add b pos) (.ow 0) (primM (ro (nl gCat)) [.sh, .sh] fr) κ1 := ex_bin op_cat (prim_newL (n := 2) nl_cat) hev
theorem ex_list (hg : Gl J.X "list") (hm : J.X.mg "list" = none) (hev : Ev J κ [a] [.sh] fr κ1) (hst : noStar [a] = true := by rfl) (hpl : (backTo pos (starEach [] J.X.env)).any (·.1) = false := by rfl) :
    Ex J κ (.Call (.Name "list" p) [a] [] pos) (.ow 0) (primM (ro (nl gList)) [.sh] fr) κ1 := ex_callTy call_list_of (prim_newL (n := 1) nl_list) hg hm (by decide +kernel) hev hst (by decide) (by decide) hpl
theorem ex_listD (hg : Gl J.X "list") (hm : J.X.mg "list" = none) (hev : Ev J κ [a] [.sh] fr κ1) (hhot : J.hot = false := by rfl) (hst : noStar [a] = true := by rfl) (hpl : (backTo pos (starEach [] J.X.env)).any (·.1) = false := by rfl) :
    Ex J κ (.Call (.Name "list" p) [a] [] pos) (.ow 0) (primM (ro (nl gKeys)) [.sh] fr) κ1 := ex_callTy (call_listD (J.calm hhot)) (prim_newL (n := 1) nl_keys) hg hm (by decide +kernel) hev hst (by decide) (by decide) hpl
/-- xs[lo:hi] of a list -/
def gSlL (lo hi : Option Int) : D → Option D
  | .lst xs => some (.lst (cutD xs lo hi))
  | .rol xs => some (.lst (cutD xs lo hi))
  | _ => none
def intsD : List D → Option (List Int)
  | [] => some []
  | .int i :: r => (intsD r).map (i :: ·)
  | _ => none
theorem intsD_den {G S H} : ∀ {ds ns vs}, intsD ds = some ns → DenL G S H ds vs → vs = ns.map V.int
  | [], ns, vs, e, h => by simp only [intsD] at e; cases e; simp only [DenL] at h; subst h; rfl
  | d :: ds, ns, vs, e, h => by
    cases d with
    | int i =>
      simp only [intsD] at e
      cases e2 : intsD ds with
      | none => rw [e2] at e; cases e
      | some r =>
        rw [e2] at e
        cases e
        simp only [DenL] at h
        obtain ⟨v, r', rfl, p, q⟩ := h
        simp only [Den] at p
        subst p
        rw [intsD_den e2 q]
        rfl
    | _ => simp only [intsD] at e; cases e
def gSum : List D → Option D
  | [x] => (seqOf' x).bind fun ds => match x with | .tup _ => none | _ => (intsD ds).map fun ns => .int ns.sum
  | _ => none
theorem lp_sum {G : Gx} : LeafP G (rSum G.K) gSum := fun S H ds vs d Q hg hd => by
  unfold gSum at hg
  split at hg
  · rename_i x
    obtain ⟨v, rfl, q⟩ := denL1 hd
    have fin : ∀ {xs a us}, v = .ref a → SqL G.K H a us → DenL G S H xs us → (intsD xs).map (fun ns => D.int ns.sum) = some d → ∃ w, vOf d = some w ∧ (Q w H → rSum G.K [v] H Q) := fun {xs a us} ev s dl e => by
      cases e2 : intsD xs with
      | none => rw [e2] at e; cases e
      | some ns =>
        rw [e2] at e
        cases e
        have := intsD_den e2 dl
        subst this ev
        exact ⟨_, rfl, fun z => ⟨a, ns, rfl, s, z⟩⟩
    cases x with
    | lst xs => obtain ⟨a, us, ev, s, dl⟩ := den_lst q; exact fin ev s dl hg
    | rol xs => obtain ⟨a, us, ev, s, dl⟩ := den_rol q; exact fin ev s dl hg
    | _ => cases hg
  · cases hg
theorem ex_sum (hg : Gl J.X "sum") (hm : J.X.mg "sum" = none) (hev : Ev J κ [a] [.sh] fr κ1) (hhot : J.hot = false := by rfl) (hst : noStar [a] = true := by rfl) (hpl : (backTo pos (starEach [] J.X.env)).any (·.1) = false := by rfl) :
    Ex J κ (.Call (.Name "sum" p) [a] [] pos) .sh (primM (ro gSum) [.sh] fr) κ1 := ex_callB (cr_sum (J.calm hhot)) (prim_leaf (ks := [.sh]) rfl lp_sum) hg hm (by decide +kernel) hev hst (by decide) (by decide) hpl
def gInt : List D → Option D
  | [.int i] => some (.int i)
  | [.bl b] => some (.int (if b then 1 else 0))
  | _ => none
theorem ex_int1 (hg : Gl J.X "int") (hm : J.X.mg "int" = none) (hev : Ev J κ [a] [.sh] fr κ1) (hst : noStar [a] = true := by rfl) (hpl : (backTo pos (starEach [] J.X.env)).any (·.1) = false := by rfl) :
    Ex J κ (.Call (.Name "int" p) [a] [] pos) .sh (primM (ro gInt) [.sh] fr) κ1 := ex_callTy call_int1 (prim_leaf (ks := [.sh]) rfl fun S H ds vs d Q hgd hd => by
  unfold gInt at hgd
  split at hgd
  · cases hgd
    obtain ⟨v, rfl, q⟩ := denL1 hd
    simp only [Den] at q; subst q
    exact ⟨_, rfl, fun z => .inl ⟨_, rfl, z⟩⟩
  · cases hgd
    obtain ⟨v, rfl, q⟩ := denL1 hd
    simp only [Den] at q; subst q
    exact ⟨_, rfl, fun z => .inr ⟨_, rfl, z⟩⟩
  · cases hgd) hg hm (by decide +kernel) hev hst (by decide) (by decide) hpl
end
end Rm
namespace Rm
open PySem PySem.Spec L2
/-- r on an owned list of what is shared: what is handed on, what the list is then -/
def WrP (G : Gx) (r : V → List V → Hp → VK → Prop) (g : List D → List D → Option (D × List D)) (n : Nat) : Prop := ∀ (S : Rg) (H : Hp) (xs args : List D) (a : Addr) (us vs : List V) (d : D) (xs' : List D) (Q : VK), g xs args = some (d, xs') → H a = some (.lst us) → DenL G S H xs us → DenL G S H args vs → args.length = n →
  ∃ us' w, DenL G S H xs' us' ∧ Den G S H d w ∧ (Q w (upd H a (.lst us')) → r (.ref a) vs H Q)
def wrG (g : List D → List D → Option (D × List D)) : List D → Option (D × List D)
  | .lst xs :: args => (g xs args).map fun p => (p.1, .lst p.2 :: args)
  | _ => none
theorem prim_wr {G : Gx} {r g} {n : Nat} (h : WrP G r g n) : Prim G (rM r) (.ow 0 :: List.replicate n .sh) .sh (wrG g) := by
  intro S H ds vs d os xs Q hg l1 l2 hr hq
  unfold wrG at hg
  split at hg
  · rename_i ys args
    cases eg : g ys args with
    | none => rw [eg] at hg; cases hg
    | some p =>
      obtain ⟨d', ys'⟩ := p
      rw [eg] at hg
      cases hg
      match vs, l2 with
      | v0 :: vs, l2 =>
        have l1' : args.length = n := by simpa using l1
        have l2' : vs.length = n := by simpa using l2
        have hr0 : Rel G S H (⟨.ow 0, .lst ys, some v0⟩ :: (ents (List.replicate n .sh) args (vs.map some) ++ xs)) := hr
        have hargs := rel_sh hr0.drop l1' l2'
        obtain ⟨a, us, rfl, ha, hA, wr⟩ := hr0.wrL
        obtain ⟨us', w, hu, hw, k⟩ := h S H ys args a us vs d' ys' Q eg ha hA hargs l1'
        obtain ⟨g1, r1⟩ := wr ys' us' hu
        refine k (hq S _ w g1 (by simpa using l1) ?_)
        have r2 := r1.push (hw.grow g1)
        exact Rel.outK (ks := .ow 0 :: List.replicate n .sh) (ds := .lst ys' :: args) (vs := .ref a :: vs) (T := [⟨.sh, d', some w⟩]) r2
  · cases hg
def gRev : List D → List D → Option (D × List D)
  | xs, [] => some (.non, xs.reverse)
  | _, _ => none
def gClear : List D → List D → Option (D × List D)
  | _, [] => some (.non, [])
  | _, _ => none
def gExt : List D → List D → Option (D × List D)
  | xs, [.lst ys] => if xs.length + ys.length ≤ lim then some (.non, xs ++ ys) else none
  | _, _ => none
theorem wr_rev {G} : WrP G rReverse gRev 0 := fun S H xs args a us vs d xs' Q hg ha hA hv hl => by
  unfold gRev at hg
  split at hg
  · cases hg
    simp only [DenL] at hv
    subst hv
    exact ⟨_, .non, denL_rev hA, by simp only [Den], fun z => ⟨a, us, rfl, rfl, ha, z⟩⟩
  · cases hg
theorem wr_clear {G} : WrP G rClear gClear 0 := fun S H xs args a us vs d xs' Q hg ha hA hv hl => by
  unfold gClear at hg
  split at hg
  · cases hg
    simp only [DenL] at hv
    subst hv
    exact ⟨[], .non, by simp only [DenL], by simp only [Den], fun z => ⟨a, us, rfl, rfl, ha, z⟩⟩
  · cases hg
section
variable {J : Jc} {κ κ1 κ2 κ3 κ' : List Kd} {a b c e : Expr} {es : List Expr} {pos p np apos cpos p2 : Pos} {fa fb : M D} {fr : M (List D)} {n : Nat} {xn : Str}
theorem ex_rev (i : Nat) (hN : J.X.N[i]? = some xn) (hvi : Vis J.X.env.scope xn) (hk : κ[i]? = some (.ow 0)) (hbase : attributeBase (.Name xn np) "reverse" J.X.env (eval (.Name xn np) J.X.env) = eval (.Name xn np) J.X.env := by rfl) (hline : (apos.endLine == cpos.line) = true := by rfl)
    (hdb : (xn == ("__debug__" : Str)) = false := by decide) (hcd : (xn == ("__classdict__" : Str)) = false := by decide) :
    Ex J κ (.Call (.Attribute (.Name xn np) "reverse" apos) [] [] cpos) .sh (methM "list" (wrG gRev) (.io i 0) [] (vr i) aNil) (backK [.io i 0] (κ.set i .un)) :=
  ex_bmI0 i 0 hN hvi hk PySem.F.plainAttrs_list PySem.F.slot_list_reverse PySem.F.type_list_reverse mt_reverse (by decide) (prim_wr wr_rev) hbase hline hdb hcd
theorem ex_clear (i : Nat) (hN : J.X.N[i]? = some xn) (hvi : Vis J.X.env.scope xn) (hk : κ[i]? = some (.ow 0)) (hbase : attributeBase (.Name xn np) "clear" J.X.env (eval (.Name xn np) J.X.env) = eval (.Name xn np) J.X.env := by rfl) (hline : (apos.endLine == cpos.line) = true := by rfl)
    (hdb : (xn == ("__debug__" : Str)) = false := by decide) (hcd : (xn == ("__classdict__" : Str)) = false := by decide) :
    Ex J κ (.Call (.Attribute (.Name xn np) "clear" apos) [] [] cpos) .sh (methM "list" (wrG gClear) (.io i 0) [] (vr i) aNil) (backK [.io i 0] (κ.set i .un)) :=
  ex_bmI0 i 0 hN hvi hk PySem.F.plainAttrs_list PySem.F.slot_list_clear PySem.F.type_list_clear mt_clear (by decide) (prim_wr wr_clear) hbase hline hdb hcd
def gLen2 : List D → Option D
  | [.dK kvs] => some (.int kvs.length)
  | ds => gLen ds
theorem ex_len2 {as : List Ak} (hg : Gl J.X "len") (hm : J.X.mg "len" = none) (hev : Ev J κ [a] as fr κ1) (hk : (as.map Ak.kd).all Kd.seen = true := by rfl) (hst : noStar [a] = true := by rfl) (hpl : (backTo pos (starEach [] J.X.env)).any (·.1) = false := by rfl) :
    Ex J κ (.Call (.Name "len" p) [a] [] pos) .sh (primM (ro gLen2) as fr) (backK as κ1) := by
  refine ex_callB (CallR.or (L2.call_len (X := J.X)) (r' := fun xs H Q => ∃ a kvs, xs = [V.ref a] ∧ Rd H a (.dK kvs) ∧ Q (.int kvs.length) H) ?_) (prim_leaf hk fun S H ds vs d Q hgd hd => ?_) hg hm PySem.boot_len hev hst (by decide) (by decide) hpl
  · intro pins s σ H xs us Q I r ⟨a, kvs, ex, rd, q⟩
    subst ex
    cases r with
    | cons ra rr =>
      cases rr
      cases ra
      exact d_len I rd fun t s' I' => ⟨.int kvs.length, H, I', ⟨t, rfl⟩, q⟩
  · unfold gLen2 at hgd
    split at hgd
    · cases hgd
      obtain ⟨v, rfl, q⟩ := denL1 hd
      obtain ⟨a, ws, rfl, rd, dk⟩ := den_dK q
      exact ⟨_, rfl, fun z => .inr ⟨a, ws, rfl, rd, by rw [denK_len dk]; exact z⟩⟩
    · obtain ⟨w, e, k⟩ := lp_len (G := J.G) S H ds vs d Q hgd hd
      exact ⟨w, e, fun z => .inl (k z)⟩
def setDM (i : Nat) (gk : List D → Option D) (fe : M D) : M Fl := fun e => (fe e).bind fun d e => match e[i]?, (gk e).bind keyD with
  | some (.dK ds), some k => if ds.length < lim then .ok .nx (e.set i (.dK (putD ds k d))) else .stuck
  | _, _ => .stuck
theorem sx_setD {ke : Expr} {pos' : Pos} {gk : List D → Option D} {fe : M D} {i : Nat} (hr : Room n J.X.A) (hN : J.X.N[i]? = some xn) (hvi : Vis J.X.env.scope xn) (he : Ex J κ e .sh fe κ1) (hk : κ1[i]? = some (.ow 0)) (hx : Dx J κ1 ke gk)
    (hs : swapsWith e (some (.Subscript (.Name xn np) ke pos')) pos.line J.X.env = pure false := by rfl) (hdb : (xn == ("__debug__" : Str)) = false := by decide) (hcd : (xn == ("__classdict__" : Str)) = false := by decide) :
    Sx J κ (.Assign [.Subscript (.Name xn np) ke pos'] e pos) (setDM i gk fe) κ1 := by
  obtain ⟨t, p, q⟩ := he.ex
  obtain ⟨tk, pk, qk⟩ := hx.ex
  refine ⟨_, ps_dput (hu1 hr) (pe_var hN hvi hdb hcd) pk p hs, fun R S H σ env D h hq => q _ _ _ _ _ _ h ((SReq.bind hq).mono fun d e1 _ z S1 H1 v g1 r1 => ?_)⟩
  have hvl : Vl J.G S1 H1 κ1 e1 σ := (show Rl J.G S1 H1 κ1 e1 σ R from r1.drop).vl
  split at z
  · rename_i ds k ed ek
    split at z
    · rename_i hlim
      obtain ⟨w, hw, h'⟩ := r1.take hk ed
      have r2 := h' (.dK ds)
      rw [List.set_self' ed] at r2
      have r3 : Rel J.G S1 H1 (⟨.sh, d, some v⟩ :: ⟨.ow 0, .dK ds, some w⟩ :: (R ++ ents (κ1.set i .un) e1 σ)) := r2.rel.perm (.swap ..)
      have hd := r3.shared
      obtain ⟨a, ws, rfl, ea, dk, wr⟩ := r3.drop.wrK
      obtain ⟨g2, r4⟩ := wr _ _ (denK_put (k := k) hd dk)
      cases edk : gk e1 with
      | none => rw [edk] at ek; cases ek
      | some dk' =>
        rw [edk] at ek
        obtain ⟨vk, dkn, run⟩ := qk S1 H1 σ e1 hvl dk' edk
        have e1' := keyD_den ek dkn
        refine ⟨_, hw, run H1 _ (fun _ => rfl) ⟨a, _, rfl, .inl ⟨ws, k, ea, e1', by rw [denK_len dk]; exact lim_lt (Nat.le_of_lt hlim), rfl⟩, ?_⟩⟩
        have r5 : Rl J.G S1 _ (κ1.set i .un) e1 σ (⟨.ow 0, .dK (putD ds k d), some (.ref a)⟩ :: R) := ⟨r2.l1, r2.l2, r4⟩
        have r6 := r5.put (i := i) (k0 := .un) (d0 := .dK ds) (by rw [List.getElem?_set_self]; exact (List.getElem?_eq_some_iff.mp hk).1) ed hw
        rw [List.set_set, List.set_self' hk] at r6
        have z : ∀ S' H' σ', Grow S H S' H' → Fix J.kx σ σ' → Rl J.G S' H' κ1 (e1.set i (.dK (putD ds k d))) σ' R → D.nx σ' H' := z
        exact z S1 _ σ (g1.trans g2) .refl r6
    · exact z.elim
  · exact z.elim
end
end Rm
namespace Rm
open PySem PySem.Spec L2
def gSplit : List D → Option (List D)
  | [.str a, .str b] => if (b.length == 0) = false ∧ a.length + 2 ≤ lim then some ((Txt.split a b).map .str) else none
  | _ => none
section
variable {J : Jc} {κ κ1 κ2 κ3 κ' : List Kd} {a b c e x : Expr} {es tys : List Expr} {pos p np apos cpos p2 tpos : Pos} {fa fb fo : M D} {fr : M (List D)} {n : Nat} {xn : Str} {as : List Ak}
end
end Rm
namespace Rm
open PySem PySem.Spec L2
def enumD (xs : List D) : List D := xs.mapIdx fun i d => .tup [.int (i : Nat), d]
def enumM (f : M D) : M (List D) := fun e => (f e).bind fun d e => match d with | .lst ds => .ok (enumD ds) e | .rol ds => .ok (enumD ds) e | _ => .stuck
def gTuple : List D → Option D
  | [x] => (seqOf' x).map .tup
  | _ => none
theorem prim_tuple {G : Gx} : Prim G (fun xs H Q => ∃ p ys, xs = [V.ref p] ∧ ((SqL G.K H p ys ∧ ∀ l, H l = none → Q (.ref l) (upd H l (.tup ys))) ∨ (SqT G.K H p ys ∧ Q (.ref p) H))) [.sh] .sh (ro gTuple) := by
  intro S H ds vs d os xs Q hg l1 l2 hr hq
  unfold ro at hg
  cases eg : gTuple ds with
  | none => rw [eg] at hg; cases hg
  | some d' =>
    rw [eg] at hg
    cases hg
    match ds, vs, l1, l2 with
    | [x], [v], _, _ =>
      have hx : Den G S H x v := (show Rel G S H (⟨.sh, x, some v⟩ :: xs) from hr).shared
      have fin : ∀ {ys us a}, v = .ref a → SqL G.K H a us → DenL G S H ys us → d = D.tup ys → ∃ p zs, [v] = [V.ref p] ∧ ((SqL G.K H p zs ∧ ∀ l, H l = none → Q (.ref l) (upd H l (.tup zs))) ∨ (SqT G.K H p zs ∧ Q (.ref p) H)) := fun {ys us a} ev s dl ed => by
        subst ev ed
        refine ⟨a, us, rfl, .inl ⟨s, fun l hl => ?_⟩⟩
        obtain ⟨S2, g, r⟩ := hr.newTup hl dl
        exact hq S2 _ _ g rfl (Rel.outK (ks := [.sh]) (ds := [x]) (vs := [.ref a]) (T := [⟨.sh, .tup ys, some (.ref l)⟩]) r)
      cases x with
      | lst ys => cases eg; obtain ⟨a, us, ev, s, dl⟩ := den_lst hx; exact fin ev s dl rfl
      | rol ys => cases eg; obtain ⟨a, us, ev, s, dl⟩ := den_rol hx; exact fin ev s dl rfl
      | tup ys =>
        cases eg
        obtain ⟨a, us, rfl, s, dl⟩ := den_tup hx
        exact ⟨a, us, rfl, .inr ⟨s, hq S H _ .refl rfl ((Rel.outK (ks := [.sh]) (ds := [.tup ys]) (vs := [.ref a]) (T := []) hr).push hx)⟩⟩
      | _ => cases eg
section
variable {J : Jc} {κ κ1 κ2 κ3 κ' : List Kd} {a b c e x : Expr} {es tys elts : List Expr} {pos p np apos cpos p2 tpos : Pos} {fa fb fo f : M D} {fr : M (List D)} {n kk : Nat} {xn : Str} {as : List Ak}
theorem ex_tuple (hg : Gl J.X "tuple") (hm : J.X.mg "tuple" = none) (hev : Ev J κ [a] [.sh] fr κ1) (hst : noStar [a] = true := by rfl) (hpl : (backTo pos (starEach [] J.X.env)).any (·.1) = false := by rfl) :
    Ex J κ (.Call (.Name "tuple" p) [a] [] pos) .sh (primM (ro gTuple) [.sh] fr) κ1 := ex_callTy call_tuple_of prim_tuple hg hm (by decide +kernel) hev hst (by decide) (by decide) hpl
end
end Rm
namespace Rm
open PySem PySem.Spec L2
def meth2M (T : String) (g : List D → Option (D × List D)) (i : Nat) (as : List Ak) (fr : M (List D)) : M D := fun e => match e[i]? with
  | some d0 => if tyD T d0 = true then (fr e).bind fun ds e => match e[i]? with
    | some d1 => match g (d1 :: ds) with
      | some (d, o :: os) => .ok d (backE as os (e.set i o))
      | _ => .stuck
    | none => .stuck
    else .stuck
  | none => .stuck
section
variable {J : Jc} {κ κ1 κ2 κ3 κ' : List Kd} {a b c e x : Expr} {es : List Expr} {pos p np apos cpos : Pos} {fr : M (List D)} {n : Nat} {xn : Str} {as : List Ak} {k : Kd} {g : List D → Option (D × List D)} {T id : String} {name : Str}
theorem ex_bm2 (i : Nat) (j : Own) {r : V → List V → Hp → VK → Prop} (hN : J.X.N[i]? = some xn) (hvi : Vis J.X.env.scope xn) (hk : κ[i]? = some (.ow j)) (pa : PlainAttrs T) (slot : Slot T name id) (hty : typeOf (.builtin id) = pure (.type "method_descriptor")) (hm : MtR J.X id r) (hd : T ≠ "dict") (hp : Prim J.G (Rm.rM r) (.ow j :: as.map Ak.kd) k g)
    (hev : Ev J κ (e :: es) as fr κ2) (hk2 : κ2[i]? = some (.ow j)) (hsh : as.all (· == .sh) = true := by rfl) (hst : noStar (e :: es) = true := by rfl)
    (hbase : attributeBase (.Name xn np) name J.X.env (eval (.Name xn np) J.X.env) = eval (.Name xn np) J.X.env := by rfl)
    (hfew : ((backTo cpos (starEach (e :: es) J.X.env)).all (fun x => !x.1) && (backToKw cpos (keywordEach [] J.X.env)).all (fun x => x.1.isSome)
      && decide ((e :: es).length + ([] : List Keyword).length + (if ([] : List Keyword).isEmpty then 0 else 1) < 30)) = true := by rfl)
    (hline : (apos.endLine == cpos.line) = true := by rfl) (hplain : (backTo cpos (starEach es J.X.env)).any (·.1) = false := by rfl)
    (hdb : (xn == ("__debug__" : Str)) = false := by decide) (hcd : (xn == ("__classdict__" : Str)) = false := by decide) :
    Ex J κ (.Call (.Attribute (.Name xn np) name apos) (e :: es) [] cpos) k (meth2M T g i as fr) κ2 := by
  obtain ⟨ts, pts, rt⟩ := hev.ex
  refine ⟨_, pe_bm pa slot hty hm (pe_var hN hvi hdb hcd) (spl_of pts (star_pl hst)) hbase hfew hline (star_pl hst [] e es rfl) hplain, fun R S H σ env Q h hq => ?_⟩
  unfold meth2M at hq
  cases ed : env[i]? with
  | none => rw [ed] at hq; exact hq.elim
  | some d0 =>
    rw [ed] at hq
    simp only at hq
    obtain ⟨v0, hv, h'⟩ := h.take hk ed
    have r1 := h' d0
    rw [List.set_self' ed] at r1
    refine ⟨v0, hv, ?_⟩
    by_cases ht : tyD T d0 = true
    · rw [if_pos ht] at hq
      have t0 : tyV J.X.K T v0 H := by
        obtain ⟨al, L, q⟩ := r1.rel
        cases q with
        | cons he _ _ _ =>
          obtain ⟨w, e, q⟩ := he
          cases e
          exact tyD_ow q ht hd
      refine ⟨t0, rt _ _ _ _ _ _ h ((Req.bind hq).mono fun ds e2 _ z2 S2 H2 vs g2 ok r2 => ?_)⟩
      have l := ok.len
      cases ed2 : e2[i]? with
      | none => rw [ed2] at z2; exact z2.elim
      | some d1 =>
        rw [ed2] at z2
        simp only at z2
        obtain ⟨v1, hv1, h2'⟩ := r2.take hk2 ed2
        rw [hv] at hv1
        cases hv1
        have r3 := h2' d1
        rw [List.set_self' ed2] at r3
        have rel2 : Rel J.G S2 H2 (ents (.ow j :: as.map Ak.kd) (d1 :: ds) ((v0 :: vs).map some) ++ (R ++ ents (κ2.set i .un) e2 σ)) := by
          refine r3.rel.perm ?_
          simp only [List.map_cons, ents, List.cons_append, List.append_assoc]
          exact .refl _
        cases eg : g (d1 :: ds) with
        | none => rw [eg] at z2; exact z2.elim
        | some pr =>
          obtain ⟨d, os⟩ := pr
          rw [eg] at z2
          cases os with
          | nil => exact z2.elim
          | cons o os =>
            refine hp S2 H2 (d1 :: ds) (v0 :: vs) d (o :: os) (R ++ ents (κ2.set i .un) e2 σ) Q eg (by simp [l.1]) (by simp [l.2]) rel2 fun S3 H3 w g3 le r4 => ?_
            have ok' : AOk (.io i j :: as) (d1 :: ds) (v0 :: vs) σ := ⟨hv, ok⟩
            have r5 := Rl.back (as := .io i j :: as) (os := o :: os) (T := [⟨k, d, some w⟩]) (κ := κ2.set i .un) (e := e2) (R := R) ok' (by simpa using le) ⟨r3.l1, r3.l2, by simpa only [List.map_cons, Ak.kd, List.cons_append, List.nil_append, List.append_assoc] using r4⟩
            have eκ : ∀ {as : List Ak} {κ : List Kd}, as.all (· == .sh) = true → backK as κ = κ := by
              intro as
              induction as with
              | nil => intro κ _; rfl
              | cons a as ih =>
                intro κ hs
                simp only [List.all_cons, Bool.and_eq_true, beq_iff_eq] at hs
                obtain ⟨rfl, hs⟩ := hs
                exact ih hs
            have r6 : Rl J.G S3 H3 (backK as ((κ2.set i .un).set i (.ow j))) (backE as os (e2.set i o)) σ (⟨k, d, some w⟩ :: R) := r5
            rw [eκ hsh, List.set_set, List.set_self' hk2] at r6
            exact z2 S3 H3 w (g2.trans g3) r6
    · rw [if_neg ht] at hq
      exact hq.elim
theorem Rel.newDKn {G : Gx} {S H xs} {p : Addr} (j : Nat) (h : Rel G S H xs) (hp : H p = none) : Grow S H S (upd H p (.dK [])) ∧ Rel G S (upd H p (.dK [])) (⟨.ow (.n j), .dK [], some (.ref p)⟩ :: xs) := by
  have ns : ¬ S p := fun s => h.1.al p s hp
  have g : Grow S H S (upd H p (.dK [])) := Grow.of fun a s => ⟨s, upd_ne fun e => ns (e ▸ s)⟩
  refine Rel.step0 (ys := [⟨.ow (.n j), .dK [], some (.ref p)⟩]) h g (fun a n => .inr (upd_ne fun e => n (e ▸ hp))) (fun a s => .inl s) (fun a s => by
    have e : upd H p (.dK []) a = H a := upd_ne (fun e => ns (e ▸ s))
    rw [e]; exact h.1.al a s) ⟨[p] ++ [], fun a m => ?_, .cons ⟨_, rfl, ?_⟩ (by simp) (fun a m => ?_) .nil⟩
  · simp at m; subst m; exact hp
  · exact ⟨p, [], [], rfl, upd_same, rfl, rfl, ⟨rfl, rfl⟩⟩
  · simp at m; subst m
    exact ⟨ns, by rw [upd_same]; simp, by simp⟩
theorem ex_dictN (j : Nat) : Ex J κ (.Dict [] [] pos) (.ow (.n j)) (cn (.dK [])) κ :=
  ⟨tDNewK, pe_dnewK, fun R S H σ env Q h hq p hp => by
    obtain ⟨g, r⟩ := h.rel.newDKn j hp
    exact hq S _ _ g ⟨h.l1, h.l2, r⟩⟩
end
theorem Sx.cv {J : Jc} {κ κ1 κ' : List Kd} {st : Stmt} {f : M Fl} (h : Sx J κ st f κ') (q : κ' = κ1) : Sx J κ st f κ1 := q ▸ h
theorem Ex.cv {J : Jc} {κ κ1 κ' : List Kd} {e : Expr} {k : Kd} {f : M D} (h : Ex J κ e k f κ') (q : κ' = κ1) : Ex J κ e k f κ1 := q ▸ h
end Rm
namespace Rm
open PySem PySem.Spec L2
section
variable {J : Jc} {κ κ1 : List Kd} {a b : Expr} {pos p : Pos} {fr : M (List D)} {as : List Ak} {c : Nat} {x : Str}
end
end Rm
namespace Rm
open PySem PySem.Spec PyProof.Rows L2
theorem pick_one (items : Array Value) : slicePick items none none (some 1) = items := by
  unfold slicePick
  have e : sliceBounds none none (some 1) items.size = (0, (items.size : Int), 1) := by first | rfl | simp [sliceBounds]
  rw [e]
  have e2 : sliceRange (0 : Int) (items.size : Int) 1 = List.range items.size := by
    unfold sliceRange
    have h1 : ((1 : Int) > 0) := by decide
    by_cases h : (0 : Int) < (items.size : Int)
    · have e : ((items.size : Int) - 0 + 1 - 1) / 1 = (items.size : Int) := by rw [Int.ediv_one]; omega
      simp only [h1, if_true, h, e, Int.toNat_natCast]
      refine (List.map_congr_left (g := id) fun k hk => ?_).trans (List.map_id _)
      show (0 + 1 * (k : Int)).toNat = k
      omega
    · have e : items.size = 0 := by omega
      rw [e]
      simp
  show ((sliceRange (0 : Int) (items.size : Int) 1).filterMap (items[·]?)).toArray = _
  rw [e2, PySem.W.krv_all]
def stepV (i : Int) (xs : List V) : List V := if i = 1 then xs else xs.reverse
def tStL (K : PySem.W.Frag) (te ts : TE) : TE := fun σ H Q => te σ H fun x H1 => ts σ H1 fun y H2 => ∃ (a : Addr) (xs : List V) (i : Int), x = .ref a ∧ y = .int i ∧ (i = 1 ∨ i = -1) ∧ SqL K H2 a xs ∧ ∀ p, H2 p = none → Q (.ref p) (upd H2 p (.lst (stepV i xs)))
theorem pe_stL {X : Cx} {e st : Expr} {te ts : TE} {p3 pos : Pos} (he : PE X e te) (hs : PE X st ts) : PE X (.Subscript e (.Slice none none (some st) p3) pos) (tStL X.K te ts) := by
  refine ⟨fun pins s σ H Q I h => ?_⟩
  refine Subscript_ (thn (he.run pins s σ H _ I h) fun v s1 ⟨x, H1, I1, r1, q1⟩ => ?_)
  refine wpAny_Slice (thn (po_none.run pins s1 σ H1 (fun o H2 => o = none ∧ H2 = H1) I1 ⟨rfl, rfl⟩) fun vl s2 ⟨l, H2, I2, pl, el, e2⟩ => ?_)
  subst el e2
  refine thn (po_none.run pins s2 σ H2 (fun o H3 => o = none ∧ H3 = H2) I2 ⟨rfl, rfl⟩) fun vu s3 ⟨u, H3, I3, pu, eu, e3⟩ => ?_
  subst eu e3
  rw [evalPart_some]
  refine thn (hs.run pins s3 σ H3 _ I3 q1) fun vs s4 ⟨y, H4, I4, r4, q4⟩ => ?_
  obtain ⟨a, xs, i, ex, ey, hi, hx, q⟩ := q4
  subst ex ey
  cases r1
  obtain ⟨ti, rfl⟩ := r4
  have I5 : Inv X pins σ H4 { s4 with heap := s4.heap.push { cls := .type "slice", data := .fields #[vl, vu, .int i ti] } } := I4.kept (t' := s4.toks) fun b ob q => Heap.get?_push_of_some _ q
  obtain ⟨its, r, ht, hz⟩ := I5.list hx
  have hlen := r.length
  show wpAny (model X.prog X.w) X.A (subscriptTail e (.Slice none none (some st) p3) (.ref a) (.ref s4.heap.objs.size)) (EP X pins σ Q) X.xe { s4 with heap := s4.heap.push { cls := .type "slice", data := .fields #[vl, vu, .int i ti] } }
  refine tail_any (ops := [.ref a, .ref s4.heap.objs.size]) ht.isList.typeIs (PySem.slot_list_getitem.lookup) ?_ (by with_unfolding_all rfl)
  refine wpAny_getItem_list_slice ht.isList (Heap.IsSliceOf.new _ vl vu (.int i ti)) pl pu (IsPart.int i ti) (by rcases hi with rfl | rfl <;> decide) ?_ (by rw [List.size_toArray]; omega)
  refine ⟨.ref _, _, I5.laid (t' := s4.toks) (o := .lst (stepV i xs)) (fun b ob q => Heap.get?_push_of_some _ q) (Nat.le_refl _) ?_, rfl, q _ (I5.hok.fresh (Nat.le_refl _))⟩
  rcases hi with rfl | rfl
  · rw [pick_one]
    exact ⟨hz, _, 0, r, Heap.get?_push_size _ rfl⟩
  · rw [PySem.W.krv_pick]
    exact ⟨by show xs.reverse.length ≤ _; rw [List.length_reverse]; exact hz, _, 0, r.reverse, Heap.get?_push_size _ rfl⟩
def gStep : D → D → Option (List D)
  | .lst xs, .int i => if i = 1 then some xs else if i = -1 then some xs.reverse else none
  | .rol xs, .int i => if i = 1 then some xs else if i = -1 then some xs.reverse else none
  | _, _ => none
def stM (f g : M D) : M D := fun e => (f e).bind fun d e => (g e).bind fun i e => match gStep d i with | some xs => .ok (.lst xs) e | none => .stuck
section
variable {J : Jc} {κ κ1 κ2 κ3 κ' : List Kd} {a b c e st : Expr} {es : List Expr} {pos p p3 : Pos} {fa fb : M D}
theorem ex_st (he : Ex J κ e .sh fa κ1) (hs : Ex J κ1 st .sh fb κ2) : Ex J κ (.Subscript e (.Slice none none (some st) p3) pos) (.ow 0) (stM fa fb) κ2 := by
  obtain ⟨t, p, q⟩ := he.ex
  obtain ⟨ts, ps, qs⟩ := hs.ex
  refine ⟨_, pe_stL p ps, fun R S H σ env Q h hq => q _ _ _ _ _ _ h (hq.bind.mono fun d e1 _ z S1 H1 v g1 r1 => ?_)⟩
  refine qs _ _ _ _ _ _ r1 (((z.bind.later g1).tmp _).mono fun l e2 _ z2 S2 H2 y g2 r2 => ?_)
  have hy := r2.rel.shared
  have r3 := r2.drop
  have hd := r3.rel.shared
  cases l with
  | int i =>
    simp only [Den] at hy
    subst hy
    have fin : ∀ {a xs us ds'}, v = .ref a → SqL J.X.K H2 a us → DenL J.G S2 H2 xs us → gStep d (.int i) = some ds' → (gStep d (.int i) = if i = 1 then some xs else if i = -1 then some xs.reverse else none) → ∃ (a : Addr) (xs : List V) (j : Int), v = .ref a ∧ V.int i = .int j ∧ (j = 1 ∨ j = -1) ∧ SqL J.X.K H2 a xs ∧ ∀ p, H2 p = none → Q (.ref p) (upd H2 p (.lst (stepV j xs))) := fun {a xs us ds'} ev s dl eg ee => by
      subst ev
      rw [eg] at z2 ee
      have hi : i = 1 ∨ i = -1 := by
        by_cases h1 : i = 1
        · exact .inl h1
        · by_cases h2 : i = -1
          · exact .inr h2
          · rw [if_neg h1, if_neg h2] at ee; cases ee
      refine ⟨a, us, i, rfl, rfl, hi, s, fun p hp => ?_⟩
      have dl' : DenL J.G S2 H2 ds' (stepV i us) := by
        unfold stepV
        by_cases h1 : i = 1
        · rw [if_pos h1] at ee ⊢; cases ee; exact dl
        · rw [if_neg h1] at ee ⊢
          by_cases h2 : i = -1
          · rw [if_pos h2] at ee; cases ee; exact denL_rev dl
          · rw [if_neg h2] at ee; cases ee
      obtain ⟨g4, r4⟩ := (show Rel J.G S2 H2 _ from r3.rel).drop.newList hp dl'
      exact z2 S2 _ _ ((g1.trans g2).trans g4) ⟨r3.l1, r3.l2, r4⟩
    cases d with
    | lst xs =>
      obtain ⟨a, us, ev, s, dl⟩ := den_lst hd
      cases eg : gStep (.lst xs) (.int i) with
      | none => rw [eg] at z2; exact z2.elim
      | some ds' => exact fin ev s dl eg rfl
    | rol xs =>
      obtain ⟨a, us, ev, s, dl⟩ := den_rol hd
      cases eg : gStep (.rol xs) (.int i) with
      | none => rw [eg] at z2; exact z2.elim
      | some ds' => exact fin ev s dl eg rfl
    | _ => exact z2.elim
  | _ => cases d <;> exact z2.elim
end
end Rm
namespace Rm
open PySem PySem.Spec L2
/-- classes (with what they come from) of which isinstance may ask -/
abbrev ClT := List (Nat × List Nat)
structure IsF (G : Gx0) (cs : ClT) : Prop where
  cl : ∀ p ∈ cs, Cls G.K (G.cl p.1) ∧ PySem.W.findIn G.K (.ref (G.cl p.1)) "__class__" = some (some (.builtin "object.__class__")) ∧ PySem.W.mroIn G.K (G.cl p.1) (.type "object") = some true
  gt : PySem.W.specialIn G.K (.builtin "object.__class__") "__get__" = some (some (.builtin "getset_descriptor.__get__"))
  tk : PySem.W.takesIn G.K (.builtin "object.__class__") = some true
  oo : ∀ p ∈ cs, ∀ q ∈ cs, PySem.W.kitOne G.K (.ref (G.cl p.1)) (.ref (G.cl q.1)) = some (p.2.contains q.1)
  bo : ∀ t ∈ isiTs, ∀ q ∈ cs, PySem.W.kitOne G.K (.type t) (.ref (G.cl q.1)) = some false
  ob : ∀ p ∈ cs, ∀ t ∈ isiTs, PySem.W.kitOne G.K (.ref (G.cl p.1)) (.type t) = some false
/-- .. as a Bool of what stands written -/
def clsB (K : PySem.W.Frag) (C : Addr) : Bool := PySem.W.plainGet K C Str.empty && (PySem.W.hasDictIn K C && (PySem.W.plainOver K C && decide (PySem.W.findIn K (.ref C) "__setattr__" = some (some (.builtin "object.__setattr__")))))
def isfB (cl : Nat → Addr) (cs : ClT) (K : PySem.W.Frag) : Bool :=
  (cs.all fun p => clsB K (cl p.1) && (decide (PySem.W.findIn K (.ref (cl p.1)) "__class__" = some (some (.builtin "object.__class__"))) && decide (PySem.W.mroIn K (cl p.1) (.type "object") = some true))) &&
  (decide (PySem.W.specialIn K (.builtin "object.__class__") "__get__" = some (some (.builtin "getset_descriptor.__get__"))) &&
  (decide (PySem.W.takesIn K (.builtin "object.__class__") = some true) &&
  ((cs.all fun p => cs.all fun q => decide (PySem.W.kitOne K (.ref (cl p.1)) (.ref (cl q.1)) = some (p.2.contains q.1))) &&
  ((isiTs.all fun t => cs.all fun q => decide (PySem.W.kitOne K (.type t) (.ref (cl q.1)) = some false)) &&
  (cs.all fun p => isiTs.all fun t => decide (PySem.W.kitOne K (.ref (cl p.1)) (.type t) = some false))))))
theorem clsB_ok {K : PySem.W.Frag} {C : Addr} (h : clsB K C = true) : Cls K C := by
  unfold clsB at h
  simp only [Bool.and_eq_true, decide_eq_true_eq] at h
  exact ⟨h.1, h.2.1, h.2.2.1, h.2.2.2⟩
theorem isfB_ok {K : PySem.W.Frag} {cl fa : Nat → Addr} {cs : ClT} (h : isfB cl cs K = true) : IsF ⟨K, cl, fa⟩ cs := by
  unfold isfB at h
  simp only [Bool.and_eq_true, decide_eq_true_eq, List.all_eq_true] at h
  obtain ⟨h1, h2, h3, h4, h5, h6⟩ := h
  exact ⟨fun p m => ⟨clsB_ok (h1 p m).1, (h1 p m).2.1, (h1 p m).2.2⟩, h2, h3, h4, h5, h6⟩
def tcD : D → Option (String ⊕ Nat)
  | .ins c _ => some (.inr c)
  | .tok _ (.ins c _) => some (.inr c)
  | .tok _ d => (typN d).map .inl
  | d => (typN d).map .inl
def clD : D → Option (String ⊕ Nat)
  | .ty n => some (.inl n)
  | .cls c => some (.inr c)
  | _ => none
def isB (cs : ClT) : String ⊕ Nat → String ⊕ Nat → Option Bool
  | .inl t, .inl n => if isiTs.contains n = true then some (isiB t n) else none
  | .inl _, .inr c => if (cs.lookup c).isSome = true then some false else none
  | .inr c, .inl n => if (cs.lookup c).isSome = true ∧ isiTs.contains n = true then some false else none
  | .inr c, .inr c2 => (cs.lookup c).bind fun an => if (cs.lookup c2).isSome = true then some (an.contains c2) else none
def gIsi2 (cs : ClT) : List D → Option D
  | [x, c] => (tcD x).bind fun t => (clD c).bind fun u => (isB cs t u).map .bl
  | _ => none
def tcV (G : Gx0) : String ⊕ Nat → Value | .inl t => .type t | .inr c => .ref (G.cl c)
theorem lookup_mem {c : Nat} {an : List Nat} : ∀ {cs : ClT}, cs.lookup c = some an → (c, an) ∈ cs
  | [], h => by cases h
  | (d, a) :: cs, h => by
    by_cases e : c = d
    · subst e
      simp [List.lookup] at h
      subst h
      simp
    · have : (c == d) = false := by simpa using e
      simp only [List.lookup, this] at h
      exact List.mem_cons_of_mem _ (lookup_mem h)
theorem isB_ok {G : Gx0} {cs : ClT} (F : IsF G cs) {t u : String ⊕ Nat} {b : Bool} (ht : ∀ s, t = .inl s → s ∈ isiTs) (h : isB cs t u = some b) : PySem.W.kitOne G.K (tcV G t) (tcV G u) = some b := by
  cases t with
  | inl t =>
    cases u with
    | inl n =>
      simp only [isB] at h
      split at h
      · rename_i hn
        cases h
        exact kit_ty (isiB_ok t (ht t rfl) n (by simpa using hn))
      · cases h
    | inr c =>
      simp only [isB] at h
      split at h
      · rename_i hn
        cases h
        obtain ⟨an, e⟩ := Option.isSome_iff_exists.mp hn
        exact F.bo t (ht t rfl) _ (lookup_mem e)
      · cases h
  | inr c =>
    cases u with
    | inl n =>
      simp only [isB] at h
      split at h
      · rename_i hn
        cases h
        obtain ⟨an, e⟩ := Option.isSome_iff_exists.mp hn.1
        exact F.ob _ (lookup_mem e) n (by simpa using hn.2)
      · cases h
    | inr c2 =>
      simp only [isB] at h
      cases e : cs.lookup c with
      | none => rw [e] at h; cases h
      | some an =>
        rw [e, Option.bind_some] at h
        split at h
        · rename_i hn
          cases h
          obtain ⟨an2, e2⟩ := Option.isSome_iff_exists.mp hn
          exact F.oo _ (lookup_mem e) _ (lookup_mem e2)
        · cases h
theorem clD_ok {G : Gx0} {S H d v u} (h : clD d = some u) (q : Den G S H d v) : ClsV v (tcV G u) := by
  cases d <;> simp only [clD, reduceCtorEq, Option.some.injEq] at h
  · subst h; simp only [Den] at q; subst q; exact .ty _
  · subst h; simp only [Den] at q; subst q; exact .own _
theorem tcD_ok {G : Gx0} {cs : ClT} (F : IsF G cs) {S H d v t} (h : tcD d = some t) (hc : ∀ c, t = .inr c → (cs.lookup c).isSome = true) (q : Den G S H d v) : TyX G.K H v (tcV G t) ∧ ∀ s, t = .inl s → s ∈ isiTs := by
  cases d with
  | ins c fs =>
    simp only [tcD, Option.some.injEq] at h
    subst h
    simp only [Den] at q
    obtain ⟨a, dx, ws, rfl, _, _, e, _⟩ := q
    obtain ⟨an, el⟩ := Option.isSome_iff_exists.mp (hc c rfl)
    obtain ⟨k1, k2, k3⟩ := F.cl _ (lookup_mem el)
    exact ⟨.base (TyOf.ins e k1 k2 F.gt F.tk k3), fun s e => by cases e⟩
  | tok a d =>
    simp only [Den] at q
    obtain ⟨rfl, q⟩ := q
    cases d with
    | ins c fs =>
      simp only [tcD, Option.some.injEq] at h
      subst h
      simp only [Den] at q
      obtain ⟨a, dx, ws, e0, _, _, e, _⟩ := q
      cases e0
      obtain ⟨an, el⟩ := Option.isSome_iff_exists.mp (hc c rfl)
      obtain ⟨k1, k2, k3⟩ := F.cl _ (lookup_mem el)
      exact ⟨.base (TyOf.ins e k1 k2 F.gt F.tk k3), fun s e => by cases e⟩
    | _ =>
      simp only [tcD, Option.map_eq_some_iff] at h
      obtain ⟨s, e, rfl⟩ := h
      exact ⟨tyx_of e q, fun s' e' => by cases e'; exact typN_mem e⟩
  | _ =>
    simp only [tcD, Option.map_eq_some_iff] at h
    obtain ⟨s, e, rfl⟩ := h
    exact ⟨tyx_of e q, fun s' e' => by cases e'; exact typN_mem e⟩
theorem isB_dom {cs : ClT} {t u b} (h : isB cs t u = some b) : ∀ c, t = .inr c → (cs.lookup c).isSome = true := by
  rintro c rfl
  cases u with
  | inl n =>
    simp only [isB] at h
    split at h
    · rename_i hn; exact hn.1
    · cases h
  | inr c2 =>
    simp only [isB] at h
    cases e : cs.lookup c with
    | none => rw [e] at h; cases h
    | some an => rfl
theorem lp_isi2 {G : Gx} {cs : ClT} (F : IsF G.toGx0 cs) : LeafP G (rIsi G.K) (gIsi2 cs) := fun S H ds vs d Q hgd hd => by
  unfold gIsi2 at hgd
  split at hgd
  · rename_i x c
    obtain ⟨v, u, rfl, p, q⟩ := denL2 hd
    cases e1 : tcD x with
    | none => rw [e1] at hgd; cases hgd
    | some t =>
      rw [e1, Option.bind_some] at hgd
      cases e2 : clD c with
      | none => rw [e2] at hgd; cases hgd
      | some k =>
        rw [e2, Option.bind_some] at hgd
        cases e3 : isB cs t k with
        | none => rw [e3] at hgd; cases hgd
        | some b =>
          rw [e3] at hgd
          cases hgd
          obtain ⟨ty, hs⟩ := tcD_ok F e1 (isB_dom e3) p
          exact ⟨_, rfl, fun z => ⟨v, u, _, _, b, rfl, clD_ok e2 q, ty, isB_ok F hs e3, z⟩⟩
  · cases hgd
def clsD : List D → Option (List (String ⊕ Nat))
  | [] => some []
  | d :: r => (clD d).bind fun u => (clsD r).map (u :: ·)
def anyB (cs : ClT) (t : String ⊕ Nat) : List (String ⊕ Nat) → Option Bool
  | [] => some false
  | u :: r => (isB cs t u).bind fun b => (anyB cs t r).map (b || ·)
def gIsiT2 (cs : ClT) : List D → Option D
  | x :: tys => if tys.length ≤ lim ∧ tys ≠ [] then (tcD x).bind fun t => (clsD tys).bind fun us => (anyB cs t us).map .bl else none
  | _ => none
theorem anyB_ok {G : Gx0} {cs : ClT} (F : IsF G cs) {t : String ⊕ Nat} (ht : ∀ s, t = .inl s → s ∈ isiTs) : ∀ {us b}, anyB cs t us = some b → PySem.W.kitAny G.K (tcV G t) (us.map (tcV G)) = some b
  | [], b, h => by simp only [anyB] at h; cases h; rfl
  | u :: r, b, h => by
    simp only [anyB] at h
    cases e : isB cs t u with
    | none => rw [e] at h; cases h
    | some b1 =>
      rw [e, Option.bind_some] at h
      cases e2 : anyB cs t r with
      | none => rw [e2] at h; cases h
      | some b2 =>
        rw [e2] at h
        cases h
        exact kitAny_cons (isB_ok F ht e) (fun hb => by subst hb; simp only [Bool.false_or]; exact anyB_ok F ht e2) (fun hb => by subst hb; simp only [Bool.true_or])
theorem clsD_ok {G : Gx0} {S H} : ∀ {ds us vs}, clsD ds = some us → DenL G S H ds vs → Paired ClsV vs (us.map (tcV G))
  | [], us, vs, e, h => by simp only [clsD] at e; cases e; simp only [DenL] at h; subst h; exact .nil
  | d :: ds, us, vs, e, h => by
    simp only [clsD] at e
    cases e1 : clD d with
    | none => rw [e1] at e; cases e
    | some u =>
      rw [e1, Option.bind_some] at e
      cases e2 : clsD ds with
      | none => rw [e2] at e; cases e
      | some r =>
        rw [e2] at e
        cases e
        simp only [DenL] at h
        obtain ⟨v, r', rfl, p, q⟩ := h
        exact .cons (clD_ok e1 p) (clsD_ok e2 q)
theorem anyB_dom {cs : ClT} {t b} : ∀ {us}, us ≠ [] → anyB cs t us = some b → ∀ c, t = .inr c → (cs.lookup c).isSome = true
  | [], h, _ => absurd rfl h
  | u :: r, _, h => by
    simp only [anyB] at h
    cases e : isB cs t u with
    | none => rw [e] at h; cases h
    | some b1 => exact isB_dom e
section
variable {J : Jc} {κ κ1 κ2 κ3 κ' : List Kd} {a b c e x : Expr} {es tys : List Expr} {pos p np apos cpos p2 tpos : Pos} {fa fb fo : M D} {fr : M (List D)} {n : Nat} {xn : Str} {as : List Ak} {cs : ClT}
theorem ex_isi2 (F : IsF J.G.toGx0 cs) (hg : Gl J.X "isinstance") (hm : J.X.mg "isinstance" = none) (hev : Ev J κ [a, b] as fr κ1) (hk : (as.map Ak.kd).all Kd.seen = true := by rfl) (hst : noStar [a, b] = true := by rfl) (hpl : (backTo pos (starEach [b] J.X.env)).any (·.1) = false := by rfl) :
    Ex J κ (.Call (.Name "isinstance" p) [a, b] [] pos) .sh (primM (ro (gIsi2 cs)) as fr) (backK as κ1) :=
  ex_callB call_isi (prim_leaf hk (lp_isi2 (G := J.G) F)) hg hm (by decide +kernel) hev hst (by decide) (by decide) hpl
theorem ex_isiT2 {k2} (F : IsF J.G.toGx0 cs) (hg : Gl J.X "isinstance") (hm : J.X.mg "isinstance" = none) (hx : Ex J κ x .sh fa κ1) (ha : Ax J κ1 tys as fr κ2) (hsh : as.all (· == .sh) = true := by rfl) (hst : noStar [x, .Tuple tys k2 tpos] = true := by rfl) (hpl : (backTo pos (starEach [.Tuple tys k2 tpos] J.X.env)).any (·.1) = false := by rfl) :
    Ex J κ (.Call (.Name "isinstance" p) [x, .Tuple tys k2 tpos] [] pos) .sh (primM (ro (gIsiT2 cs)) (.sh :: as) (aCons fa fr)) κ2 := by
  obtain ⟨tx, px, qx⟩ := hx.ex
  obtain ⟨t, pt, q⟩ := ha.ex
  refine ⟨_, pe_callB call_isiT hg hm (by decide +kernel) (pa_cons px (pa_cons (pe_tup pt) pa_nil (star_pl hst [x] _ _ rfl)) (star_pl hst [] _ _ rfl)) (by decide) (by decide) (star_pl hst [] _ _ rfl) hpl, fun R S H σ env Q h hq => ?_⟩
  refine qx _ _ _ _ _ _ h ((Req.bind (Req.bind hq)).mono fun d0 e1 _ z S1 H1 v0 g1 r1 => ?_)
  refine q _ _ _ _ _ _ r1 (((Req.bind (z.later g1)).tmp _).mono fun ds e2 _ z2 S2 H2 vs g2 ok r2 => ?_)
  have l := ok.len
  cases eg : gIsiT2 cs (d0 :: ds) with
  | none =>
    have z2 : Req J R S H σ (match ro (gIsiT2 cs) (d0 :: ds) with | some (d, os) => .ok d (backE (.sh :: as) os e2) | none => .stuck) (fun d e => ∀ S' H' v, Grow S H S' H' → Rl J.G S' H' κ2 e σ (⟨.sh, d, some v⟩ :: R) → Q v H') := z2
    unfold ro at z2; rw [eg] at z2; exact z2.elim
  | some d =>
    have z2 : Req J R S H σ (match ro (gIsiT2 cs) (d0 :: ds) with | some (d, os) => .ok d (backE (.sh :: as) os e2) | none => .stuck) (fun d e => ∀ S' H' v, Grow S H S' H' → Rl J.G S' H' κ2 e σ (⟨.sh, d, some v⟩ :: R) → Q v H') := z2
    unfold ro at z2; rw [eg] at z2
    have eback : ∀ {as : List Ak} {os : List D}, as.all (· == .sh) = true → backE as os e2 = e2 := by
      intro as
      induction as with
      | nil => intro os _; cases os <;> rfl
      | cons a as ih =>
        intro os hs
        simp only [List.all_cons, Bool.and_eq_true, beq_iff_eq] at hs
        obtain ⟨rfl, hs⟩ := hs
        cases os with
        | nil => rfl
        | cons o os => exact ih hs
    have z3 : ∀ S' H' v, Grow S H S' H' → Rl J.G S' H' κ2 (backE (.sh :: as) (d0 :: ds) e2) σ (⟨.sh, d, some v⟩ :: R) → Q v H' := fun S' H' v g r => z2 S' H' v g r
    rw [eback (as := .sh :: as) (by simp [hsh])] at z3
    replace eg : (if ds.length ≤ lim ∧ ds ≠ [] then (tcD d0).bind fun t => (clsD ds).bind fun us => (anyB cs t us).map D.bl else none) = some d := eg
    by_cases hl : ds.length ≤ lim ∧ ds ≠ []
    rotate_left
    · rw [if_neg hl] at eg; cases eg
    rw [if_pos hl] at eg
    cases et : tcD d0 with
    | none => rw [et] at eg; cases eg
    | some ty =>
      rw [et, Option.bind_some] at eg
      cases en : clsD ds with
      | none => rw [en] at eg; cases eg
      | some ns =>
        rw [en, Option.bind_some] at eg
        cases eb : anyB cs ty ns with
        | none => rw [eb] at eg; cases eg
        | some b =>
        rw [eb] at eg
        cases eg
        have r0 := r2.rel
        rw [ax_shd hsh, List.append_assoc] at r0
        have hd := rel_sh r0 l.1 l.2
        have hx0 : Den J.G S2 H2 d0 v0 := (dropTemps r2).rel.shared
        have hlen : vs.length ≤ sizeLine := by
          rw [l.2, ← l.1]
          exact lim_ok hl.1
        refine ⟨hlen, fun pp hp => ?_⟩
        have r3 := dropTemps r2
        obtain ⟨S3, g3, r4⟩ := r3.rel.newTup hp hd
        have hx3 : Den J.G S3 _ d0 v0 := hx0.grow g3
        have hns : ns ≠ [] := by
          intro e0
          subst e0
          cases ds with
          | nil => exact hl.2 rfl
          | cons d1 r1 =>
            simp only [clsD] at en
            cases e1 : clD d1 with
            | none => rw [e1] at en; cases en
            | some u =>
              rw [e1, Option.bind_some] at en
              cases e2 : clsD r1 with
              | none => rw [e2] at en; cases en
              | some r => rw [e2] at en; cases en
        obtain ⟨ty3, hs⟩ := tcD_ok F et (anyB_dom hns eb) hx3
        refine ⟨v0, pp, vs, _, _, b, rfl, upd_same, clsD_ok en hd, ty3, anyB_ok F hs eb, z3 S3 _ _ ((g1.trans g2).trans g3) ⟨r3.l1, r3.l2, ?_⟩⟩
        exact r4.drop.drop.push (by simp only [Den])
end
end Rm
namespace Rm
open PySem PySem.Spec PyProof.Rows L2
section
variable {X : Cx} {o e : Expr} {es : List Expr} {to te : TE} {ta : TA} {f x0 : Str} {p p' p1 p2 pos : Pos} {R : Addr}
theorem pe_reinit {pl : Sem Bool} (hg : Gl X x0) (hm : X.mg x0 = some (.ref R)) (rd : ClX.CRead X.K R (.type "type")) (at_ : PySem.W.findCls X.K (.ref R) (.type "type") "__init__" = some (.val (.builtin "ValueError.__init__"))) (ha : PA X (e :: es) ta)
    (hdb : (x0 == ("__debug__" : Str)) = false := by decide)
    (hc : eval (.Call (.Attribute (.Name x0 p1) "__init__" p2) (e :: es) [] pos) X.env = (do
      let ov ← eval (.Name x0 p1) X.env
      standAt p2.atName
      let (f, first) ← holding [ov] (getMethod ov "__init__" pl)
      callWith pos f first (backTo pos (starEach (e :: es) X.env)) (backToKw pos (keywordEach [] X.env))) := by rfl)
    (he : starEach (e :: es) X.env = (false, eval e X.env) :: starEach es X.env := by rfl) (hpl : (backTo pos (starEach es X.env)).any (·.1) = false := by rfl) :
    PE X (.Call (.Attribute (.Name x0 p1) "__init__" p2) (e :: es) [] pos) (tVeI X.K ta) := by
  refine ⟨fun pins s σ H Q I h => ?_⟩
  refine PySem.W.methodCall_KW (ld_glob I hg hm ?_ hdb) hc
  refine PySem.W.method_cls I.kIn rd.ga (PySem.W.cls_value I.kIn rd.rd at_ (by decide +kernel) ?_)
  show wpAny _ _ (callWith pos (Value.builtin "ValueError.__init__") [] (backTo pos (starEach (e :: es) X.env)) []) _ _ _
  refine PyProof.Rows.callWith_method1 (thn (ha.run pos pins _ σ H _ (I.tok _) h) fun us s1 ⟨vs, H1, I1, r1, a, C, ws, ev, hl, T, ea, q⟩ => ?_) he hpl
  subst ev
  cases r1 with
  | @cons _ u0 _ ur ra rw' =>
    obtain rfl : u0 = Value.ref a := ra
    have hlen : ur.length ≤ sizeLine := by
      rw [← Paired.length rw', sizeLine_eq]
      omega
    exact oinit_ok T I1 ea hlen fun s' J => ⟨.non, H1, J, rfl, q⟩
end
def spX (C : Addr) (fs : List Str) : Sp := fun vs H Q _ => ∃ (a : Addr) (ws : List V), vs = .ref a :: ws ∧ ws.length = fs.length ∧ H a = some (exo a C none) ∧
  ∀ dx, H dx = none → dx ≠ a → Q .non (upd (upd H dx (exd dx (fs.zip ws).reverse)) a (exo a C (some dx)))
/-- what the written part says of the refusals' base R and of the class C, whose __init__ takes fs -/
structure ExB (K : PySem.W.Frag) (R : Addr) : Prop where
  rd : ClX.CRead K R (.type "type")
  at_ : PySem.W.findCls K (.ref R) (.type "type") "__init__" = some (.val (.builtin "ValueError.__init__"))
structure ExC (P : Program) (w : World) (K : PySem.W.Frag) (mg : Str → Option Value) (base : Heap) (x : Str) (C : Addr) (fs : List Str) : Prop where
  ex : ∃ (fI : Addr) (fd : FuncData) (ps : List Str), OexC K C ∧ PySem.W.findIn K (.ref C) "__init__" = some (some (.ref fI)) ∧ PySem.W.typeIn K (.ref fI) = some (.type "function") ∧
    FnOk P w K mg base (L2.CX P w) 1 fI fd ps (spX C fs) ∧ mg x = some (.ref C) ∧ Binds K fd ps []
section
variable {P : Program} {w : World} {K : PySem.W.Frag} {mg : Str → Option Value} {base : Heap} {cl fa : Nat → Addr} {qual : Str} {st : Stmt} {f R C : Addr} {fd : FuncData} {m x0 x y : Str}
/-- def __init__(self, x): R.__init__(self, "m"); self.x = x -/
theorem fk_exc1 (F : FunD K "__init__" qual (defArgs st) (defBody st) (defScope st) [] [] f fd) (Sc : FnScope ["self", x] ["self", x] (defScope st))
    (D : ∀ (cdv : Value) (A : Around) (outer : List Env) (s : Shared) (H : Hp) (E : XK), PSs (cxOf (L2.CX P w) P w K mg base ["self", x] qual (defScope st) f cdv A outer s H E) (defBody st)
      (tSeq (tDrop (tVeI K (L2.tCons (tVar 0) (L2.tCons (tC (.str m)) tNil)))) (tOst K x (tVar 0) (tVar 1))))
    (T : OexC K C) (hno : PySem.W.findIn K (.ref C) x = some none) : FnOk P w K mg base (L2.CX P w) 1 f fd ["self", x] (spX C [x]) := by
  refine F.ok Sc (fun vs H Q E h => ?_) (fun cdv A outer s H vs Q E hr h => ?_)
  · obtain ⟨a, ws, rfl, l, _⟩ := h
    simp at l ⊢
    exact l
  · obtain ⟨a, ws, rfl, l, ea, q⟩ := h
    obtain ⟨y, rfl⟩ : ∃ y, ws = [y] := by
      match ws, l with
      | [y], _ => exact ⟨y, rfl⟩
    refine ⟨_, D cdv A outer s H E, ?_⟩
    refine ⟨V.ref a, rfl, a, C, [V.str m], rfl, by show 1 ≤ 1000; omega, T, ea, ?_⟩
    exact ⟨y, rfl, .ref a, rfl, a, C, rfl, T, hno, .inl ⟨ea, fun dx n ne => q dx n ne⟩⟩
end
end Rm
namespace Rm
open PySem PySem.Spec L2
def raiseM (c : Nat) (fs : List Str) (fr : M (List D)) : M Fl := fun e => (fr e).bind fun ds e => if ds.length = fs.length ∧ fs.length ≤ 9 then .ex c (fs.zip ds).reverse e else .stuck
theorem denF_app {G : Gx0} {S H} : ∀ {a b : List (Str × D)} {va vb}, DenF G S H a va → DenF G S H b vb → DenF G S H (a ++ b) (va ++ vb)
  | [], b, va, vb, h, h' => by simp only [DenF] at h; subst h; exact h'
  | (k, d) :: a, b, va, vb, h, h' => by
    obtain ⟨v, r, rfl, p, q⟩ := denF_cons.mp h
    exact denF_cons.mpr ⟨v, r ++ vb, rfl, p, denF_app q h'⟩
theorem denF_zip {G : Gx0} {S H} : ∀ {fs : List Str} {ds vs}, DenL G S H ds vs → ds.length = fs.length → DenF G S H (fs.zip ds) (fs.zip vs)
  | [], ds, vs, h, l => by simp only [List.zip_nil_left, DenF]
  | f :: fs, [], vs, h, l => by simp at l
  | f :: fs, d :: ds, vs, h, l => by
    simp only [DenL] at h
    obtain ⟨v, r, rfl, p, q⟩ := h
    exact denF_cons.mpr ⟨v, _, rfl, p, denF_zip q (by simpa using l)⟩
theorem denF_rev {G : Gx0} {S H} : ∀ {fs : List (Str × D)} {ws}, DenF G S H fs ws → DenF G S H fs.reverse ws.reverse
  | [], ws, h => by simp only [DenF] at h; subst h; simp only [List.reverse_nil, DenF]
  | (k, d) :: fs, ws, h => by
    obtain ⟨v, r, rfl, p, q⟩ := denF_cons.mp h
    rw [List.reverse_cons, List.reverse_cons]
    exact denF_app (denF_rev q) (denF_cons.mpr ⟨v, [], rfl, p, by simp only [DenF]⟩)
section
variable {J : Jc} {κ κ1 κ2 κ' : List Kd} {e : Expr} {es : List Expr} {pos p cpos : Pos} {fr : M (List D)} {as : List Ak} {x : Str} {c : Nat} {fs : List Str} {n : Nat}
/-- what is new is shared -/
theorem Rel.newXd {G : Gx} {S H xs} {d : Addr} {fd : List (Str × D)} {ws} (h : Rel G S H xs) (hd : H d = none) (df : DenF G S H fd ws) : ∃ S', Grow S H S' (upd H d (.xd ws)) ∧ Rel G S' (upd H d (.xd ws)) xs ∧ S' d ∧ DenF G S' (upd H d (.xd ws)) fd ws := by
  have ns : ¬ S d := fun s => h.1.al d s hd
  have g : Grow S H (fun a => S a ∨ a = d) (upd H d (.xd ws)) := Grow.of fun a s => ⟨.inl s, upd_ne fun e => ns (e ▸ s)⟩
  refine ⟨fun a => S a ∨ a = d, g, ?_, .inr rfl, df.grow g⟩
  have := (Rel.step0 (ys := []) h g (fun a n => .inr (upd_ne fun e => n (e ▸ hd))) (fun a s => s.elim .inl fun e => .inr (by rw [e]; exact hd)) (fun a s => ?_) ⟨[], fun a m => (by simp at m), .nil⟩).2
  · exact this
  · rcases s with s | rfl
    · have e : upd H d (.xd ws) a = H a := upd_ne (fun e => ns (e ▸ s))
      rw [e]; exact h.1.al a s
    · rw [upd_same]; simp
theorem sx_raise (C : ExC J.X.prog J.X.w J.X.K J.X.mg J.X.base x (J.cl c) fs) (hr : Room n J.X.A) (ha : Ax J κ (e :: es) as fr κ1) (hhot : J.hot = false := by rfl) (hl : kleF J.kx κ1 = true := by rfl) (hsh : as.all (· == .sh) = true := by rfl) (hn : 2 ≤ n := by decide) (hg : Gl J.X x := by rfl)
    (hdb : (x == ("__debug__" : Str)) = false := by decide)
    (he : starEach (e :: es) J.X.env = (false, eval e J.X.env) :: starEach es J.X.env := by rfl) (hpl : (backTo cpos (starEach es J.X.env)).any (·.1) = false := by rfl) :
    Sx J κ (.Raise (some (.Call (.Name x p) (e :: es) [] cpos)) none pos) (raiseM c fs fr) κ' := by
  obtain ⟨t, pt, q⟩ := ha.ex
  obtain ⟨fI, fd, ps, T, iC, tI, F1, hm, hb⟩ := C.ex
  have pm := pmk_oex (dvs := []) (ds := []) (p := p) (pos := cpos) T iC tI F1 (hr.mono (by omega)) hb .nil (fun pins σ H s e s' I hq => by obtain ⟨_, _, _, _, _, h⟩ := hq; exact h.2.2.2.2.2.2.2.elim) hg hm pt hdb he hpl
  refine ⟨_, ps_raise (J.calm hhot) J.tk pm, fun R S H σ env D h hq => ?_⟩
  refine q _ _ _ _ _ _ h ((SReq.bind hq).mono fun ds e1 _ z S1 H1 vs g1 ok r1 => ?_)
  have l := ok.len
  by_cases hlen : ds.length = fs.length ∧ fs.length ≤ 9
  rotate_left
  · rw [if_neg hlen] at z; exact z.elim
  rw [if_pos hlen] at z
  have hvs : vs.length = fs.length := by rw [l.2, ← l.1]; exact hlen.1
  refine ⟨by omega, fun a na => ?_⟩
  rw [List.append_nil]
  refine ⟨a, vs, rfl, hvs, upd_same, fun dx nd ne => ?_⟩
  have nd1 : H1 dx = none := by rw [← nd, upd_ne ne]
  refine ⟨rfl, dx, (fs.zip vs).reverse, upd_same, by rw [upd_ne ne, upd_same], nd1, ?_⟩
  have eH : upd (del (upd (upd (upd H1 a (exo a (J.cl c) none)) dx (exd dx (fs.zip vs).reverse)) a (exo a (J.cl c) (some dx))) a) dx (.xd (fs.zip vs).reverse) = upd H1 dx (.xd (fs.zip vs).reverse) := by
    funext b
    by_cases h1 : b = dx
    · subst h1; rw [upd_same, upd_same]
    · rw [upd_ne h1, upd_ne h1]
      by_cases h2 : b = a
      · subst h2; rw [del_same, na]
      · rw [del_ne h2, upd_ne h2, upd_ne h1, upd_ne h2]
  rw [eH]
  have r0 := r1.rel
  rw [ax_shd hsh, List.append_assoc] at r0
  have hd := rel_sh r0 l.1 l.2
  obtain ⟨S2, g2, r2, sd, df⟩ := (show Rel J.G S1 H1 _ from (dropTemps r1).rel).newXd (d := dx) nd1 (denF_rev (denF_zip hd hlen.1))
  obtain ⟨S3, g3, r3⟩ := (Rl.weakF (κ' := J.kx) ⟨(dropTemps r1).l1, (dropTemps r1).l2, r2⟩ hl)
  exact z S3 _ σ (.ref (J.cl c)) (some dx) ((g1.trans g2).trans g3) .refl ⟨rfl, .inr ⟨dx, _, rfl, (g3 dx sd).1, upd_same, df.grow g3⟩⟩ r3
end
end Rm
namespace L2
open PySem PySem.Spec PyProof.Rows
/-- a clause: its class, its name's slot, what its suite asks -/
structure HdC where
  c : Value
  i : Option Nat
  ts : Addr → Value → Option Addr → TS
section
variable {X : Cx} {body : List Stmt} {h₀ : ExceptHandler} {hds : List ExceptHandler} {l : List HdC} {pos : Pos} {tb : WX → TS} {Wout : WX}
end
end L2
namespace Rm
open PySem PySem.Spec L2
structure HdD where
  cs : List Nat
  f : List (Str × D) → M Fl
def afterH : Out Fl → Out Fl
  | .ok .nx e => .ok .nx e
  | .ok (.rt d) e => .ok (.rt d) e
  | _ => .stuck
def handM (hs : List HdD) (c : Nat) (fs : List (Str × D)) (e : List D) : Out Fl := match hs with
  | [] => .ex c fs e
  | h :: r => if h.cs.contains c = true then afterH (h.f fs e) else handM r c fs e
def tryM (all : List Nat) (fb : M Fl) (hs : List HdD) : M Fl := fun e => match fb e with
  | .ex c fs e' => if all.contains c = true then handM hs c fs e' else .stuck
  | o => o
def Jc.body (J : Jc) (κh : List Kd) (W : WX) (pn : List (Addr × Obj)) (xe : Value → Shared → Prop) (tk : Takes (J.X.tr pn xe) W) (po : PassesOwn (model J.X.prog J.X.w) J.X.A J.X.env xe) : Jc where
  X := J.X.tr pn xe
  cl := J.cl
  fa := J.fa
  W := W
  kx := κh
  kr := J.kr
  kb := J.kb
  kc := J.kc
  tk := tk
  hot := J.hot
  calm := J.calm
  po := po
  gd := J.gd
  Φ := J.Φ
  st := J.st
/-- in a suite: the exception's fields are to be read -/
def Jc.hd (J : Jc) (a : Addr) (oe : Obj) (pn : List (Addr × Obj)) (c : Nat) (fs : List (Str × D)) (cls : Value) (d : Option Addr) : Jc where
  X := J.X.suite a ((a, oe) :: pn)
  cl := J.cl
  fa := J.fa
  W := fun _ _ _ _ => False
  kx := J.kx
  kr := J.kr
  kb := []
  kc := []
  tk := takes0
  hot := true
  calm := fun h => nomatch h
  po := PassesOwn.never
  gd := J.gd
  Φ := fun S H => J.Φ S H ∧ RelX ⟨J.X.K, J.cl, J.fa⟩ S H c fs cls d
  st := fun S H S' H' g p => ⟨J.st S H S' H' g p.1, p.2.growW g⟩
theorem Rl.gx {G G' : Gx} {S H κ e σ R} (h : Rl G S H κ e σ R) (e0 : G'.toGx0 = G.toGx0) (p : G'.Φ S H) : Rl G' S H κ e σ R := by
  obtain ⟨l1, l2, al, L, r⟩ := h
  refine ⟨l1, l2, ⟨al.al, p⟩, L, ?_⟩
  rw [e0]; exact r
theorem Rl.ph {G : Gx} {S H κ e σ R} (h : Rl G S H κ e σ R) : G.Φ S H := h.rel.1.ph
/-- e.f in a suite -/
def cnX (fs : List (Str × D)) (f : Str) : M D := fun e => match fs.lookup f with | some d => .ok d e | none => .stuck
theorem Fix.of {kx κh : List Kd} {σ σ' : St} (h : Fix κh σ σ') (k : kle kx κh = true) : Fix kx σ σ' := fun i q e n => by
  simp only [kle, Bool.and_eq_true, beq_iff_eq] at k
  obtain ⟨k1, k2⟩ := k
  have hi : i < kx.length := (List.getElem?_eq_some_iff.mp e).1
  have e2 : κh[i]? = some (κh[i]'(by rw [← k1]; exact hi)) := List.getElem?_eq_getElem _
  refine h i _ e2 fun z => ?_
  have ez : (kx.zip κh)[i]? = some (q, κh[i]'(by rw [← k1]; exact hi)) := by rw [List.getElem?_zip_eq_some]; exact ⟨e, e2⟩
  have t := List.all_eq_true.mp k2 _ (List.mem_of_getElem? ez)
  simp only [z] at t
  cases q with
  | un => exact n rfl
  | sh => simp [Kd.le] at t
  | ow o => simp [Kd.le] at t
  | at_ a => simp [Kd.le] at t
theorem SReq.hd {J : Jc} {κ' : List Kd} {R S H σ} {o : Out Fl} {Dd : Ends} {a : Addr} {oe : Obj} {pn : List (Addr × Obj)} {c : Nat} {fs : List (Str × D)} {cls : Value} {d : Option Addr} (hq : SReq J κ' R S H σ (afterH o) Dd) : SReq (J.hd a oe pn c fs cls d) κ' R S H σ o Dd := by
  cases o with
  | ok fl e =>
    cases fl with
    | nx => exact fun S2 H2 σ2 g fx r => hq S2 H2 σ2 g fx (r.gx rfl r.ph.1)
    | rt v => exact fun S2 H2 σ2 v g fx r => hq S2 H2 σ2 v g fx (r.gx rfl r.ph.1)
    | bk => exact hq.elim
    | ct => exact hq.elim
  | ex c fs e => exact hq.elim
  | stuck => exact hq.elim
end Rm
namespace Rm
open PySem PySem.Spec PyProof.Rows L2
def oexB (K : PySem.W.Frag) (C : Addr) : Bool := (match K.lookup C with
  | some ⟨.type "type", _, .cls cd, sl⟩ => (match cd.mro, sl.toList with
    | .ref C' :: bm, [_, _, _, _, some (.builtin n), _] => C' == C && n == "ValueError.__new__" && !cd.hasDel && cd.hasDict && PySem.HandSPX.refsVE bm
    | _, _ => false)
  | _ => false) && (decide (PySem.W.findIn K (.ref C) "__setattr__" = some (some (.builtin "object.__setattr__"))) && (decide (PySem.W.subIn K (.ref C) (.type "BaseException") = some true) && (decide (PySem.W.typeIn K (.ref C) = some (.type "type")) && PySem.W.keepIn K (.ref C))))
theorem oexB_ok {K : PySem.W.Frag} {C : Addr} (q : oexB K C = true) : OexC K C := by
  unfold oexB at q
  rw [Bool.and_eq_true] at q
  obtain ⟨q, q2⟩ := q
  simp only [Bool.and_eq_true, decide_eq_true_eq] at q2
  refine ⟨?_, q2.1, q2.2.1, q2.2.2.1, q2.2.2.2⟩
  split at q
  · rename_i dd cd sl ho
    split at q
    · rename_i C' bm k0 k1 k2 k3 n k5 hm hs
      simp only [Bool.and_eq_true, beq_iff_eq, Bool.not_eq_true'] at q
      obtain ⟨⟨⟨⟨rfl, rfl⟩, hdel⟩, hdict⟩, hbm⟩ := q
      obtain ⟨nm, bs, mro, ns, qn, hd, sn, sub, ab, col, del⟩ := cd
      dsimp only at hm hdel hdict
      subst hm hdel hdict
      have hsl : sl = #[k0, k1, k2, k3, some (.builtin "ValueError.__new__"), k5] := by
        obtain ⟨l⟩ := sl
        simp only at hs
        rw [hs]
      subst hsl
      exact ⟨nm, qn, ns, bs, bm, sn, sub, ab, col, dd, k0, k1, k2, k3, k5, ho, hbm⟩
    · cases q
  · cases q
def exbB (K : PySem.W.Frag) (R : Addr) : Bool := PySem.W.readsIn K R (.type "type") && (decide (PySem.W.specialIn K (.ref R) "__getattribute__" = some (some (.builtin "type.__getattribute__"))) &&
  (match PySem.W.findCls K (.ref R) (.type "type") "__init__" with | some (.val v) => decide (v = .builtin "ValueError.__init__") | _ => false))
theorem exbB_ok {K : PySem.W.Frag} {R : Addr} (q : exbB K R = true) : ExB K R := by
  unfold exbB at q
  simp only [Bool.and_eq_true, decide_eq_true_eq] at q
  obtain ⟨h1, h2, h3⟩ := q
  refine ⟨⟨h1, h2⟩, ?_⟩
  split at h3
  · rename_i v e
    rw [e]
    have : v = .builtin "ValueError.__init__" := by simpa using h3
    rw [this]
  · cases h3
/-- one class: its __init__ at f -/
def excB (K : PySem.W.Frag) (C f : Addr) (fs : List Str) : Bool := oexB K C && (decide (PySem.W.findIn K (.ref C) "__init__" = some (some (.ref f))) && (decide (PySem.W.typeIn K (.ref f) = some (.type "function")) && fs.all fun x => decide (PySem.W.findIn K (.ref C) x = some none)))
theorem excB_ok {K : PySem.W.Frag} {C f : Addr} {fs : List Str} (q : excB K C f fs = true) : OexC K C ∧ PySem.W.findIn K (.ref C) "__init__" = some (some (.ref f)) ∧ PySem.W.typeIn K (.ref f) = some (.type "function") ∧ ∀ x ∈ fs, PySem.W.findIn K (.ref C) x = some none := by
  unfold excB at q
  simp only [Bool.and_eq_true, decide_eq_true_eq, List.all_eq_true] at q
  exact ⟨oexB_ok q.1, q.2.1, q.2.2.1, q.2.2.2⟩
theorem ba2 {a b : Bool} (h : (a && b) = true) : a = true ∧ b = true := Bool.and_eq_true_iff.mp h
section
variable {P : Program} {w : World} {K : PySem.W.Frag} {mg : Str → Option Value} {base : Heap} {qual : Str} {st : Stmt} {f R C : Addr} {fd : FuncData} {m x y z : Str}
theorem ExC.mk1 (F : FunD K "__init__" qual (defArgs st) (defBody st) (defScope st) [] [] f fd) (q : excB K C f [x] = true) (hm : mg z = some (.ref C)) (k : OexC K C → PySem.W.findIn K (.ref C) x = some none → FnOk P w K mg base (L2.CX P w) 1 f fd ["self", x] (spX C [x]))
    (hb : Binds K fd ["self", x] []) : ExC P w K mg base z C [x] := by
  obtain ⟨h1, h2, h3, h4⟩ := excB_ok q
  exact ⟨f, fd, _, h1, h2, h3, k h1 (h4 x (by simp)), hm, hb⟩
end
end Rm
namespace Rm
open PySem PySem.Spec PyProof.Rows L2 He
abbrev AlR : Type := AlD × Bool
def frR (n : Nat) (ad : List Addr) (g : Addr → Option Obj) : PySem.W.Frag := frT g (ad ++ asD g n)
def obsR (n : Nat) (ad : List Addr) (fa : List Fa) (fn : List DefD) (ex : PySem.W.Frag → Bool) (g : Addr → Option Obj) : AlR := (obsD fa fn (frR n ad g), ex (frR n ad g))
def valR (fn : List DefD) : AlR := (valD fn, true)
structure SaysR (fa : List Fa) (fn : List DefD) (ex : PySem.W.Frag → Bool) (K : PySem.W.Frag) : Prop where
  d : SaysD fa fn K
  more : ex K = true
def hookR (n : Nat) (ad : List Addr) (fa : List Fa) (fn : List DefD) (ex : PySem.W.Frag → Bool) : PySem.W.Hook where
  α := AlR
  obs := fun s => obsR n ad fa fn ex s.heap.get?
  val := fun _ => valR fn
  says := fun _ h => ∃ K : PySem.W.Frag, K.In h ∧ SaysR fa fn ex K
  of := fun _ _ e => ⟨_, frT_in, congrArg (fun z : AlR => z.1) e, congrArg (fun z : AlR => z.2) e⟩
  keeps := fun _ _ _ ⟨K, hK, c⟩ k => ⟨K, PySem.W.Frag.In.keeps hK k, c⟩
theorem obsR_eq {n : Nat} {ad : List Addr} {fa : List Fa} {fn : List DefD} {ex : PySem.W.Frag → Bool} {g : Addr → Option Obj} {s : Shared} (h : ∀ a, g a = s.heap.get? a) : obsR n ad fa fn ex g = (hookR n ad fa fn ex).obs s := by
  have e : g = s.heap.get? := funext h
  rw [e] <;> rfl
end Rm
namespace Rm
open PySem PySem.Spec L2
def gSubO : List D → Option D
  | [.lst xs, .int i] => atI xs i
  | [.dK kvs, k] => (keyD k).bind (getDk kvs)
  | _ => none
theorem prim_subO {G : Gx} : Prim G (r2 fun x y H Q => rIx G.K x y H Q ∨ rDG x y H Q) [.ow 0, .sh] .sh (ro gSubO) := by
  intro S H ds vs d os xs Q hg l1 l2 hr hq
  unfold ro at hg
  cases eg : gSubO ds with
  | none => rw [eg] at hg; cases hg
  | some d' =>
    rw [eg] at hg
    have e1 : d' = d ∧ ds = os := by cases hg; exact ⟨rfl, rfl⟩
    obtain ⟨rfl, rfl⟩ := e1
    unfold gSubO at eg
    split at eg
    · rename_i ds0 i
      match vs, l2 with
      | [v0, v1], _ =>
        have h1 : Rel G S H (⟨.sh, .int i, some v1⟩ :: ⟨.ow 0, .lst ds0, some v0⟩ :: xs) := hr.perm (List.Perm.swap _ _ _)
        have hi := h1.shared
        simp only [Den] at hi
        obtain ⟨a, us, rfl, ha, hA, _⟩ := h1.drop.wrL
        obtain ⟨w, e1, e2⟩ := atI_den hA eg
        refine .inl (.inl ⟨a, us, i, w, rfl, hi, SqL.of ha, e1, hq S H w .refl rfl ?_⟩)
        exact (Rel.outK (ks := [.ow 0, .sh]) (ds := [.lst ds0, .int i]) (vs := [.ref a, v1]) (T := []) hr).push e2
    · rename_i kvs k
      match vs, l2 with
      | [v0, v1], _ =>
        have h1 : Rel G S H (⟨.sh, k, some v1⟩ :: ⟨.ow 0, .dK kvs, some v0⟩ :: xs) := hr.perm (List.Perm.swap _ _ _)
        have hk := h1.shared
        obtain ⟨a, ws, rfl, ha, dk, _⟩ := h1.drop.wrK
        cases ek : keyD k with
        | none => rw [ek] at eg; cases eg
        | some kk =>
          rw [ek, Option.bind_some] at eg
          have ev := keyD_den ek hk
          rcases denK_get (k := kk) dk with ⟨e2, _⟩ | ⟨d2, w, e2, e3, q⟩
          · rw [eg] at e2; cases e2
          · rw [eg] at e2; cases e2
            refine .inr ⟨a, w, rfl, .inl ⟨ws, kk, .inl ha, ev, e3.symm⟩, hq S H w .refl rfl ?_⟩
            · exact (Rel.outK (ks := [.ow 0, .sh]) (ds := [.dK kvs, k]) (vs := [.ref a, v1]) (T := []) hr).push q
    · cases eg
section
variable {J : Jc} {κ κ1 κ2 κ3 κ' : List Kd} {a b c e st : Expr} {es : List Expr} {pos p p2 : Pos} {fa fb : M D} {fr : M (List D)} {n m : Nat} {f1 f2 : M (Option Int)} {lo hi : Option Expr}
theorem ex_subO (hr : Room m J.X.A) (hev : Ev J κ [a, b] [.io n 0, .sh] fr κ1) (hs : PlainIx b := by exact fun _ _ => rfl) : Ex J κ (.Subscript a b pos) .sh (primM (ro gSubO) [.io n 0, .sh] fr) (backK [.io n 0, .sh] κ1) :=
  ex_ix (IxR.or L2.ix_seq (ix_dict (hu1 hr))) prim_subO hev hs
end
end Rm
namespace Rm
open PySem PySem.Spec L2
section
variable {J : Jc} {κ κ1 : List Kd} {a b : Expr} {pos : Pos} {fr : M (List D)}
end
end Rm
namespace RP
open PySem PySem.Spec L2 Rm
def b_l_box (clt : ClT) : M Fl :=
 sCons (sRet (lstM (aCons (primM (ro gMax) [.sh, .sh] (aCons (cn (.int 0)) (aCons (primM (ro (gI cAny fun i j => i - j)) [.sh, .sh] (aCons (vr 0) (aCons (primM (ro (gI cPow fun i j => i ^ j.toNat)) [.sh, .sh] (aCons (cn (.int 10)) (aCons (cn (.int 18)) (aNil)))) (aNil)))) (aNil)))) (aCons (primM (ro (gI cMod fun i j => i % j)) [.sh, .sh] (aCons (vr 0) (aCons (cn (.int 2147483629)) (aNil)))) (aCons (cn (.int 0)) (aNil))))))
 (sNil)
def F_l_box (clt : ClT) : List D → Out D := runF 1 0 (b_l_box clt)
def b_l_cell (clt : ClT) : M Fl :=
 sCons (ifM (asB (primM (ro gLt) [.sh, .sh] (aCons (vr 1) (aCons (primM (ro gLen2) [.sh] (aCons (vr 0) (aNil))) (aNil)))))
 (sCons (sRet (primM (ro Rm.gSub) [.sh, .sh] (aCons (vr 0) (aCons (vr 1) (aNil)))))
 (sNil))
 (sNil))
 (sCons (sRet (primM (ro gAdd) [.sh, .sh] (aCons (primM (ro (gI cMul fun i j => i * j)) [.sh, .sh] (aCons (cn (.int 104729)) (aCons (vr 1) (aNil)))) (aCons (cn (.int 71)) (aNil)))))
 (sNil))
def F_l_cell (clt : ClT) : List D → Out D := runF 2 0 (b_l_cell clt)
def b_is_listed (clt : ClT) : M Fl :=
 sCons (sRet (primM (ro (gIsiT2 clt)) (.sh :: [.sh, .sh]) (aCons (vr 0) (aCons (cn (.ty "list")) (aCons (cn (.ty "tuple")) (aNil))))))
 (sNil)
def F_is_listed (clt : ClT) : List D → Out D := runF 1 0 (b_is_listed clt)
def b_is_name (clt : ClT) : M Fl :=
 sCons (ifM (orB (notB (asB (primM (ro (gIsi2 clt)) [.sh, .sh] (aCons (vr 0) (aCons (cn (.ty "str")) (aNil)))))) (notB (asB (chain3 (cn (.int 1)) (primM (ro gLen2) [.sh] (aCons (vr 0) (aNil))) (cn (.int 6)) gLe gLe))))
 (sCons (sRet (cn (.bl false)))
 (sNil))
 (sNil))
 (sCons (sRet (primM (ro gEq) [.sh, .sh] (aCons (lcM (strM (vr 0)) [1] (tName 1) (asB (primM (ro gNotIn2) [.sh, .sh] (aCons (vr 1) (aCons (cn (.str ("abcdefghijklmnopqrstuvwxyz" : Str))) (aNil))))) (vr 1)) (aCons (lstM (aNil)) (aNil)))))
 (sNil))
def F_is_name (clt : ClT) : List D → Out D := runF 1 1 (b_is_name clt)
def b_need_fresh_vso (clt : ClT) : M Fl :=
 sCons (ifM (notB (asB (callM (F_is_name clt) [.sh] (aCons (vr 0) (aNil)))))
 (sCons (raiseM 1 [("found" : Str)] (aCons (vr 0) (aNil)))
 (sNil))
 (sNil))
 (sCons (ifM (asB (primM (ro gIn2) [.sh, .io 1 0] (aCons (vr 0) (aCons (vr 1) (aNil)))))
 (sCons (raiseM 4 [("found" : Str)] (aCons (vr 0) (aNil)))
 (sNil))
 (sNil))
 (sNil))
def F_need_fresh_vso (clt : ClT) : List D → Out D := runF 2 0 (b_need_fresh_vso clt)
def b_good_names (clt : ClT) : M Fl :=
 sCons (ifM (notB (asB (callM (F_is_listed clt) [.sh] (aCons (vr 0) (aNil)))))
 (sCons (raiseM 1 [("found" : Str)] (aCons (vr 0) (aNil)))
 (sNil))
 (sNil))
 (sCons (ifM (asB (primM (ro gGt) [.sh, .sh] (aCons (primM (ro gLen2) [.sh] (aCons (vr 0) (aNil))) (aCons (cn (.int 12)) (aNil)))))
 (sCons (raiseM 14 [("many" : Str)] (aCons (primM (ro gLen2) [.sh] (aCons (vr 0) (aNil))) (aNil)))
 (sNil))
 (sNil))
 (sCons (sAsg (cn (.dK [])) (tName 1))
 (sCons (forM' (seqM (vr 0)) (tName 2)
 (sCons (sExp (callM (F_need_fresh_vso clt) [.sh, .io 1 0] (aCons (vr 2) (aCons (vr 1) (aNil)))))
 (sCons (setDM 1 (fun (env : List D) => env[2]?) (primM (ro gLen2) [.io 1 0] (aCons (vr 1) (aNil))))
 (sNil))))
 (sCons (sRet (vr 1))
 (sNil)))))
def F_good_names (clt : ClT) : List D → Out D := runF 1 2 (b_good_names clt)
end RP
namespace Rm
open PySem PySem.Spec PySem.W L2
section
variable {J : Jc} {κ κ0 κ1 κ2 κ' : List Kd} {a b c e o : Expr} {pos apos cpos p : Pos} {fa fb fe fo : M D} {fr : M (List D)} {n : Nat} {st : Stmt} {sts : List Stmt} {fs1 : M Fl} {k : Kd} {f : M D}
theorem Lx.weakF (h : Lx J κ sts fs1 κ1) (l : kleF κ' κ1 = true) : Lx J κ sts fs1 κ' := by
  obtain ⟨t, p, q⟩ := h.ex
  refine ⟨t, p, fun R S H σ env D h hq => q _ _ _ _ _ _ h ?_⟩
  cases eo : fs1 env with
  | stuck => rw [eo] at hq; exact hq
  | ex c fs e1 => rw [eo] at hq; exact hq
  | ok fl e1 =>
    rw [eo] at hq
    cases fl with
    | nx =>
      intro S' H' σ' g f r
      obtain ⟨S2, g2, r2⟩ := r.weakF l
      exact hq S2 H' σ' (g.trans g2) f r2
    | rt d => exact hq
    | bk => exact hq
    | ct => exact hq
theorem Ix.weakF {tg : Expr} {f : M (List D)} (h : Ix J κ tg e f κ1) (l : kleF κ' κ1 = true) : Ix J κ tg e f κ' := by
  obtain ⟨t, p, q⟩ := h.ex
  exact ⟨t, p, fun R S H σ env Q h hq => q R S H σ env Q h (hq.mono fun d e _ z S' H' I g r it => by
    obtain ⟨S2, g2, r2⟩ := r.weakF l
    exact z S2 H' I (g.trans g2) r2 fun S3 H3 g3 => it S3 H3 (g2.trans g3))⟩
/-- ahead of a loop -/
theorem Sx.pre (h : Sx J κ' st fs1 κ1) (l : kleF κ' κ = true) : Sx J κ st fs1 κ1 := by
  obtain ⟨t, p, q⟩ := h.ex
  refine ⟨t, p, fun R S H σ env D h hq => ?_⟩
  obtain ⟨S2, g2, r2⟩ := h.weakF l
  exact q _ _ _ _ _ _ r2 (hq.later g2 .refl)
def dgetM (fo fe : M D) : M D := fun e => (fo e).bind fun d e => match d with
  | .dK kvs => (fe e).bind fun k e => match keyD k with
    | some kk => .ok ((getDk kvs kk).getD .non) e
    | none => .stuck
  | _ => .stuck
theorem ex_dget (hr : Room n J.X.A) (ho : Ex J κ o .sh fo κ1) (he : Ex J κ1 e .sh fe κ2) (m : M1 J.X o "get" apos e cpos := by exact ⟨rfl, rfl, rfl, rfl⟩) : Ex J κ (.Call (.Attribute o "get" apos) [e] [] cpos) .sh (dgetM fo fe) κ2 := by
  obtain ⟨td, pd, rd⟩ := ho.ex
  obtain ⟨ty, py, ry⟩ := he.ex
  refine ⟨_, pe_dget1 (hu1 hr) pd py m, fun R S H σ env Q h hq => ?_⟩
  unfold dgetM at hq
  refine rd _ _ _ _ _ _ h (hq.bind.mono fun x e1 _ h1 S1 H1 u g1 r1 => ?_)
  cases x with
  | dK kvs =>
    obtain ⟨a, ws, rfl, rdd, dk⟩ := den_dK r1.rel.shared
    refine ⟨a, rfl, .inl ⟨ws, rdd⟩, ry _ _ _ _ _ _ r1 (((h1.bind.later g1).tmp _).mono fun y e2 _ h2 S2 H2 v g2 r2 => ?_)⟩
    cases ek : keyD y with
    | none => rw [ek] at h2; exact h2.elim
    | some kk =>
      rw [ek] at h2
      obtain ⟨a', ws', e', rd2, dk2⟩ := den_dK r2.rel.drop.shared
      cases e'
      have eu := keyD_den ek r2.rel.shared
      refine ⟨valV ws' kk, .inl ⟨ws', kk, rd2, eu, rfl⟩, h2 S2 H2 _ (g1.trans g2) ⟨r2.l1, r2.l2, r2.rel.drop.drop.push ?_⟩⟩
      rcases denK_get (k := kk) dk2 with ⟨z1, z2⟩ | ⟨d', v', z1, z2, z3⟩
      · rw [z1, z2]; simp only [Option.getD_none, Den]
      · rw [z1, z2]; exact z3
  | _ => exact h1.elim
def gReprI : List D → Option D
  | [.int i] => if i.natAbs.log2 < 1920 then some (.str (toString i)) else none
  | _ => none
end
end Rm
namespace RP
open PySem PySem.Spec L2 Rm
end RP
namespace Rm
open PySem PySem.Spec PySem.W L2
/-- the modules' dict is known to be a dict -/
def sysB (K : Frag) : Bool := match K.lookup sysModules with
  | some o => (match o.data with | .dict _ _ => true | _ => false)
  | none => false
mutual
inductive Dq (K : Frag) (H : Hp) : V → PyData → Prop
  | non : Dq K H .non .none
  | bl (b : Bool) : Dq K H (.bl b) (.bool b)
  | int (i : Int) : Dq K H (.int i) (.int i)
  | str (x : Str) : Dq K H (.str x) (.str x)
  | lst {a xs ds} : SqL K H a xs → DqL K H xs ds → Dq K H (.ref a) (.list ds)
  | tup {a xs ds} : SqT K H a xs → DqL K H xs ds → Dq K H (.ref a) (.tuple ds)
  | edk {a} : Rd H a (.dK []) → Dq K H (.ref a) (.dict [])
inductive DqL (K : Frag) (H : Hp) : List V → List PyData → Prop
  | nil : DqL K H [] []
  | cons {v vs d ds} : Dq K H v d → DqL K H vs ds → DqL K H (v :: vs) (d :: ds)
end
section
variable {X : Cx} {pins : List (Addr × Obj)} {σ : L2.St} {H : Hp} {s : Shared}
theorem sys_seq (b : sysB X.K = true) (I : Inv X pins σ H s) {o : Obj} {xs n} (e : s.heap.get? sysModules = some o) (d : o.data = .seq xs n) : False := by
  unfold sysB at b
  split at b
  · rename_i o' h
    have := I.kIn _ _ h
    rw [e] at this
    cases this
    rw [d] at b
    cases b
  · cases b
mutual
theorem Dq.reads (b : sysB X.K = true) (I : Inv X pins σ H s) : ∀ (d : PyData) (v : V) (u : Value), Dq X.K H v d → RelV v u → ∃ as, Reads s.heap u d as ∧ sysModules ∉ as
  | .none, _, _, h, r => by cases h; cases r; exact ⟨_, .none, by simp⟩
  | .bool c, _, _, h, r => by cases h; cases r; exact ⟨_, .bool c, by simp⟩
  | .int i, _, _, h, r => by cases h; obtain ⟨t, rfl⟩ := r; exact ⟨_, .int i t, by simp⟩
  | .str x, _, _, h, r => by cases h; obtain ⟨t, rfl⟩ := r; exact ⟨_, .str x t, by simp⟩
  | .list ds, _, _, h, r => by
    cases h with
    | lst q qs =>
      cases r
      obtain ⟨its, rv, ⟨o, n, g1, g2, _, g3⟩, _⟩ := I.list q
      obtain ⟨as, rs, na⟩ := DqL.reads b I ds _ its qs rv
      refine ⟨_, .list g1 g2 g3 rs, fun m => ?_⟩
      rcases List.mem_cons.mp m with e | m
      · rw [← e] at g1; exact sys_seq b I g1 g3
      · exact na m
  | .tuple ds, _, _, h, r => by
    cases h with
    | tup q qs =>
      cases r
      obtain ⟨its, rv, ⟨o, g1, g2, n, g3⟩, _⟩ := I.tuple q
      obtain ⟨as, rs, na⟩ := DqL.reads b I ds _ its qs rv
      exact ⟨_, .tuple g1 g2 g3 rs, na⟩
  | .dict [], _, _, h, r => by
    cases h with
    | edk q =>
      cases r
      obtain ⟨_, ne, vs, kv, o, es, ep, g1, g2, g3, _, ps, _⟩ := dk_rd I.hok q
      have e0 : es.toList = [] := by
        cases kv
        cases hh : es.toList with
        | nil => rfl
        | cons a l => rw [hh] at ps; cases ps
      refine ⟨_, .dict (kvs := []) g1 g2.1 g3 (by rw [e0]; exact .nil) (by rw [e0]; exact .nil), ?_⟩
      intro m
      simp at m
      rw [m] at ne
      simp at ne
  | .dict (_ :: _), _, _, h, _ => by cases h
theorem DqL.reads (b : sysB X.K = true) (I : Inv X pins σ H s) : ∀ (ds : List PyData) (vs : List V) (us : List Value), DqL X.K H vs ds → Vals vs us → ∃ as, ReadsAll s.heap us ds as ∧ sysModules ∉ as
  | [], _, _, h, r => by cases h; cases r; exact ⟨_, .nil, by simp⟩
  | d :: ds, _, _, h, r => by
    cases h with
    | cons h1 h2 =>
      cases r with
      | cons r1 r2 =>
        obtain ⟨as, q1, n1⟩ := Dq.reads b I d _ _ h1 r1
        obtain ⟨bs, q2, n2⟩ := DqL.reads b I ds _ _ h2 r2
        exact ⟨_, .cons q1 q2, fun m => (List.mem_append.mp m).elim n1 n2⟩
end
end
mutual
def toQ : D → Option PyData
  | .non => some .none
  | .bl b => some (.bool b)
  | .int i => some (.int i)
  | .str x => some (.str x)
  | .lst xs => (toQs xs).map .list
  | .tup xs => (toQs xs).map .tuple
  | .dK [] => some (.dict [])
  | _ => none
def toQs : List D → Option (List PyData)
  | [] => some []
  | x :: xs => match toQ x, toQs xs with
    | some y, some ys => some (y :: ys)
    | _, _ => none
end
def rpT (x : D) : Option Str := (toQ x).bind fun p => if p.showable = true ∧ p.depth ≤ 60 ∧ p.shown.length ≤ lim then some p.shown else none
def gRepr : List D → Option D
  | [x] => (rpT x).map .str
  | _ => none
section
variable {J : Jc} {κ κ1 : List Kd} {a : Expr} {p pos : Pos} {fr : M (List D)} {as : List Ak} {n : Nat}
end
end Rm
namespace Rm
open PySem PySem.Spec L2
def lstOf : D → Option (List D)
  | .lst xs => some xs
  | .rol xs => some xs
  | _ => none
section
variable {J : Jc} {κ κ1 : List Kd} {a b : Expr} {elts : List Expr} {pos p tpos : Pos} {fr : M (List D)} {kk : Nat} {as : List Ak}
end
end Rm
namespace Rm
open PySem PySem.Spec L2
section
variable {J : Jc} {κ κ1 : List Kd} {a : Expr} {p pos : Pos} {fr : M (List D)}
end
end Rm
namespace Rm
open PySem PySem.Spec L2
def parM (i j : Nat) (fr : M (List D)) : M Fl := fun e => (fr e).bind fun ds e => match ds with
  | [x, y] => .ok .nx ((e.set i x).set j y)
  | _ => .stuck
section
variable {J : Jc} {κ κ1 : List Kd} {a b : Expr} {px py pt pt2 pos : Pos} {kt k2 : Nat} {fr : M (List D)} {as : List Ak} {x y : Str}
theorem sx_par (i j : Nat) (hN : J.X.N.Nodup) (hi : J.X.N[i]? = some x) (hj : J.X.N[j]? = some y) (ha : Ax J κ [a, b] as fr κ1) (hij : i ≠ j := by decide)
    (hx : J.X.env.scope.names.lookup x = some .local := by rfl) (hy : J.X.env.scope.names.lookup y = some .local := by rfl)
    (hf : i < κ1.length := by decide) (hf2 : j < κ1.length := by decide) (hsh : as.all (· == .sh) = true := by rfl) (hhot : J.hot = false := by rfl) (hws : [i, j].all (fun i => J.kx[i]? == some Kd.un) = true := by rfl)
    (hw : swappedStores [.Tuple [.Name x px, .Name y py] kt pt] (.Tuple [a, b] k2 pt2) J.X.env = pure (some [x, y]) := by rfl)
    (hs : swapsWithSole [.Tuple [.Name x px, .Name y py] kt pt] (.Tuple [a, b] k2 pt2) pos.line J.X.env = pure false := by rfl) :
    Sx J κ (.Assign [.Tuple [.Name x px, .Name y py] kt pt] (.Tuple [a, b] k2 pt2) pos) (parM i j fr) ((κ1.set i .sh).set j .sh) := by
  obtain ⟨t, p, q⟩ := ha.ex
  refine ⟨_, ps_par (J.calm hhot) hN hi hj hij hx hy p hw hs, fun R S H σ env D h hq => q _ _ _ _ _ _ h (hq.bind.mono fun ds e1 _ z S1 H1 vs g1 ok r1 => ?_)⟩
  have l := ok.len
  match ds, vs, l, z, r1 with
  | [d1, d2], [v, w], l, z, r1 =>
    have la : as.length = 2 := by simpa using l.1.symm
    have ek : as.map Ak.kd = [.sh, .sh] := by rw [ax_shd hsh, la]; rfl
    rw [ek] at r1
    have r2 : Rl J.G S1 H1 κ1 e1 σ (⟨.sh, d1, some v⟩ :: ⟨.sh, d2, some w⟩ :: R) := r1
    have e1' : κ1[i]? = some (κ1[i]'hf) := List.getElem?_eq_getElem _
    have e2' : e1[i]? = some (e1[i]'(by rw [r2.l2, ← r2.l1]; exact hf)) := List.getElem?_eq_getElem _
    have r3 := r2.store e1' e2'
    have f1' : (κ1.set i Kd.sh)[j]? = some (κ1[j]'hf2) := by rw [List.getElem?_set_ne hij]; exact List.getElem?_eq_getElem _
    have hl : j < e1.length := by rw [r2.l2, ← r2.l1]; exact hf2
    have f2' : (e1.set i d1)[j]? = some (e1[j]'hl) := by rw [List.getElem?_set_ne hij]; exact List.getElem?_eq_getElem _
    have r4 := r3.store f1' f2'
    refine ⟨v, w, rfl, z S1 H1 _ g1 ?_ r4⟩
    refine Agr.fix (ws := [i, j]) ⟨by simp, fun k ek => ?_⟩ hws
    simp at ek
    rw [List.getElem?_set_ne (fun q => ek.2 q.symm), List.getElem?_set_ne (fun q => ek.1 q.symm)]
  | [], _, _, z, _ => exact z.elim
  | [_], _, _, z, _ => exact z.elim
  | _ :: _ :: _ :: _, _, _, z, _ => exact z.elim
  | [_, _], [], l, _, _ => exact absurd (l.1.trans l.2.symm) (by simp)
  | [_, _], [_], l, _, _ => exact absurd (l.1.trans l.2.symm) (by simp)
  | [_, _], _ :: _ :: _ :: _, l, _, _ => exact absurd (l.1.trans l.2.symm) (by simp)
end
end Rm
namespace RP
open PySem PySem.Spec L2 Rm
end RP
namespace Rm
open PySem PySem.Spec L2
def aConsL (i : Nat) (fr : M (List D)) : M (List D) := fun e => (fr e).bind fun ds e => match e[i]? with
  | some d => .ok (d :: ds) e
  | none => .stuck
section
variable {J : Jc} {κ κ1 κ2 κ3 κ' : List Kd} {a b c e o : Expr} {es : List Expr} {pos p apos cpos p2 np : Pos} {fa fb fo : M D} {fr : M (List D)} {as : List Ak} {xn : Str} {m : Nat} {k : Kd} {name id T : String}
theorem ax_ioL (i : Nat) (j : Own) {x : Str} (hN : J.X.N[i]? = some x) (hv : Vis J.X.env.scope x) (hk0 : κ[i]? = some (.ow j)) (hr : Ax J κ es as fr κ2) (hk : κ2[i]? = some (.ow j))
    (hs : starEach (.Name x pos :: es) J.X.env = (false, eval (.Name x pos) J.X.env) :: starEach es J.X.env := by rfl) (hd : (x == ("__debug__" : Str)) = false := by decide) (hcd : (x == ("__classdict__" : Str)) = false := by decide) :
    Ax J κ (.Name x pos :: es) (.io i j :: as) (aConsL i fr) (κ2.set i .un) := by
  obtain ⟨tr, pr, rr⟩ := hr.ex
  refine ⟨tCons (tVar i) tr, pa_cons (pe_var hN hv hd hcd) pr hs, fun R S H σ env Q h q => ?_⟩
  have hi : i < env.length := by rw [h.l2, ← h.l1]; exact (List.getElem?_eq_some_iff.mp hk0).1
  obtain ⟨v, hv', _⟩ := h.take hk0 (List.getElem?_eq_getElem hi)
  refine ⟨v, hv', rr _ _ _ _ _ _ h ((Req.bind q).mono fun ds e2 _ z S2 H2 vs g2 ok r2 => ?_)⟩
  cases ed : e2[i]? with
  | none => rw [ed] at z; exact z.elim
  | some d =>
    rw [ed] at z
    obtain ⟨v2, hv2, h2⟩ := r2.take hk ed
    have e2' : v2 = v := by rw [hv'] at hv2; cases hv2; rfl
    subst e2'
    have r3 := h2 d
    rw [List.set_self' ed] at r3
    exact z S2 H2 (v2 :: vs) g2 ⟨hv', ok⟩ ⟨r3.l1, r3.l2, r3.rel⟩
def slOM (i : Nat) (fl fh : M (Option Int)) : M D := fun e => (vr i e).bind fun d e => (fl e).bind fun lo e => (fh e).bind fun hi e => match d with
  | .lst xs => .ok (.lst (cutD xs lo hi)) (e.set i d)
  | _ => .stuck
def tmpM (T : String) (g : List D → Option (D × List D)) (as : List Ak) (fo : M D) (fr : M (List D)) : M D := fun e => (fo e).bind fun d0 e => if tyD T d0 = true then (fr e).bind fun ds e => match g (d0 :: ds) with
  | some (d, _ :: os) => .ok d (backE as os e)
  | _ => .stuck
  else .stuck
theorem Rel.tyT {G : Gx} {S H xs d v T} {j : Own} (h : Rel G S H (⟨.ow j, d, some v⟩ :: xs)) (t : tyD T d = true) (hd : T ≠ "dict") : tyV G.K T v H := by
  obtain ⟨al, L, q⟩ := h
  cases q with
  | cons he _ _ _ =>
    obtain ⟨w, e, q⟩ := he
    cases e
    exact tyD_ow q t hd
theorem methT_core {to : TE} {ts : List TE} {r : V → List V → Hp → VK → Prop} {j : Own} (hd : T ≠ "dict") {g : List D → Option (D × List D)}
    (ro : ∀ R S H σ env Q, Rl J.G S H κ env σ R → Req J R S H σ (fo env) (fun d e => ∀ S' H' v, Grow S H S' H' → Rl J.G S' H' κ1 e σ (⟨.ow j, d, some v⟩ :: R) → Q v H') → to σ H Q)
    (rt : ∀ R S H σ env Q, Rl J.G S H κ1 env σ R → Req J R S H σ (fr env) (fun ds e => ∀ S' H' vs, Grow S H S' H' → AOk as ds vs σ → Rl J.G S' H' κ2 e σ (ents (as.map Ak.kd) ds (vs.map some) ++ R) → Q vs H') → tAll ts σ H Q)
    (hp : Prim J.G (Rm.rM r) (.ow j :: as.map Ak.kd) k g) {R S H σ env Q} (h : Rl J.G S H κ env σ R)
    (hq : Req J R S H σ (tmpM T g as fo fr env) (fun d e => ∀ S' H' v, Grow S H S' H' → Rl J.G S' H' (backK as κ2) e σ (⟨k, d, some v⟩ :: R) → Q v H')) :
    to σ H fun x H1 => tyV J.X.K T x H1 ∧ tAll ts σ H1 fun xs H2 => r x xs H2 Q := by
  refine ro _ _ _ _ _ _ h (hq.bind.mono fun d0 e1 _ z S1 H1 v0 g1 r1 => ?_)
  by_cases ht : tyD T d0 = true
  · rw [if_pos ht] at z
    refine ⟨r1.rel.tyT ht hd, rt _ _ _ _ _ _ r1 (((Req.later (Req.bind z) g1).tmp _).mono fun ds e2 _ z2 S2 H2 vs g2 ok r2 => ?_)⟩
    have l := ok.len
    cases eg : g (d0 :: ds) with
    | none => rw [eg] at z2; exact z2.elim
    | some p =>
      obtain ⟨d, os⟩ := p
      rw [eg] at z2
      cases os with
      | nil => exact z2.elim
      | cons o0 os =>
      have rel2 : Rel J.G S2 H2 (ents (.ow j :: as.map Ak.kd) (d0 :: ds) ((v0 :: vs).map some) ++ (R ++ ents κ2 e2 σ)) := by
        refine r2.rel.perm ?_
        simp only [List.map_cons, ents, List.cons_append, List.append_assoc]
        exact List.perm_middle
      refine hp S2 H2 (d0 :: ds) (v0 :: vs) d (o0 :: os) (R ++ ents κ2 e2 σ) Q eg (by simp [l.1]) (by simp [l.2]) rel2 fun S3 H3 w g3 le r3 => ?_
      have r4 : Rel J.G S3 H3 (⟨.ow j, o0, some v0⟩ :: ⟨k, d, some w⟩ :: (ents ((as.map Ak.kd).map Kd.out) os (vs.map some) ++ (R ++ ents κ2 e2 σ))) := r3.perm (List.Perm.swap _ _ _)
      refine z2 S3 H3 w ((g1.trans g2).trans g3) (Rl.back (as := as) (T := [⟨k, d, some w⟩]) ok (by simpa using le) ⟨r2.l1, r2.l2, ?_⟩)
      simpa only [List.map_cons, Ak.kd, List.cons_append, List.nil_append, List.append_assoc] using r4.drop
  · rw [if_neg ht] at z
    exact z.elim
theorem ex_bmT0 {r : V → List V → Hp → VK → Prop} {j : Own} {g : List D → Option (D × List D)} (pa : PlainAttrs T) (slot : Slot T name id) (hty : typeOf (.builtin id) = pure (.type "method_descriptor")) (hm : MtR J.X id r) (hd : T ≠ "dict") (hp : Prim J.G (Rm.rM r) [.ow j] k g)
    (ho : Ex J κ o (.ow j) fo κ1) (hbase : attributeBase o name J.X.env (eval o J.X.env) = eval o J.X.env := by rfl) (hline : (apos.endLine == cpos.line) = true := by rfl) :
    Ex J κ (.Call (.Attribute o name apos) [] [] cpos) k (tmpM T g [] fo aNil) κ1 := by
  obtain ⟨to, po, ro⟩ := ho.ex
  exact ⟨_, pe_bm0 pa slot hty hm po hbase hline, fun R S H σ env Q h hq => methT_core (as := []) (ts := []) (fr := aNil) (κ2 := κ1) hd ro (fun R S H σ env Q h q => q S H [] .refl trivial h) hp h hq⟩
theorem ex_clearT (ho : Ex J κ o (.ow 0) fo κ1) (hbase : attributeBase o "clear" J.X.env (eval o J.X.env) = eval o J.X.env := by rfl) (hline : (apos.endLine == cpos.line) = true := by rfl) :
    Ex J κ (.Call (.Attribute o "clear" apos) [] [] cpos) .sh (tmpM "list" (wrG gClear) [] fo aNil) κ1 :=
  ex_bmT0 PySem.F.plainAttrs_list PySem.F.slot_list_clear PySem.F.type_list_clear mt_clear (by decide) (prim_wr wr_clear) ho hbase hline
end
end Rm
namespace Rm
open PySem PySem.Spec L2
def isL : D → Bool
  | .lst _ => true
  | _ => false
/-- a bare address -/
def ptr : V → D
  | .ref a => .fn a
  | _ => .non
def isR : V → Bool
  | .ref _ => true
  | _ => false
theorem denL_ptr_eq {G : Gx} {S H} (hfa : ∀ n, G.fa n = n) : ∀ {vs us : List V}, vs.all isR = true → DenL G S H (vs.map ptr) us → us = vs
  | [], us, _, h => by simpa only [List.map_nil, DenL] using h
  | v :: vs, us, h, q => by
    simp only [List.all_cons, Bool.and_eq_true] at h
    simp only [List.map_cons, DenL] at q
    obtain ⟨w, r, rfl, p, q⟩ := q
    have e1 : w = v := by
      cases v with
      | ref a => simpa only [ptr, Den, hfa] using p
      | _ => cases h.1
    rw [e1, denL_ptr_eq hfa h.2 q]
abbrev inn (k : Nat) (ds : List D) (vs : List V) : List Ent := ents (List.replicate ds.length (.ow (.n k))) ds (vs.map some)
theorem all3_len {P : D → V → List Addr → Prop} : ∀ {ds vs M}, All3 P ds vs M → vs.length = ds.length
  | [], vs, M, h => by rw [h.1]; rfl
  | d :: ds, vs, M, h => by
    obtain ⟨v, r, L1, L2, rfl, rfl, p, q⟩ := h
    simp [all3_len q]
theorem all3_of_relP {G : Gx0} {S H k} : ∀ {ds : List D} {vs : List V} {M}, vs.length = ds.length → RelP G S H (inn k ds vs) M → All3 (DenO G S H (k + 1)) ds vs M ∧ M.Nodup
  | [], [], M, _, h => by
    cases h
    exact ⟨⟨rfl, rfl⟩, .nil⟩
  | d :: ds, v :: vs, M, l, h => by
    have h : RelP G S H (⟨.ow (.n k), d, some v⟩ :: inn k ds vs) M := h
    cases h with
    | @cons _ _ L0 M0 he nd f hr =>
      obtain ⟨q, n2⟩ := all3_of_relP (by simpa using l) hr
      obtain ⟨w, e, p⟩ := he
      cases e
      exact ⟨⟨v, vs, L0, M0, rfl, rfl, p, q⟩, List.nodup_append.mpr ⟨nd, n2, fun a m b mb e => (f a m).2.2 (e ▸ mb)⟩⟩
  | [], _ :: _, _, l, _ => by simp at l
  | _ :: _, [], _, l, _ => by simp at l
/-- .. and put together -/
theorem Rel.whole {G : Gx} {S H xs ds a} {vs : List V} {k : Nat} (hfa : ∀ n, G.fa n = n) (hR : vs.all isR = true) (hl : vs.length = ds.length) (h : Rel G S H (⟨.ow 0, .lst (vs.map ptr), some (.ref a)⟩ :: (inn k ds vs ++ xs))) :
    H a = some (.lst vs) ∧ Rel G S H (⟨.ow (.n (k + 1)), .lst ds, some (.ref a)⟩ :: xs) := by
  obtain ⟨al, L, q⟩ := h
  cases q with
  | @cons _ _ L0 M he nd f hr =>
    obtain ⟨w, e, a', us, M0, e1, ha, e2, hA⟩ := he
    cases e
    cases e1
    subst e2
    obtain ⟨dl, rfl⟩ := All3_zero.mp hA
    have eu := denL_ptr_eq hfa hR dl
    subst eu
    obtain ⟨L1, L2, rfl, p1, p2, dj⟩ := RelP.split hr
    obtain ⟨hA', nd'⟩ := all3_of_relP hl p1
    refine ⟨ha, al, (a :: L1) ++ L2, .cons ⟨_, rfl, a, us, L1, rfl, ha, rfl, hA'⟩ (List.nodup_cons.mpr ⟨fun m => (f a (by simp)).2.2 (List.mem_append_left _ m), nd'⟩) (fun b m => ?_) p2⟩
    rcases List.mem_cons.mp m with rfl | m
    · exact ⟨(f b (by simp)).1, (f b (by simp)).2.1, fun q => (f b (by simp)).2.2 (List.mem_append_right _ q)⟩
    · have o := RelP.off p1 b m
      exact ⟨o.1, o.2, dj b m⟩
def appOM (i : Nat) (fe : M D) : M D := fun e => match e[i]? with
  | some (.lst ds) => (fe e).bind fun d e => if ds.length < lim ∧ isL d = true then .ok .non (e.set i (.lst (ds ++ [d]))) else .stuck
  | _ => .stuck
section
variable {J : Jc} {κ κ1 κ2 κ3 κ' : List Kd} {a b c e o : Expr} {es : List Expr} {pos p apos cpos p2 np : Pos} {fa fb fo fe : M D} {fr : M (List D)} {as : List Ak} {xn : Str} {m : Nat} {k : Kd} {name id T : String}
def clrOM (i : Nat) : M D := fun e => match e[i]? with
  | some (.lst _) => .ok .non (e.set i (.lst []))
  | _ => .stuck
end
end Rm
namespace Rm
open PySem PySem.Spec L2
/-- some slots stay as they are; nothing is raised -/
def Jc.keep (J : Jc) (kx : List Kd) : Jc := { J with kx := kx, W := fun _ _ _ _ => False, tk := takes0 }
theorem Rl.look {G : Gx} {S H κ e σ R ds v k} (h : Rl G S H κ e σ (⟨.ow (.n k), .lst ds, some v⟩ :: R)) : ∃ a vs, v = .ref a ∧ H a = some (.lst vs) ∧ vs.length = ds.length := by
  obtain ⟨_, _, q⟩ := h.rel
  cases q with
  | cons he _ _ _ =>
    obtain ⟨w, e, a, vs, M, e1, ha, _, hA⟩ := he
    cases e
    exact ⟨a, vs, e1, ha, all3_len hA⟩
/-- for y in xs[k], xs a list of lists, one's own, that the body lets be -/
def forIM (i : Nat) (k : Int) (g : D → List D → Option (List D)) (fb : M Fl) : M Fl := fun e => match e[i]? with
  | some (.lst ds) => match atI ds k with
    | some (.lst us) => if ds.all isL = true then (match forGo g fb us e with
      | .ok .nx e' => .ok .nx (e'.set i (.lst ds))
      | _ => .stuck) else .stuck
    | _ => .stuck
  | _ => .stuck
section
variable {J : Jc} {κ κ1 κ2 κ3 κ' : List Kd} {a b c e o ix : Expr} {es : List Expr} {pos p apos cpos p2 np spos xp : Pos} {fa fb0 fo fe : M D} {fr : M (List D)} {as : List Ak} {xn yn : Str} {m : Nat} {fb : M Fl} {body : List Stmt} {tg : Expr}
end
end Rm
namespace Rm
open PySem PySem.Spec L2
def forOGo (x : Nat) (fb : M Fl) : List D → List D → M (List D)
  | [], acc, e => .ok acc e
  | d :: r, acc, e => match fb (e.set x d) with
    | .ok .nx e' => match e'[x]? with
      | some d' => forOGo x fb r (acc ++ [d']) e'
      | none => .stuck
    | _ => .stuck
def forOM (i x : Nat) (fb : M Fl) : M Fl := fun e => match e[i]? with
  | some (.lst ds) => if ds.all isL = true then (match forOGo x fb ds [] e with
    | .ok ds' e' => .ok .nx (e'.set i (.lst ds'))
    | _ => .stuck) else .stuck
  | _ => .stuck
section
variable {J : Jc} {κ κ1 κ2 κ3 κ' : List Kd} {a b c e o ix : Expr} {es : List Expr} {pos p apos cpos p2 np spos xp : Pos} {fa fb0 fo fe : M D} {fr : M (List D)} {as : List Ak} {xn yn : Str} {m : Nat} {fb : M Fl} {body : List Stmt} {tg : Expr}
end
end Rm
namespace RP
open PySem PySem.Spec L2 Rm
end RP
namespace Rm
open PySem PySem.Spec L2
def gMulS : List D → Option D
  | [.str z, .int n] => if z.length ≤ 4000 ∧ 0 ≤ n ∧ n ≤ 4000 then some (.str (Txt.mul z n)) else none
  | _ => none
section
variable {J : Jc} {κ κ1 κ2 : List Kd} {a b o e : Expr} {pos apos cpos : Pos} {fr : M (List D)} {fa fo fe : M D} {as : List Ak}
end
end Rm
namespace RP
open PySem PySem.Spec L2 Rm
end RP
namespace Rm
open PySem PySem.Spec L2
def itemsD : D → Option (List D)
  | .dK kvs => some (kvs.map fun kv => .tup [kD kv.1, kv.2])
  | _ => none
def itM (g : List D → Option D) : M (List D) := fun e => match g e with
  | some d => match itemsD d with
    | some ks => .ok ks e
    | none => .stuck
  | none => .stuck
section
variable {J : Jc} {κ κ1 κ2 κ' κb κ3 κ4 : List Kd} {a e : Expr} {pos apos cpos tpos : Pos} {g : List D → Option D} {elts : List Expr} {kk : Nat}
def forIT (g : List D → Option D) (tg : D → List D → Option (List D)) (body : M Fl) : M Fl := fun e => (forM' (itM g) tg body e).noX
def lcIT (g : List D → Option D) (own : List Nat) (tg : D → List D → Option (List D)) (c : M Bool) (f : M D) : M D := fun e => (lcM (itM g) own tg c f e).noX
variable {elt iter : Expr} {ifs : List Expr} {scope : Scope} {own : List (Str × Nat)} {gt : D → List D → Option (List D)} {f1 : M Bool} {fe : M D} {ws : List Nat}
end
mutual
def ttD : D → Bool
  | .tup ds => ttL ds
  | d => (vOf d).isSome
def ttL : List D → Bool
  | [] => true
  | d :: ds => ttD d && ttL ds
end
def notT (o : Option HO) : Prop := ∀ vs, o ≠ some (.tup vs) ∧ ∀ ob, o ≠ some (.frz ob (.tup vs))
theorem all3_mem {P : D → V → List Addr → Prop} {b : Addr} : ∀ {ds vs M}, All3 P ds vs M → b ∈ M → ∃ d v L, P d v L ∧ b ∈ L
  | [], _, _, h, m => by rw [h.2] at m; cases m
  | d :: ds, vs, M, h, m => by
    obtain ⟨v, r, L1, L2, rfl, rfl, p, q⟩ := h
    rcases List.mem_append.mp m with m | m
    · exact ⟨d, v, L1, p, m⟩
    · exact all3_mem q m
theorem denO_nt {G S H b} : ∀ {k d v L}, DenO G S H k d v L → b ∈ L → notT (H b)
  | 0, _, _, _, h, m => by rw [h.2] at m; cases m
  | k + 1, .lst ds, v, L, h, m => by
    obtain ⟨a, vs, M, rfl, e, rfl, q⟩ := h
    rcases List.mem_cons.mp m with rfl | m
    · intro vs'; rw [e]; exact ⟨(fun z => by cases z), fun ob z => by cases z⟩
    · obtain ⟨d, v, L, p, m⟩ := all3_mem q m
      exact denO_nt p m
  | k + 1, .dK ds, v, L, h, m => by
    obtain ⟨a, vs, M, rfl, e, rfl, _, q⟩ := h
    rcases List.mem_cons.mp m with rfl | m
    · intro vs'; rw [e]; exact ⟨(fun z => by cases z), fun ob z => by cases z⟩
    · obtain ⟨d, v, L, p, m⟩ := all3_mem q m
      exact denO_nt p m
  | k + 1, .dT ds, v, L, h, m => by
    obtain ⟨a, vs, M, rfl, e, rfl, _, q⟩ := h
    rcases List.mem_cons.mp m with rfl | m
    · intro vs'; rw [e]; exact ⟨(fun z => by cases z), fun ob z => by cases z⟩
    · obtain ⟨d, v, L, p, m⟩ := all3_mem q m
      exact denO_nt p m
  | k + 1, .ins c ds, v, L, h, m => by
    obtain ⟨a, dx, vs, M, rfl, e, e2, rfl, _, q⟩ := h
    rcases List.mem_cons.mp m with rfl | m
    · intro vs'; rw [e]; exact ⟨(fun z => by cases z), fun ob z => by cases z⟩
    · rcases List.mem_cons.mp m with rfl | m
      · intro vs'; rw [e2]; exact ⟨(fun z => by cases z), fun ob z => by cases z⟩
      · obtain ⟨d, v, L, p, m⟩ := all3_mem q m
        exact denO_nt p m
  | k + 1, .non, v, L, h, m | k + 1, .bl _, v, L, h, m | k + 1, .int _, v, L, h, m | k + 1, .str _, v, L, h, m | k + 1, .tup _, v, L, h, m | k + 1, .fn _, v, L, h, m | k + 1, .rol _, v, L, h, m | k + 1, .ty _, v, L, h, m | k + 1, .cls _, v, L, h, m => by
    simp only [DenO] at h
    rw [h.2] at m; cases m
theorem allF_nt {G S H b} : ∀ {ks ds vs M}, AllF G S H ks ds vs M → b ∈ M → notT (H b)
  | [], [], _, _, h, m => by rw [h.2] at m; cases m
  | k :: ks, d :: ds, vs, M, h, m => by
    obtain ⟨v, r, L1, L2, rfl, rfl, p, q⟩ := h
    rcases List.mem_append.mp m with m | m
    · cases k with
      | none => rw [p.1] at m; cases m
      | some j => exact denO_nt p m
    · exact allF_nt q m
  | [], _ :: _, _, _, h, _ => h.elim
  | _ :: _, [], _, _, h, _ => h.elim
theorem relP_nt {G S H b xs L} (h : RelP G S H xs L) : b ∈ L → notT (H b) := by
  induction h with
  | nil => intro m; cases m
  | @cons x xs L0 M he nd f hr ih =>
    intro m
    rcases List.mem_append.mp m with m | m
    · obtain ⟨k, d, v⟩ := x
      cases k with
      | un => rw [show L0 = [] from he] at m; cases m
      | sh => rw [he.1] at m; cases m
      | at_ a => rw [he.1] at m; cases m
      | ow o =>
        obtain ⟨w, e, q⟩ := he
        cases o with
        | n k => exact denO_nt q m
        | ob ks =>
          cases d with
          | ins c fs =>
            obtain ⟨a, dx, ws, M, rfl, e, e2, rfl, _, q⟩ := q
            rcases List.mem_cons.mp m with rfl | m
            · intro vs'; rw [e]; exact ⟨(fun z => by cases z), fun ob z => by cases z⟩
            · rcases List.mem_cons.mp m with rfl | m
              · intro vs'; rw [e2]; exact ⟨(fun z => by cases z), fun ob z => by cases z⟩
              · exact allF_nt q m
          | _ => rw [q.2] at m; cases m
        | tp ks =>
          cases d with
          | tup fs =>
            obtain ⟨a, ws, rfl, s, e, q⟩ := q
            exact allF_nt q m
          | _ => rw [q.2] at m; cases m
    · exact ih m
mutual
theorem den_tt {G S' S'' H'} (hs : ∀ b, S' b → ¬ notT (H' b) → S'' b) : ∀ {d v}, ttD d = true → Den G S' H' d v → Den G S'' H' d v
  | .tup ds, v, t, h => by
    simp only [ttD] at t
    simp only [Den] at h ⊢
    obtain ⟨a, vs, rfl, q, l⟩ := h
    refine ⟨a, vs, rfl, ?_, denL_tt hs t l⟩
    rcases q with ⟨s, r⟩ | q
    · refine .inl ⟨hs a s fun nt => ?_, r⟩
      rcases r with r | ⟨ob, r⟩
      · exact (nt vs).1 r
      · exact (nt vs).2 ob r
    · exact .inr q
  | .non, v, t, h | .bl _, v, t, h | .int _, v, t, h | .str _, v, t, h | .ty _, v, t, h | .fn _, v, t, h | .cls _, v, t, h => by simpa only [Den] using h
  | .lst _, _, t, _ | .rol _, _, t, _ | .dK _, _, t, _ | .dT _, _, t, _ | .ins _ _, _, t, _ | .tok _ _, _, t, _ => by simp [ttD, vOf] at t
theorem denL_tt {G S' S'' H'} (hs : ∀ b, S' b → ¬ notT (H' b) → S'' b) : ∀ {ds vs}, ttL ds = true → DenL G S' H' ds vs → DenL G S'' H' ds vs
  | [], _, _, h => by simpa only [DenL] using h
  | d :: ds, vs, t, h => by
    simp only [ttL, Bool.and_eq_true] at t
    simp only [DenL] at h ⊢
    obtain ⟨v, r, e, p, q⟩ := h
    exact ⟨v, r, e, den_tt hs t.1 p, denL_tt hs t.2 q⟩
end
def viewOM (f : M D) : M D := fun e => match f e with
  | .ok (.lst ds) _ => if ttL ds = true then .ok (.lst ds) e else .stuck
  | _ => .stuck
section
variable {J : Jc} {κ κ1 κf κ' : List Kd} {e : Expr} {f : M D}
end
end Rm
namespace Rm
open PySem PySem.Spec L2
/-- a reading whose answer is a tuple of plain things -/
def viewTM (f : M D) : M D := fun e => match f e with
  | .ok d _ => if ttD d = true then .ok d e else .stuck
  | _ => .stuck
section
variable {J : Jc} {κ κ1 κf κ' : List Kd} {e : Expr} {f : M D}
end
section
variable {J : Jc} {κ κ1 : List Kd} {st : Stmt} {fs1 : M Fl}
end
end Rm
namespace RP
open PySem PySem.Spec L2 Rm
end RP
namespace Rm
open PySem PySem.Spec PyProof.Rows L2
section
variable {P : Program} {w : World} {A : Around} {E : Value → Shared → Prop} {s : Shared}
end
end Rm
namespace Rm
open PySem PySem.Spec PyProof.Rows L2
section
variable {X : Cx} {a : Expr} {x y : Str} {p p2 q pos : Pos} {t : TE}
end
section
variable {J : Jc} {κ κ1 : List Kd} {a : Expr} {p p2 q pos : Pos} {fr : M (List D)}
end
end Rm
namespace Rm
open PySem PySem.Spec PyProof.Rows L2
def gEqL0 : List D → Option D
  | [x, .lst []] => (lstOf x).map fun xs => .bl xs.isEmpty
  | _ => none
section
variable {J : Jc} {as : List Ak} {n : Nat}
end
end Rm
namespace Rm
open PySem PySem.Spec PyProof.Rows L2
open PySem.W (Frag)
section
variable {J : Jc} {as : List Ak}
end
section
variable {J : Jc} {κ κ1 : List Kd} {a : Expr} {p pos : Pos} {fr : M (List D)} {as : List Ak} {n : Nat}
end
end Rm
namespace RP
open PySem PySem.Spec L2 Rm
end RP
namespace Rm
open PySem PySem.Spec PyProof.Rows L2
open PySem.W (Frag)
def gStarts : List D → Option D
  | [.str a, .str b] => some (.bl (Txt.startswith a b))
  | _ => none
def kgetM (kvs : List (Str × Int)) (fe ff : M D) : M D := fun e => (fe e).bind fun d e => (ff e).bind fun d2 e => match d with
  | .str z => .ok (match kvs.lookup z with | some k => .int k | none => d2) e
  | _ => .stuck
section
variable {J : Jc} {κ κ1 κ2 : List Kd} {o e f : Expr} {pos p apos cpos : Pos} {fo fe ff : M D} {fr : M (List D)} {x : Str} {n : Nat}
end
end Rm
namespace Rm
open PySem PySem.Spec PyProof.Rows L2
open PySem.W (Frag)
def swapR (i ja jb : Nat) : D → List D → Option (List D)
  | .tup [x, y], e => match e[i]? with
    | some (.lst ds) => match e[ja]? with
      | some (.int m) => match e[jb]? with
        | some (.int n) => (ixN ds.length m).bind fun a => (ixN ds.length n).map fun b => e.set i (.lst ((ds.set a x).set b y))
        | _ => none
      | _ => none
    | _ => none
  | _, _ => none
def swapM (i ja jb : Nat) (fe : M D) : M Fl := fun e => (fe e).bind fun d e => match swapR i ja jb d e with | some e => .ok .nx e | none => .stuck
section
variable {J : Jc} {κ κ1 : List Kd} {e : Expr} {pos np1 np2 ap bp tp1 tp2 tp : Pos} {kk : Nat} {fe : M D} {xn an bn : Str}
end
end Rm
namespace Rm
open PySem PySem.Spec PyProof.Rows L2
structure SaysK (fa : List He.Fa) (fn : List He.DefD) (ex : PySem.W.Frag → Bool) (dl : List (Str × List Str)) (w : World) (K : PySem.W.Frag) : Prop where
  r : SaysR fa fn ex K
  ks : (dl.map (fun p : Str × List Str => p.1)).map (fun x => He.dicW K (He.ga K x)) = dl.map fun p => some (He.keysIn w.params p.2)
theorem SaysK.at_ {fa fn ex dl w K} (s : SaysK fa fn ex dl w K) (i : Nat) {p : Str × List Str} (h : dl[i]? = some p) : He.dicW K (He.ga K p.1) = some (He.keysIn w.params p.2) := by
  have := congrArg (·[i]?) s.ks
  simp only [List.getElem?_map, h, Option.map_some] at this
  exact Option.some.inj this
end Rm
namespace RP
open PySem PySem.Spec L2 Rm
def b_l_is_name (clt : ClT) : M Fl :=
 sCons (sRet (bD (andB (asB (chain3 (cn (.int 1)) (primM (ro gLen2) [.sh] (aCons (vr 0) (aNil))) (cn (.int 6)) gLe gLe)) (asB (primM (ro gEq) [.sh, .sh] (aCons (lcM (strM (vr 0)) [1] (tName 1) (asB (primM (ro gNotIn2) [.sh, .sh] (aCons (vr 1) (aCons (cn (.str ("abcdefghijklmnopqrstuvwxyz" : Str))) (aNil))))) (vr 1)) (aCons (lstM (aNil)) (aNil))))))))
 (sNil)
def F_l_is_name (clt : ClT) : List D → Out D := runF 1 1 (b_l_is_name clt)
def b_l_due_k54 (clt : ClT) : M Fl :=
 sCons (ifM (notB (asB (primM (ro (gIsi2 clt)) [.sh, .sh] (aCons (vr 0) (aCons (cn (.ty "str")) (aNil))))))
 (sCons (sRet (cn .non))
 (sNil))
 (sNil))
 (sCons (ifM (asB (primM (ro gEq) [.sh, .sh] (aCons (slM (vr 0) (oNone) (oSome (cn (.int 4))) gSlS) (aCons (cn (.str ("web " : Str))) (aNil)))))
 (sCons (sRet (tupM (aCons (cn (.str ("web" : Str))) (aCons (slM (vr 0) (oSome (cn (.int 4))) (oNone) gSlS) (aNil)))))
 (sNil))
 (sNil))
 (sCons (sAsg (methM "str" (ro (nl gSplit)) .sh [.sh] (vr 0) (aCons (cn (.str (" " : Str))) aNil)) (tName 1))
 (sCons (sAsg (methM "str" (ro (nl gSplit)) .sh [.sh] (cn (.str ("web turn undo show order marks rounds plain chains spans flat least size" : Str))) (aCons (cn (.str (" " : Str))) aNil)) (tName 2))
 (sCons (ifM (asB (primM (ro gEq) [.sh, .sh] (aCons (primM (ro gLen2) [.sh] (aCons (vr 1) (aNil))) (aCons (cn (.int 1)) (aNil)))))
 (sCons (sRet (ifM (asB (primM (ro gIn2) [.sh, .sh] (aCons (vr 0) (aCons (vr 2) (aNil))))) (primM (ro gTuple) [.sh] (aCons (vr 1) (aNil))) (cn .non)))
 (sNil))
 (sNil))
 (sCons (sAsg (lcM (seqM (slM (vr 1) (oSome (cn (.int 1))) (oNone) gSlL)) [4] (tName 4) (asB (callM (F_l_is_name clt) [.sh] (aCons (vr 4) (aNil)))) (vr 4)) (tName 3))
 (sCons (ifM (andB (asB (primM (ro gEq) [.sh, .sh] (aCons (primM (ro Rm.gSub) [.sh, .sh] (aCons (vr 1) (aCons (cn (.int 0)) (aNil)))) (aCons (cn (.str ("rule" : Str))) (aNil))))) (asB (primM (ro gEq) [.sh, .sh] (aCons (primM (ro Rm.gSub) [.sh, .sh] (aCons (vr 1) (aCons (cn (.int 1)) (aNil)))) (aCons (cn (.str ("order" : Str))) (aNil))))))
 (sCons (sRet (ifM (asB (primM (ro gEq) [.sh, .sh] (aCons (primM (ro gLen2) [.io 3 0] (aCons (vr 3) (aNil))) (aCons (primM (ro (gI cAny fun i j => i - j)) [.sh, .sh] (aCons (primM (ro gLen2) [.sh] (aCons (vr 1) (aNil))) (aCons (cn (.int 1)) (aNil)))) (aNil))))) (primM (ro gTuple) [.sh] (aCons (vr 1) (aNil))) (cn .non)))
 (sNil))
 (sNil))
 (sCons (ifM (asB (primM (ro gEq) [.sh, .sh] (aCons (primM (ro Rm.gSub) [.sh, .sh] (aCons (vr 1) (aCons (cn (.int 0)) (aNil)))) (aCons (cn (.str ("rule" : Str))) (aNil)))))
 (sCons (sRet (ifM (asB (primM (ro gIn2) [.sh, .sh] (aCons (slM (vr 1) (oSome (cn (.int 1))) (oNone) gSlL) (aCons (lstM (aCons (lstM (aCons (cn (.str ("ties" : Str))) (aNil))) (aCons (lstM (aCons (cn (.str ("reach" : Str))) (aNil))) (aCons (lstM (aCons (cn (.str ("back" : Str))) (aNil))) (aNil))))) (aNil))))) (primM (ro gTuple) [.sh] (aCons (vr 1) (aNil))) (cn .non)))
 (sNil))
 (sNil))
 (sCons (ifM (asB (primM (ro gLt) [.sh, .sh] (aCons (primM (ro gLen2) [.io 3 0] (aCons (vr 3) (aNil))) (aCons (primM (ro (gI cAny fun i j => i - j)) [.sh, .sh] (aCons (primM (ro gLen2) [.sh] (aCons (vr 1) (aNil))) (aCons (cn (.int 1)) (aNil)))) (aNil)))))
 (sCons (sRet (cn .non))
 (sNil))
 (sNil))
 (sCons (ifM (andB (asB (primM (ro gIn2) [.sh, .sh] (aCons (primM (ro Rm.gSub) [.sh, .sh] (aCons (vr 1) (aCons (cn (.int 0)) (aNil)))) (aCons (lstM (aCons (cn (.str ("place" : Str))) (aCons (cn (.str ("drop" : Str))) (aCons (cn (.str ("marks" : Str))) (aNil))))) (aNil))))) (asB (primM (ro gEq) [.sh, .sh] (aCons (primM (ro gLen2) [.sh] (aCons (vr 1) (aNil))) (aCons (cn (.int 2)) (aNil))))))
 (sCons (sRet (primM (ro gTuple) [.sh] (aCons (vr 1) (aNil))))
 (sNil))
 (sNil))
 (sCons (ifM (andB (asB (primM (ro gIn2) [.sh, .sh] (aCons (primM (ro Rm.gSub) [.sh, .sh] (aCons (vr 1) (aCons (cn (.int 0)) (aNil)))) (aCons (lstM (aCons (cn (.str ("tie" : Str))) (aCons (cn (.str ("untie" : Str))) (aCons (cn (.str ("reach" : Str))) (aCons (cn (.str ("way" : Str))) (aCons (cn (.str ("between" : Str))) (aNil))))))) (aNil))))) (asB (primM (ro gEq) [.sh, .sh] (aCons (primM (ro gLen2) [.sh] (aCons (vr 1) (aNil))) (aCons (cn (.int 3)) (aNil))))))
 (sCons (sRet (primM (ro gTuple) [.sh] (aCons (vr 1) (aNil))))
 (sNil))
 (sNil))
 (sCons (sRet (cn .non))
 (sNil))))))))))))
def F_l_due_k54 (clt : ClT) : List D → Out D := runF 1 4 (b_l_due_k54 clt)
def b_are_names (clt : ClT) : M Fl :=
 sCons (sRet (primM (ro gEq) [.sh, .sh] (aCons (lcM (seqM (vr 0)) [1] (tName 1) (notB (asB (callM (F_is_name clt) [.sh] (aCons (vr 1) (aNil))))) (vr 1)) (aCons (lstM (aNil)) (aNil)))))
 (sNil)
def F_are_names (clt : ClT) : List D → Out D := runF 1 1 (b_are_names clt)
def b_fits (clt : ClT) : M Fl :=
 sCons (ifM (asB (primM (ro gEq) [.sh, .sh] (aCons (primM (ro gLen2) [.sh] (aCons (vr 0) (aNil))) (aCons (cn (.int 1)) (aNil)))))
 (sCons (sRet (bD (orB (asB (primM (ro gIn2) [.sh, .sh] (aCons (primM (ro Rm.gSub) [.sh, .sh] (aCons (vr 0) (aCons (cn (.int 0)) (aNil)))) (aCons (cn (.tup (([("turn" : Str), ("undo" : Str), ("show" : Str), ("order" : Str), ("marks" : Str), ("rounds" : Str), ("plain" : Str), ("chains" : Str), ("spans" : Str), ("flat" : Str), ("least" : Str), ("size" : Str)] : List Str).map .str))) (aNil))))) (asB (primM (ro gEq) [.sh, .sh] (aCons (primM (ro Rm.gSub) [.sh, .sh] (aCons (vr 0) (aCons (cn (.int 0)) (aNil)))) (aCons (cn (.str ("web" : Str))) (aNil))))))))
 (sNil))
 (sNil))
 (sCons (ifM (asB (primM (ro gEq) [.sh, .sh] (aCons (primM (ro Rm.gSub) [.sh, .sh] (aCons (vr 0) (aCons (cn (.int 0)) (aNil)))) (aCons (cn (.str ("rule" : Str))) (aNil)))))
 (sCons (sRet (bD (orB (andB (asB (primM (ro gEq) [.sh, .sh] (aCons (primM (ro Rm.gSub) [.sh, .sh] (aCons (vr 0) (aCons (cn (.int 1)) (aNil)))) (aCons (cn (.str ("order" : Str))) (aNil))))) (asB (callM (F_are_names clt) [.sh] (aCons (slM (vr 0) (oSome (cn (.int 2))) (oNone) gSlL) (aNil))))) (andB (asB (primM (ro gEq) [.sh, .sh] (aCons (primM (ro gLen2) [.sh] (aCons (vr 0) (aNil))) (aCons (cn (.int 2)) (aNil))))) (asB (primM (ro gIn2) [.sh, .sh] (aCons (primM (ro Rm.gSub) [.sh, .sh] (aCons (vr 0) (aCons (cn (.int 1)) (aNil)))) (aCons (cn (.tup (([("ties" : Str), ("reach" : Str), ("back" : Str)] : List Str).map .str))) (aNil)))))))))
 (sNil))
 (sNil))
 (sCons (sRet (bD (andB (asB (primM (ro gEq) [.sh, .sh] (aCons (primM (ro (gI cAny fun i j => i - j)) [.sh, .sh] (aCons (primM (ro gLen2) [.sh] (aCons (vr 0) (aNil))) (aCons (cn (.int 1)) (aNil)))) (aCons (kgetM ([(("place" : Str), 1), (("drop" : Str), 1), (("marks" : Str), 1), (("tie" : Str), 2), (("untie" : Str), 2), (("reach" : Str), 2), (("way" : Str), 2), (("between" : Str), 2)] : List (Str × Int)) (primM (ro Rm.gSub) [.sh, .sh] (aCons (vr 0) (aCons (cn (.int 0)) (aNil)))) (cn (.int 0))) (aNil))))) (asB (callM (F_are_names clt) [.sh] (aCons (slM (vr 0) (oSome (cn (.int 1))) (oNone) gSlL) (aNil)))))))
 (sNil)))
def F_fits (clt : ClT) : List D → Out D := runF 1 0 (b_fits clt)
def b_read_line (clt : ClT) : M Fl :=
 sCons (ifM (notB (asB (primM (ro (gIsi2 clt)) [.sh, .sh] (aCons (vr 0) (aCons (cn (.ty "str")) (aNil))))))
 (sCons (raiseM 13 [("line" : Str)] (aCons (vr 0) (aNil)))
 (sNil))
 (sNil))
 (sCons (ifM (asB (methM "str" (ro gStarts) .sh [.sh] (vr 0) (aCons (cn (.str ("web " : Str))) aNil)))
 (sCons (sRet (tupM (aCons (cn (.str ("web" : Str))) (aCons (slM (vr 0) (oSome (cn (.int 4))) (oNone) gSlS) (aNil)))))
 (sNil))
 (sNil))
 (sCons (sAsg (methM "str" (ro (nl gSplit)) .sh [.sh] (vr 0) (aCons (cn (.str (" " : Str))) aNil)) (tName 1))
 (sCons (ifM (notB (asB (callM (F_fits clt) [.sh] (aCons (vr 1) (aNil)))))
 (sCons (raiseM 13 [("line" : Str)] (aCons (vr 0) (aNil)))
 (sNil))
 (sNil))
 (sCons (sRet (primM (ro gTuple) [.sh] (aCons (vr 1) (aNil))))
 (sNil)))))
def F_read_line (clt : ClT) : List D → Out D := runF 1 1 (b_read_line clt)
def b_l_tried (clt : ClT) : M Fl :=
 sCons (tryM [0, 13] (sCons (sRet (lstM (aCons (cn (.str ("told" : Str))) (aCons (callM (F_read_line clt) [.sh] (aCons (vr 0) (aNil))) (aNil)))))
 (sNil)) [⟨[13], fun (fs : List (Str × D)) => (sCons (sRet (lstM (aCons (cn (.str ("line" : Str))) (aCons (primM (ro gRepr) [.sh] (aCons (cnX fs ("line" : Str)) (aNil))) (aNil)))))
 (sNil))⟩, ⟨[0, 13], fun (fs : List (Str × D)) => (sCons (sRet (lstM (aCons (cn (.str ("other" : Str))) (aCons (cn (.str ("" : Str))) (aNil)))))
 (sNil))⟩])
 (sNil)
def F_l_tried (clt : ClT) : List D → Out D := runF 1 1 (b_l_tried clt)
def b_l_long_right (clt : ClT) : M Fl :=
 sCons (forM' (seqM (lstM (aCons (primM (ro gAdd) [.sh, .sh] (aCons (cn (.str ("web " : Str))) (aCons (primM (ro gMulS) [.sh, .sh] (aCons (cn (.str ("a" : Str))) (aCons (cn (.int 2996)) (aNil)))) (aNil)))) (aCons (primM (ro gAdd) [.sh, .sh] (aCons (cn (.str ("show" : Str))) (aCons (primM (ro gMulS) [.sh, .sh] (aCons (cn (.str (" " : Str))) (aCons (cn (.int 2996)) (aNil)))) (aNil)))) (aCons (primM (ro gAdd) [.sh, .sh] (aCons (cn (.str ("rule order" : Str))) (aCons (primM (ro gMulS) [.sh, .sh] (aCons (cn (.str (" a" : Str))) (aCons (cn (.int 1495)) (aNil)))) (aNil)))) (aCons (primM (ro gAdd) [.sh, .sh] (aCons (cn (.str ("tie a " : Str))) (aCons (primM (ro gMulS) [.sh, .sh] (aCons (cn (.str ("b" : Str))) (aCons (cn (.int 2994)) (aNil)))) (aNil)))) (aNil))))))) (tName 0)
 (sCons (sAsg (callM (F_l_due_k54 clt) [.sh] (aCons (vr 0) (aNil))) (tName 1))
 (sCons (sAsg (lstM (aCons (cn (.str ("line" : Str))) (aCons (primM (ro gRepr) [.sh] (aCons (vr 0) (aNil))) (aNil)))) (tName 2))
 (sCons (ifM (asB (primM (ro gNotN) [.sh, .sh] (aCons (vr 1) (aCons (cn .non) (aNil)))))
 (sCons (sAsg (lstM (aCons (cn (.str ("told" : Str))) (aCons (vr 1) (aNil)))) (tName 2))
 (sNil))
 (sNil))
 (sCons (ifM (asB (primM (ro gNe) [.sh, .sh] (aCons (callM (F_l_tried clt) [.sh] (aCons (vr 0) (aNil))) (aCons (vr 2) (aNil)))))
 (sCons (sRet (cn (.bl false)))
 (sNil))
 (sNil))
 (sNil))))))
 (sCons (sRet (cn (.bl true)))
 (sNil))
@[irreducible] def F_l_long_right (clt : ClT) : List D → Out D := runF 0 3 (b_l_long_right clt)
def b_l_take_k54 (clt : ClT) : M Fl :=
 sCons (ifM (asB (primM (ro gGt) [.sh, .sh] (aCons (primM (ro gSubO) [.io 0 0, .sh] (aCons (vr 0) (aCons (cn (.int 0)) (aNil)))) (aCons (cn (.int 0)) (aNil)))))
 (sCons (sAsg (primM (ro (gI cMod fun i j => i % j)) [.sh, .sh] (aCons (primM (ro gSubO) [.io 0 0, .sh] (aCons (vr 0) (aCons (cn (.int 0)) (aNil)))) (aCons (vr 1) (aNil)))) (tName 2))
 (sCons (setIM 0 (primM (ro (gI cDiv fun i j => i / j)) [.sh, .sh] (aCons (primM (ro gSubO) [.io 0 0, .sh] (aCons (vr 0) (aCons (cn (.int 0)) (aNil)))) (aCons (vr 1) (aNil)))) (cn (.int 0)))
 (sCons (sRet (vr 2))
 (sNil))))
 (sNil))
 (sCons (sAsg (primM (ro gAdd) [.sh, .sh] (aCons (primM (ro gSubO) [.io 0 0, .sh] (aCons (vr 0) (aCons (cn (.int 2)) (aNil)))) (aCons (cn (.int 1)) (aNil)))) (tName 3))
 (sCons (setIM 0 (vr 3) (cn (.int 2)))
 (sCons (sAsg (primM (ro (gI cMod fun i j => i % j)) [.sh, .sh] (aCons (primM (ro gAdd) [.sh, .sh] (aCons (primM (ro gAdd) [.sh, .sh] (aCons (primM (ro gSubO) [.io 0 0, .sh] (aCons (vr 0) (aCons (cn (.int 1)) (aNil)))) (aCons (primM (ro (gI cMul fun i j => i * j)) [.sh, .sh] (aCons (primM (ro (gI cMul fun i j => i * j)) [.sh, .sh] (aCons (cn (.int 7919)) (aCons (vr 3) (aNil)))) (aCons (vr 3) (aNil)))) (aNil)))) (aCons (primM (ro (gI cMul fun i j => i * j)) [.sh, .sh] (aCons (cn (.int 104729)) (aCons (vr 3) (aNil)))) (aNil)))) (aCons (cn (.int 2147483647)) (aNil)))) (tName 4))
 (sCons (sAsg (primM (ro (gI cMod fun i j => i % j)) [.sh, .sh] (aCons (primM (ro (gI cPow fun i j => i ^ j.toNat)) [.sh, .sh] (aCons (vr 4) (aCons (cn (.int 5)) (aNil)))) (aCons (cn (.int 2147483647)) (aNil)))) (tName 4))
 (sCons (sRet (primM (ro (gI cMod fun i j => i % j)) [.sh, .sh] (aCons (primM (ro (gI cDiv fun i j => i / j)) [.sh, .sh] (aCons (primM (ro (gI cMod fun i j => i % j)) [.sh, .sh] (aCons (primM (ro gAdd) [.sh, .sh] (aCons (primM (ro (gI cMul fun i j => i * j)) [.sh, .sh] (aCons (vr 4) (aCons (vr 4) (aNil)))) (aCons (primM (ro (gI cMul fun i j => i * j)) [.sh, .sh] (aCons (cn (.int 31)) (aCons (vr 3) (aNil)))) (aNil)))) (aCons (cn (.int 2147483629)) (aNil)))) (aCons (cn (.int 8)) (aNil)))) (aCons (vr 1) (aNil)))))
 (sNil))))))
def F_l_take_k54 (clt : ClT) : List D → Out D := runF 2 3 (b_l_take_k54 clt)
def b_l_names (clt : ClT) : M Fl :=
 sCons (sAsg (cn (.str ("abcdefghijklmnopqrstuvwxyz" : Str))) (tName 2))
 (sCons (sAsg (lstM (aCons (cn (.str ("reach" : Str))) (aCons (cn (.str ("web" : Str))) (aCons (cn (.str ("tie" : Str))) (aCons (cn (.str ("marks" : Str))) (aCons (cn (.str ("ahead" : Str))) (aCons (cn (.str ("behind" : Str))) (aCons (cn (.str ("way" : Str))) (aCons (cn (.str ("place" : Str))) (aCons (cn (.str ("rule" : Str))) (aCons (cn (.str ("a" : Str))) (aCons (cn (.str ("ab" : Str))) (aCons (cn (.str ("abc" : Str))) (aNil)))))))))))))) (tName 3))
 (sCons (sAsg (callM (F_l_take_k54 clt) [.io 0 0, .sh] (aCons (vr 0) (aCons (cn (.int 4)) (aNil)))) (tName 4))
 (sCons (sAsg (callM (F_l_take_k54 clt) [.io 0 0, .sh] (aCons (vr 0) (aCons (cn (.int 26)) (aNil)))) (tName 5))
 (sCons (sAsg (primM (ro Rm.gSub) [.sh, .sh] (aCons (lstM (aCons (cn (.int 1)) (aCons (primM (ro gNeg) [.sh] (aCons (cn (.int 1)) (aNil))) (aNil)))) (aCons (callM (F_l_take_k54 clt) [.io 0 0, .sh] (aCons (vr 0) (aCons (cn (.int 2)) (aNil)))) (aNil)))) (tName 6))
 (sCons (ifM (asB (primM (ro gEq) [.sh, .sh] (aCons (vr 4) (aCons (cn (.int 0)) (aNil)))))
 (sCons (sRet (lcM (rng1M (aCons (vr 1) (aNil))) [9] (tName 9) (yes) (primM (ro Rm.gSub) [.sh, .sh] (aCons (vr 3) (aCons (primM (ro (gI cMod fun i j => i % j)) [.sh, .sh] (aCons (primM (ro gAdd) [.sh, .sh] (aCons (vr 5) (aCons (primM (ro (gI cMul fun i j => i * j)) [.sh, .sh] (aCons (primM (ro (gI cMul fun i j => i * j)) [.sh, .sh] (aCons (cn (.int 5)) (aCons (vr 6) (aNil)))) (aCons (vr 9) (aNil)))) (aNil)))) (aCons (cn (.int 12)) (aNil)))) (aNil))))))
 (sNil))
 (sNil))
 (sCons (sAsg (methM "str" (ro gJoin) .sh [.sh] (cn (.str ("" : Str))) (aCons (lcM (rng1M (aCons (cn (.int 5)) (aNil))) [9] (tName 9) (yes) (primM (ro Rm.gSub) [.sh, .sh] (aCons (vr 2) (aCons (callM (F_l_take_k54 clt) [.io 0 0, .sh] (aCons (vr 0) (aCons (cn (.int 26)) (aNil)))) (aNil))))) aNil)) (tName 7))
 (sCons (sAsg (lstM (aNil)) (tName 8))
 (sCons (forM' (rng1M (aCons (vr 1) (aNil))) (tName 9)
 (sCons (sAsg (primM (ro Rm.gSub) [.sh, .sh] (aCons (vr 2) (aCons (primM (ro (gI cMod fun i j => i % j)) [.sh, .sh] (aCons (primM (ro gAdd) [.sh, .sh] (aCons (vr 5) (aCons (primM (ro (gI cMul fun i j => i * j)) [.sh, .sh] (aCons (primM (ro (gI cMul fun i j => i * j)) [.sh, .sh] (aCons (cn (.int 7)) (aCons (vr 6) (aNil)))) (aCons (vr 9) (aNil)))) (aNil)))) (aCons (cn (.int 26)) (aNil)))) (aNil)))) (tName 10))
 (sCons (ifM (asB (primM (ro gEq) [.sh, .sh] (aCons (vr 4) (aCons (cn (.int 1)) (aNil)))))
 (sCons (sExp (methM "list" gApp (.io 8 0) [.sh] (vr 8) (aCons (primM (ro gAdd) [.sh, .sh] (aCons (slM (vr 7) (oNone) (oSome (primM (ro (gI cMod fun i j => i % j)) [.sh, .sh] (aCons (vr 9) (aCons (cn (.int 6)) (aNil))))) gSlS) (aCons (vr 10) (aNil)))) aNil)))
 (sNil))
 (sCons (ifM (asB (primM (ro gEq) [.sh, .sh] (aCons (vr 4) (aCons (cn (.int 2)) (aNil)))))
 (sCons (sExp (methM "list" gApp (.io 8 0) [.sh] (vr 8) (aCons (primM (ro gAdd) [.sh, .sh] (aCons (vr 10) (aCons (slM (vr 7) (oNone) (oSome (callM (F_l_take_k54 clt) [.io 0 0, .sh] (aCons (vr 0) (aCons (cn (.int 6)) (aNil))))) gSlS) (aNil)))) aNil)))
 (sNil))
 (sCons (sExp (methM "list" gApp (.io 8 0) [.sh] (vr 8) (aCons (primM (ro Rm.gSub) [.sh, .sh] (aCons (lstM (aCons (slM (vr 7) (oNone) (oSome (primM (ro gAdd) [.sh, .sh] (aCons (vr 9) (aCons (cn (.int 1)) (aNil))))) gSlS) (aCons (primM (ro gAdd) [.sh, .sh] (aCons (vr 7) (aCons (vr 10) (aNil)))) (aNil)))) (aCons (primM (ro gInt) [.sh] (aCons (primM (ro gGt) [.sh, .sh] (aCons (vr 9) (aCons (cn (.int 4)) (aNil)))) (aNil))) (aNil)))) aNil)))
 (sNil)))
 (sNil)))
 (sNil))))
 (sCons (sRet (vr 8))
 (sNil))))))))))
def F_l_names (clt : ClT) : List D → Out D := runF 2 9 (b_l_names clt)
end RP
namespace Rm
open PySem PySem.Spec L2
end Rm
namespace Rm
open PySem PySem.Spec PyProof.Rows L2
def wipe (ws : List Nat) (e : List D) : List D := ws.foldl (fun e i => e.set i .non) e
def wipeK (ws : List Nat) (κ : List Kd) : List Kd := ws.foldl (fun κ i => κ.set i .un) κ
theorem Rl.wipe1 {G S H κ env σ R} {i : Nat} {d : D} (h : Rl G S H κ env σ R) : Rl G S H (κ.set i .un) (env.set i d) σ R := by
  by_cases hi : i < κ.length
  · have hk : κ[i]? = some κ[i] := List.getElem?_eq_getElem hi
    have hd : env[i]? = some (env[i]'(by rw [h.l2, ← h.l1]; exact hi)) := List.getElem?_eq_getElem _
    obtain ⟨v0, hv⟩ := h.slot hk hd
    obtain ⟨l, r, e, f⟩ := ents_split hk hd hv
    refine ⟨by rw [List.length_set]; exact h.l1, by rw [List.length_set]; exact h.l2, ?_⟩
    have e2 := f .un d v0
    rw [List.set_self' hv] at e2
    rw [e2]
    have h1 := h.rel
    rw [e] at h1
    have h2 := h1.perm ((List.Perm.append_left R List.perm_middle).trans List.perm_middle)
    exact (h2.toUn (d := _) (v := v0)).perm (List.perm_middle.symm.trans (List.Perm.append_left R List.perm_middle.symm))
  · rw [List.set_eq_of_length_le (Nat.le_of_not_lt hi), List.set_eq_of_length_le (by rw [h.l2, ← h.l1]; exact Nat.le_of_not_lt hi)]
    exact h
theorem Rl.wipe {G S H σ R} : ∀ {ws : List Nat} {κ env}, Rl G S H κ env σ R → Rl G S H (wipeK ws κ) (Rm.wipe ws env) σ R
  | [], _, _, h => h
  | i :: ws, _, _, h => Rl.wipe (ws := ws) (h.wipe1 (i := i) (d := .non))
section
variable {J : Jc} {κ κ1 κ2 κ' : List Kd} {sts : List Stmt} {f : M Fl}
end
def gEqT : List D → Option D
  | [.lst [.tok a _], .lst [.tok b _]] => if a = b then some (.bl true) else none
  | ds => gEq ds
section
variable {J : Jc} {as : List Ak} {n : Nat}
end
end Rm
namespace Rm
open PySem PySem.Spec PyProof.Rows PySem.SeqAt L2
def truD : D → Option Bool
  | .non => some false
  | .bl b => some b
  | .int i => some (i != 0)
  | .str x => if x.length ≤ lim then some ((x.length : Int) != 0) else none
  | .lst xs => some (!xs.isEmpty)
  | .tup xs => some (!xs.isEmpty)
  | _ => none
def orM (fa fb : M D) : M D := fun e => (fa e).bind fun d e => match truD d with | some true => .ok d e | some false => fb e | none => .stuck
def andM (fa fb : M D) : M D := fun e => (fa e).bind fun d e => match truD d with | some true => fb e | some false => .ok d e | none => .stuck
section
variable {J : Jc} {κ κ1 κ2 κ' : List Kd} {a b c e : Expr} {es : List Expr} {pos p np apos cpos : Pos} {fa fb fo : M D} {fr : M (List D)} {n m : Nat} {xn : Str} {rest : List Expr}
end
section
variable {J : Jc} {κ κ1 κ2 κ' : List Kd} {a b c e e2 o : Expr} {es : List Expr} {pos p np apos cpos : Pos} {fa fb fo : M D} {fr : M (List D)} {n m : Nat} {xn : Str}
end
end Rm
namespace Rm
open PySem PySem.Spec PyProof.Rows L2
instance keyMem (k : Key) (l : List Key) : Decidable (k ∈ l) := decidable_of_iff ((l.any fun j => decide (j = k)) = true) (by simp)
/-- how many unlike ones -/
def dcR : List Key → Nat
  | [] => 0
  | k :: r => if k ∈ r then dcR r else dcR r + 1
def dc (l : List Key) : Nat := dcR l.reverse
section
variable {P : Program} {w : World} {A : Around} {R : Result → Shared → Prop} {I : Addr} {fp wr : List Addr} {G : Array GenState → Array GenState → Prop} {n : Nat} {Pv : Nat → Value → Prop} {St : Nat → Shared → Prop}
end
section
variable {P : Program} {w : World} {A : Around} {E : Value → Shared → Prop} {s : Shared}
end
section
variable {X : Cx} {a : Expr} {ta : TE} {p p2 q pos : Pos}
end
section
variable {J : Jc} {κ κ1 : List Kd} {a : Expr} {p p2 q pos : Pos} {fr : M (List D)} {as : List Ak} {n : Nat}
end
end Rm
namespace Rm
open PySem PySem.Spec PyProof.Rows L2
def kdO : Option Nat → Kd
  | none => .sh
  | some j => .ow (.n j)
theorem relP_allF {G : Gx} {S H} : ∀ {ks : List (Option Nat)} {ds : List D} {vs : List V} {M}, ks.length = ds.length → vs.length = ds.length → RelP G S H (ents (ks.map kdO) ds (vs.map some)) M → AllF G S H ks ds vs M ∧ M.Nodup
  | [], [], [], M, _, _, h => by cases h; exact ⟨⟨rfl, rfl⟩, .nil⟩
  | k :: ks, d :: ds, v :: vs, M, l1, l2, h => by
    have h : RelP G S H (⟨kdO k, d, some v⟩ :: ents (ks.map kdO) ds (vs.map some)) M := h
    cases h with
    | @cons _ _ L1 L2 he nd f hr =>
      obtain ⟨ha, n2⟩ := relP_allF (by simpa using l1) (by simpa using l2) hr
      refine ⟨⟨v, vs, L1, L2, rfl, rfl, ?_, ha⟩, List.nodup_append.mpr ⟨nd, n2, fun a m b m2 e => (f a m).2.2 (e ▸ m2)⟩⟩
      cases k with
      | none =>
        obtain ⟨e, w, ew, q⟩ := he
        cases ew
        exact ⟨e, q⟩
      | some j =>
        obtain ⟨w, ew, q⟩ := he
        cases ew
        exact q
  | [], _ :: _, _, _, l, _, _ => by simp at l
  | _ :: _, [], _, _, l, _, _ => by simp at l
  | [], [], _ :: _, _, _, l, _ => by simp at l
  | _ :: _, _ :: _, [], _, _, l, _ => by simp at l
/-- parts, some of them one's own -/
structure Ao (J : Jc) (κ : List Kd) (es : List Expr) (ks : List (Option Nat)) (f : M (List D)) (κ' : List Kd) : Prop where
  ex : ∃ t : TA, PA J.X es t ∧ ∀ R S H σ env Q, Rl J.G S H κ env σ R →
    Req J R S H σ (f env) (fun ds e => ∀ S' H' vs, Grow S H S' H' → ds.length = ks.length → vs.length = ks.length → Rl J.G S' H' κ' e σ (ents (ks.map kdO) ds (vs.map some) ++ R) → Q vs H') → t σ H Q
section
variable {J : Jc} {κ κ1 κ2 κ' : List Kd} {a b c e : Expr} {es : List Expr} {pos p np : Pos} {fa fb : M D} {fr : M (List D)} {n m : Nat} {xn : Str} {ks : List (Option Nat)} {k : Option Nat}
theorem ao_nil : Ao J κ [] [] aNil κ := ⟨tNil, pa_nil, fun R S H σ env Q h q => q S H [] .refl rfl rfl h⟩
theorem ao_cons (k : Option Nat) (ha : Ex J κ a (kdO k) fa κ1) (hr : Ao J κ1 es ks fr κ2) (hs : starEach (a :: es) J.X.env = (false, eval a J.X.env) :: starEach es J.X.env := by rfl) : Ao J κ (a :: es) (k :: ks) (aCons fa fr) κ2 := by
  obtain ⟨ta, pa, ra⟩ := ha.ex
  obtain ⟨tr, pr, rr⟩ := hr.ex
  refine ⟨tCons ta tr, pa_cons pa pr hs, fun R S H σ env Q h q => ra _ _ _ _ _ _ h (q.bind.mono fun d e1 _ z S1 H1 u g1 r1 => ?_)⟩
  refine rr _ _ _ _ _ _ r1 (((z.bind.later g1).tmp _).mono fun ds e2 _ z2 S2 H2 vs g2 l1 l2 r2 => ?_)
  refine z2 S2 H2 (u :: vs) (g1.trans g2) (by simp [l1]) (by simp [l2]) ⟨r2.l1, r2.l2, ?_⟩
  refine r2.rel.perm ?_
  simp only [List.map_cons, ents, List.cons_append, List.append_assoc]
  exact List.perm_middle
/-- what is shared, only read from here on -/
def rolM (f : M D) : M D := fun e => (f e).bind fun d e => match d with | .lst ds => .ok (.rol ds) e | .rol ds => .ok (.rol ds) e | _ => .stuck
/-- x[n], taken out of x for good -/
def takeM (i n : Nat) : M D := fun e => match e[i]? with | some (.tup ds) => (match ds[n]? with | some d => .ok d e | none => .stuck) | _ => .stuck
end
end Rm
namespace Rm
open PySem PySem.Spec PyProof.Rows L2
def rngL1 : List D → Option (List D) := fun ds => (int1 ds).bind fun j => if -(lim : Int) ≤ j ∧ j ≤ lim then some (rngD 0 j.toNat) else none
section
variable {J : Jc} {κ κ1 : List Kd} {a b e o : Expr} {p p2 q pos pos2 : Pos} {fr : M (List D)}
end
section
variable {P : Program} {w : World} {A : Around} {E : Value → Shared → Prop} {s : Shared}
end
section
variable {X : Cx} {e : Expr} {te : TE} {p p2 pos pos2 : Pos}
end
def gRevL : List D → Option (List D)
  | [.lst xs] => some xs.reverse
  | [.rol xs] => some xs.reverse
  | _ => none
section
variable {J : Jc} {κ κ1 : List Kd} {e : Expr} {p p2 pos pos2 : Pos} {fr : M (List D)}
end
end Rm
namespace Rm
open PySem PySem.Spec L2
theorem Rl.other {G S H} {κ : List Kd} {env : List D} {σ σ' : St} {R} (h : Rl G S H κ env σ R) (hl : σ'.length = σ.length) (f : ∀ (i : Nat) (k : Kd), κ[i]? = some k → k ≠ .un → σ'[i]? = σ[i]?) : Rl G S H κ env σ' R := by
  refine ⟨h.l1.trans hl.symm, h.l2.trans hl.symm, ?_⟩
  have key : ∀ (κ : List Kd) (env : List D) (σ σ' : St) (R : List Ent), σ'.length = σ.length → (∀ (i : Nat) (k : Kd), κ[i]? = some k → k ≠ .un → σ'[i]? = σ[i]?) → Rel G S H (R ++ ents κ env σ) → Rel G S H (R ++ ents κ env σ') := by
    intro κ
    induction κ with
    | nil => intro env σ σ' R _ _ h; exact h
    | cons k ks ih =>
      intro env σ σ' R hl f h
      cases env with
      | nil => exact h
      | cons d ds =>
        cases σ with
        | nil => cases σ' with
          | nil => exact h
          | cons => simp at hl
        | cons v vs =>
          cases σ' with
          | nil => simp at hl
          | cons v' vs' =>
            have h1 : Rel G S H ((R ++ [⟨k, d, v⟩]) ++ ents ks ds vs) := by simpa [ents] using h
            have h2 := ih ds vs vs' (R ++ [⟨k, d, v⟩]) (by simpa using hl) (fun i k e n => by simpa using f (i + 1) k (by simpa using e) n) h1
            have h3 : Rel G S H (R ++ ⟨k, d, v⟩ :: ents ks ds vs') := by simpa using h2
            show Rel G S H (R ++ ⟨k, d, v'⟩ :: ents ks ds vs')
            by_cases e : k = .un
            · subst e
              exact (h3.perm List.perm_middle).un_eq.perm List.perm_middle.symm
            · have := f 0 k rfl e
              simp at this
              rw [this]; exact h3
  exact key κ env σ σ' R hl f h.rel
def viewAM (i : Nat) (f : M Fl) : M Fl := fun env => match f env with
  | .ok .nx e => match e[i]? with
    | some (.lst ds) => if ttL ds = true then .ok .nx (env.set i (.lst ds)) else .stuck
    | _ => .stuck
  | _ => .stuck
section
variable {J : Jc} {κ κf κ0 κ' : List Kd} {st : Stmt} {f : M Fl}
end
def gNeL0 : List D → Option D
  | [x, .lst []] => (lstOf x).map fun xs => .bl (!xs.isEmpty)
  | _ => none
section
variable {J : Jc} {as : List Ak} {n : Nat}
end
end Rm
namespace RP
open PySem PySem.Spec L2 Rm
noncomputable section
end
end RP
namespace RP
open PySem PySem.Spec L2 Rm
noncomputable section
end
end RP
namespace RP
open PySem PySem.Spec L2 Rm
noncomputable section
end
end RP
namespace Rm
open PySem PySem.Spec L2
mutual
def ttO : Nat → D → Bool
  | 0, d => ttD d
  | k + 1, .lst ds => ttOL k ds
  | k + 1, .dK kvs => ttOK k kvs
  | k + 1, .dT kvs => ttOT k kvs
  | k + 1, .ins _ fs => ttOF k fs
  | _ + 1, d => ttD d
def ttOL : Nat → List D → Bool
  | _, [] => true
  | k, d :: ds => ttO k d && ttOL k ds
def ttOK : Nat → List (Key × D) → Bool
  | _, [] => true
  | k, (_, d) :: ds => ttO k d && ttOK k ds
def ttOT : Nat → List (List Key × D) → Bool
  | _, [] => true
  | k, (_, d) :: ds => ttO k d && ttOT k ds
def ttOF : Nat → List (Str × D) → Bool
  | _, [] => true
  | k, (_, d) :: ds => ttO k d && ttOF k ds
end
theorem ttOK_L {k : Nat} : ∀ {kvs : List (Key × D)}, ttOK k kvs = ttOL k (kvs.map (·.2))
  | [] => by simp [ttOK, ttOL]
  | (a, d) :: r => by simp only [ttOK, List.map_cons, ttOL, ttOK_L]
theorem ttOT_L {k : Nat} : ∀ {kvs : List (List Key × D)}, ttOT k kvs = ttOL k (kvs.map (·.2))
  | [] => by simp [ttOT, ttOL]
  | (a, d) :: r => by simp only [ttOT, List.map_cons, ttOL, ttOT_L]
theorem ttOF_L {k : Nat} : ∀ {kvs : List (Str × D)}, ttOF k kvs = ttOL k (kvs.map (·.2))
  | [] => by simp [ttOF, ttOL]
  | (a, d) :: r => by simp only [ttOF, List.map_cons, ttOL, ttOF_L]
theorem all3_tt {G S' S'' H'} {k : Nat} (ih : ∀ {d v L}, ttO k d = true → DenO G S' H' k d v L → DenO G S'' H' k d v L) : ∀ {ds vs M}, ttOL k ds = true → All3 (DenO G S' H' k) ds vs M → All3 (DenO G S'' H' k) ds vs M
  | [], _, _, _, h => h
  | d :: ds, vs, M, t, h => by
    simp only [ttOL, Bool.and_eq_true] at t
    obtain ⟨v, r, L1, L2, e1, e2, p, q⟩ := h
    exact ⟨v, r, L1, L2, e1, e2, ih t.1 p, all3_tt ih t.2 q⟩
theorem denO_tt {G S' S'' H'} (hs : ∀ b, S' b → ¬ notT (H' b) → S'' b) : ∀ {k : Nat} {d v L}, ttO k d = true → DenO G S' H' k d v L → DenO G S'' H' k d v L
  | 0, d, v, L, t, h => ⟨den_tt hs (by simpa only [ttO] using t) h.1, h.2⟩
  | k + 1, .lst ds, v, L, t, h => by
    simp only [ttO] at t
    obtain ⟨a, vs, M, e, e1, e2, q⟩ := h
    exact ⟨a, vs, M, e, e1, e2, all3_tt (fun t h => denO_tt hs t h) t q⟩
  | k + 1, .dK ds, v, L, t, h => by
    simp only [ttO, ttOK_L] at t
    obtain ⟨a, vs, M, e, e1, e2, kk, q⟩ := h
    exact ⟨a, vs, M, e, e1, e2, kk, all3_tt (fun t h => denO_tt hs t h) t q⟩
  | k + 1, .dT ds, v, L, t, h => by
    simp only [ttO, ttOT_L] at t
    obtain ⟨a, vs, M, e, e1, e2, kk, q⟩ := h
    exact ⟨a, vs, M, e, e1, e2, kk, all3_tt (fun t h => denO_tt hs t h) t q⟩
  | k + 1, .ins c ds, v, L, t, h => by
    simp only [ttO, ttOF_L] at t
    obtain ⟨a, dx, vs, M, e, e1, e0, e2, kk, q⟩ := h
    exact ⟨a, dx, vs, M, e, e1, e0, e2, kk, all3_tt (fun t h => denO_tt hs t h) t q⟩
  | k + 1, .non, v, L, t, h | k + 1, .bl _, v, L, t, h | k + 1, .int _, v, L, t, h | k + 1, .str _, v, L, t, h | k + 1, .tup _, v, L, t, h | k + 1, .fn _, v, L, t, h | k + 1, .rol _, v, L, t, h | k + 1, .ty _, v, L, t, h | k + 1, .cls _, v, L, t, h | k + 1, .tok _ _, v, L, t, h => by
    simp only [DenO] at h ⊢
    simp only [ttO] at t
    exact ⟨den_tt hs t h.1, h.2⟩
def ttF : List (Option Nat) → List D → Bool
  | [], [] => true
  | none :: ks, d :: ds => ttD d && ttF ks ds
  | some j :: ks, d :: ds => ttO (j + 1) d && ttF ks ds
  | _, _ => false
theorem allF_tt {G S' S'' H'} (hs : ∀ b, S' b → ¬ notT (H' b) → S'' b) : ∀ {ks ds vs M}, ttF ks ds = true → AllF G S' H' ks ds vs M → AllF G S'' H' ks ds vs M
  | [], [], _, _, _, h => h
  | k :: ks, d :: ds, vs, M, t, h => by
    obtain ⟨v, r, L1, L2, e1, e2, p, q⟩ := h
    cases k with
    | none =>
      simp only [ttF, Bool.and_eq_true] at t
      exact ⟨v, r, L1, L2, e1, e2, ⟨p.1, den_tt hs t.1 p.2⟩, allF_tt hs t.2 q⟩
    | some j =>
      simp only [ttF, Bool.and_eq_true] at t
      exact ⟨v, r, L1, L2, e1, e2, denO_tt hs t.1 p, allF_tt hs t.2 q⟩
  | [], _ :: _, _, _, _, h => h.elim
  | _ :: _, [], _, _, _, h => h.elim
/-- what an owned thing is made of is plain -/
def ttW : Own → D → Bool
  | .n k, d => ttO (k + 1) d
  | .ob ks, .ins _ fs => ttF ks (fs.map (·.2))
  | .ob _, d => ttD d
  | .tp ks, .tup ds => ttF ks ds
  | .tp _, d => ttD d
theorem rd_nt {H : Hp} {a vs} (h : Rd H a (.tup vs)) : ¬ notT (H a) := by
  intro q
  rcases h with h | ⟨o, h⟩
  · exact (q vs).1 h
  · exact (q vs).2 o h
theorem denW_tt {G S' S'' H'} (hs : ∀ b, S' b → ¬ notT (H' b) → S'' b) : ∀ {o : Own} {d v L}, ttW o d = true → DenW G S' H' o d v L → DenW G S'' H' o d v L
  | .n k, d, v, L, t, h => denO_tt hs (by simpa only [ttW] using t) h
  | .ob ks, .ins c fs, v, L, t, h => by
    simp only [ttW] at t
    obtain ⟨a, dx, ws, M, e, e1, e2, e3, kk, q⟩ := h
    exact ⟨a, dx, ws, M, e, e1, e2, e3, kk, allF_tt hs t q⟩
  | .tp ks, .tup ds, v, L, t, h => by
    simp only [ttW] at t
    obtain ⟨a, vs, e, s, r, q⟩ := h
    exact ⟨a, vs, e, hs a s (rd_nt r), r, allF_tt hs t q⟩
  | .ob ks, .non, v, L, t, h | .ob ks, .bl _, v, L, t, h | .ob ks, .int _, v, L, t, h | .ob ks, .str _, v, L, t, h | .ob ks, .tup _, v, L, t, h | .ob ks, .fn _, v, L, t, h | .ob ks, .rol _, v, L, t, h | .ob ks, .ty _, v, L, t, h | .ob ks, .cls _, v, L, t, h | .ob ks, .tok _ _, v, L, t, h | .ob ks, .lst _, v, L, t, h | .ob ks, .dK _, v, L, t, h | .ob ks, .dT _, v, L, t, h => ⟨den_tt hs (by simpa only [ttW] using t) h.1, h.2⟩
  | .tp ks, .non, v, L, t, h | .tp ks, .bl _, v, L, t, h | .tp ks, .int _, v, L, t, h | .tp ks, .str _, v, L, t, h | .tp ks, .ins _ _, v, L, t, h | .tp ks, .fn _, v, L, t, h | .tp ks, .rol _, v, L, t, h | .tp ks, .ty _, v, L, t, h | .tp ks, .cls _, v, L, t, h | .tp ks, .tok _ _, v, L, t, h | .tp ks, .lst _, v, L, t, h | .tp ks, .dK _, v, L, t, h | .tp ks, .dT _, v, L, t, h => ⟨den_tt hs (by simpa only [ttW] using t) h.1, h.2⟩
/-- what a view may hand on -/
def okKD : Kd → D → Bool
  | .un, _ => true
  | .sh, d => ttD d
  | .ow o, d => ttW o d
  | .at_ _, _ => false
theorem RelP.ok {G S' S'' H' : _} (hs : ∀ b, S' b → ¬ notT (H' b) → S'' b) (hn : ∀ b, S'' b → S' b) : ∀ {ys : List Ent} {L}, (∀ y ∈ ys, okKD y.k y.d = true) → RelP G S' H' ys L → RelP G S'' H' ys L
  | [], _, _, .nil => .nil
  | y :: ys, _, t, .cons (L := L) (M := M) he nd f hr => by
    refine .cons ?_ nd (fun a m => ⟨fun s => (f a m).1 (hn a s), (f a m).2.1, (f a m).2.2⟩) (RelP.ok hs hn (fun z m => t z (List.mem_cons_of_mem _ m)) hr)
    have ty := t y (List.mem_cons_self ..)
    obtain ⟨k, d, v⟩ := y
    cases k with
    | un => exact he
    | sh =>
      obtain ⟨e, w, ew, q⟩ := he
      exact ⟨e, w, ew, den_tt hs ty q⟩
    | ow o =>
      obtain ⟨w, ew, q⟩ := he
      exact ⟨w, ew, denW_tt hs ty q⟩
    | at_ a => cases ty
/-- what is owned is looked at; what is made anew is kept -/
theorem Rl.viewY {G : Gx} {S H κ env σ R} (h : Rl G S H κ env σ R) : ∃ S2, Grow S H S2 H ∧ Rl G S2 H (κ.map fz) env σ (R.map fzE) ∧
    ∀ S' H' ys xs, Grow S2 H S' H' → Rel G S' H' (ys ++ xs) → (∀ y ∈ ys, okKD y.k y.d = true) → ∃ S'', Grow S H S'' H' ∧ Rl G S'' H' κ env σ (ys ++ R) := by
  obtain ⟨l1, l2, al, L, hp⟩ := h
  refine ⟨fun a => S a ∨ a ∈ L, Grow.of fun a s => ⟨.inl s, rfl⟩, ⟨by rw [List.length_map]; exact l1, l2, ⟨fun a s => ?_, G.st S H _ H (fun a s => ⟨.inl s, rfl⟩) al.ph⟩, [], ?_⟩, fun S' H' ys xs g r t => ?_⟩
  · rcases s with s | s
    · exact al.al a s
    · exact (hp.off a s).2
  · have := RelP.fz (S' := fun a => S a ∨ a ∈ L) (fun a s => .inl s) (fun a m => .inr m) hp
    rw [List.map_append, ents_fz] at this
    exact this
  · obtain ⟨al', L', q⟩ := r
    obtain ⟨L1, L2, rfl, q1, q2, dj⟩ := q.split
    have eH : ∀ b ∈ L, H' b = H b := fun b m => (g b (.inr m)).2
    have g0 : Grow S H (fun b => S' b ∧ b ∉ L) H' := fun b s => ⟨⟨(g b (.inl s)).1, fun m => (hp.off b m).1 s⟩, (g b (.inl s)).2⟩
    have na : ∀ a ∈ L1, a ∉ L := fun a m m2 => (q1.off a m).1 (g a (.inr m2)).1
    have q3 : RelP G (fun b => S' b ∧ b ∉ L) H' ys L1 := RelP.ok (fun b s nt => ⟨s, fun m => nt (by rw [eH b m]; exact relP_nt hp m)⟩) (fun b s => s.1) t q1
    refine ⟨fun b => S' b ∧ b ∉ L, g0, l1, l2, ⟨fun b s => al'.al b s.1, G.st S H _ H' g0.w al.ph⟩, L1 ++ L, ?_⟩
    rw [List.append_assoc]
    exact q3.join (hp.keep g0 fun b m => ⟨eH b m, fun s => s.2 m⟩) na
def kMerge : List Kd → List Kd → List Kd
  | .un :: as, b :: bs => b :: kMerge as bs
  | a :: as, _ :: bs => a :: kMerge as bs
  | _, _ => []
def eMerge : List Kd → List D → List D → List D
  | .un :: as, _ :: e, d :: e0 => d :: eMerge as e e0
  | _ :: as, d :: e, _ :: e0 => d :: eMerge as e e0
  | _, _, _ => []
theorem kMerge_len : ∀ {a b : List Kd}, a.length = b.length → (kMerge a b).length = b.length
  | [], [], _ => rfl
  | [], _ :: _, h => by simp at h
  | _ :: _, [], h => by simp at h
  | a :: as, b :: bs, h => by
    have ih := kMerge_len (a := as) (b := bs) (by simpa using h)
    cases a <;> simp [kMerge, ih]
theorem eMerge_len : ∀ {a : List Kd} {e e0 : List D}, a.length = e0.length → e.length = e0.length → (eMerge a e e0).length = e0.length
  | [], [], [], _, _ => rfl
  | [], _, _ :: _, h, _ => by simp at h
  | _ :: _, _, [], h, _ => by simp at h
  | _ :: _, [], _ :: _, _, h => by simp at h
  | [], _ :: _, [], _, h => by simp at h
  | a :: as, d :: e, d0 :: e0, h, h' => by
    have ih := eMerge_len (a := as) (e := e) (e0 := e0) (by simpa using h) (by simpa using h')
    cases a <;> simp [eMerge, ih]
theorem Rel.merge {G S H} : ∀ {a b : List Kd} {e1 e0 : List D} {σ' σ : St} {R : List Ent}, a.length = b.length → e1.length = a.length → e0.length = a.length → σ'.length = a.length → σ.length = a.length →
    (∀ (i : Nat) (k : Kd), b[i]? = some k → k ≠ .un → σ'[i]? = σ[i]?) → Rel G S H (R ++ (ents a e1 σ' ++ ents b e0 σ)) → Rel G S H (R ++ ents (kMerge a b) (eMerge a e1 e0) σ')
  | [], [], [], [], [], [], R, _, _, _, _, _, _, h => by simpa [ents, kMerge, eMerge] using h
  | k :: a, k2 :: b, d :: e1, d0 :: e0, v' :: σ', v :: σ, R, l1, l2, l3, l4, l5, f, h => by
    have h1 : Rel G S H (⟨k, d, v'⟩ :: ⟨k2, d0, v⟩ :: (R ++ (ents a e1 σ' ++ ents b e0 σ))) := by
      refine h.perm ?_
      simp only [ents, List.cons_append]
      refine List.perm_middle.trans (List.Perm.cons _ ?_)
      rw [← List.append_assoc, ← List.append_assoc]
      exact List.perm_middle
    have key : ∀ z : Ent, Rel G S H (z :: (R ++ (ents a e1 σ' ++ ents b e0 σ))) → Rel G S H (R ++ z :: ents (kMerge a b) (eMerge a e1 e0) σ') := fun z hz => by
      have := Rel.merge (R := R ++ [z]) (by simpa using l1) (by simpa using l2) (by simpa using l3) (by simpa using l4) (by simpa using l5) (fun i k e n => by simpa using f (i + 1) k (by simpa using e) n)
        (show Rel G S H (R ++ [z] ++ (ents a e1 σ' ++ ents b e0 σ)) from by
          refine hz.perm ?_
          rw [List.append_assoc]
          exact List.perm_middle.symm)
      simpa using this
    have swp := h1.perm (List.Perm.swap _ _ _)
    by_cases hu : k = .un
    · subst hu
      refine key ⟨k2, d0, v'⟩ ?_
      have h2 := h1.drop
      by_cases hu2 : k2 = .un
      · subst hu2; exact h2.un_eq
      · have := f 0 k2 rfl hu2
        simp at this
        subst this
        exact h2
    · have e1' : kMerge (k :: a) (k2 :: b) = k :: kMerge a b := by cases k <;> first | rfl | exact absurd rfl hu
      have e2' : eMerge (k :: a) (d :: e1) (d0 :: e0) = d :: eMerge a e1 e0 := by cases k <;> first | rfl | exact absurd rfl hu
      rw [e1', e2']
      exact key ⟨k, d, v'⟩ swp.drop
  | [], _ :: _, _, _, _, _, _, l, _, _, _, _, _, _ => by simp at l
  | _ :: _, [], _, _, _, _, _, l, _, _, _, _, _, _ => by simp at l
  | [], [], _ :: _, _, _, _, _, _, l, _, _, _, _, _ => by simp at l
  | [], [], [], _ :: _, _, _, _, _, _, l, _, _, _, _ => by simp at l
  | [], [], [], [], _ :: _, _, _, _, _, _, l, _, _, _ => by simp at l
  | [], [], [], [], [], _ :: _, _, _, _, _, _, l, _, _ => by simp at l
  | _ :: _, _ :: _, [], _, _, _, _, _, l, _, _, _, _, _ => by simp at l
  | _ :: _, _ :: _, _ :: _, [], _, _, _, _, _, l, _, _, _, _ => by simp at l
  | _ :: _, _ :: _, _ :: _, _ :: _, [], _, _, _, _, _, l, _, _, _ => by simp at l
  | _ :: _, _ :: _, _ :: _, _ :: _, _ :: _, [], _, _, _, _, _, l, _, _ => by simp at l
/-- the first statements of some; rest: what comes behind them -/
structure Vx (J : Jc) (κ : List Kd) (sts rest : List Stmt) (f : List D → Option (List D)) (κ' : List Kd) : Prop where
  ex : ∀ t2, PSs J.X rest t2 → ∃ t, PSs J.X sts t ∧ ∀ R S H σ env D e, Rl J.G S H κ env σ R → f env = some e → (∀ S' H' σ', Grow S H S' H' → Fix J.kx σ σ' → Rl J.G S' H' κ' e σ' R → t2 D σ' H') → t D σ H
def vCons (f : M Fl) (g : List D → Option (List D)) : List D → Option (List D) := fun env => match f env with
  | .ok .nx e => g e
  | _ => none
section
variable {J : Jc} {κ κ1 κ2 κ3 κf κ0 κ' : List Kd} {st : Stmt} {sts rest : List Stmt} {f : M Fl} {g : List D → Option (List D)} {f2 : M Fl}
theorem vx_nil : Vx J κ rest rest some κ := ⟨fun t2 p => ⟨t2, p, fun R S H σ env D e r hq z => by cases hq; exact z S H σ .refl .refl r⟩⟩
theorem vx_cons (h1 : Sx J κ st f κ1) (h2 : Vx J κ1 sts rest g κ2) : Vx J κ (st :: sts) rest (vCons f g) κ2 := by
  refine ⟨fun t2 p2 => ?_⟩
  obtain ⟨t, p, q⟩ := h1.ex
  obtain ⟨t1, p1, q1⟩ := h2.ex t2 p2
  refine ⟨tSeq t t1, pss_cons p p1, fun R S H σ env D e r hq z => q _ _ _ _ _ _ r ?_⟩
  unfold vCons at hq
  cases eo : f env with
  | stuck => rw [eo] at hq; cases hq
  | ex c fs e1 => rw [eo] at hq; cases hq
  | ok fl e1 =>
    rw [eo] at hq
    cases fl with
    | nx => exact fun S' H' σ' g' fx r' => q1 R S' H' σ' e1 D e r' hq fun S2 H2 σ2 g2 fx2 r2 => z S2 H2 σ2 (g'.trans g2) (fx.trans fx2) r2
    | _ => cases hq
def viewB (κR : List Kd) (ws : List Nat) (f : List D → Option (List D)) : M Fl := fun env => match f env with
  | some e => if ((κR.zip e).all fun p => okKD p.1 p.2) = true then .ok .nx (eMerge κR e (wipe ws env)) else .stuck
  | none => .stuck
theorem ents_ok {κ : List Kd} : ∀ {env : List D} {σ : St}, ((κ.zip env).all fun p => okKD p.1 p.2) = true → ∀ y ∈ ents κ env σ, okKD y.k y.d = true := by
  induction κ with
  | nil => intro env σ _ y m; cases m
  | cons k ks ih =>
    intro env σ h y m
    cases env with
    | nil => cases m
    | cons d ds =>
      cases σ with
      | nil => cases m
      | cons v vs =>
        simp only [List.zip_cons_cons, List.all_cons, Bool.and_eq_true] at h
        rcases List.mem_cons.mp m with rfl | m
        · exact h.1
        · exact ih h.2 y m
theorem wipeK_map : ∀ {ws : List Nat} {κ : List Kd}, wipeK ws (κ.map fz) = (wipeK ws κ).map fz
  | [], _ => rfl
  | w :: ws, κ => by
    show wipeK ws ((κ.map fz).set w .un) = (wipeK ws (κ.set w .un)).map fz
    rw [← wipeK_map, List.map_set]; rfl
/-- THE RULE: sts ahead of rest are done while what is owned is shared; κR tells which slots are kept of what they leave -/
theorem lx_viewB (ws : List Nat) (κ0 κR : List Kd) (h : Vx (J.keep κ0) κf sts rest g κ') (h2 : Lx J κ2 rest f2 κ3) (hf : κf = κ.map fz := by rfl) (h0 : κ0 = wipeK ws κf := by rfl) (hR : kle κR κ' = true := by rfl) (hm : kMerge κR (wipeK ws κ) = κ2 := by rfl) (hlen : κR.length = κ.length := by rfl)
    (hkx : (List.range J.kx.length).all (fun j => J.kx[j]? == some Kd.un || (κ0[j]?.isSome && κ0[j]? != some Kd.un)) = true := by rfl) : Lx J κ sts (sCons (viewB κR ws g) f2) κ3 := by
  subst hf h0
  obtain ⟨t2, p2, q2⟩ := h2.ex
  obtain ⟨t, p, q⟩ := h.ex t2 p2
  refine ⟨t, p, fun R S H σ env D hr hq => ?_⟩
  obtain ⟨S2, g2, r2, back⟩ := hr.viewY
  unfold sCons viewB at hq
  cases eg : g env with
  | none => rw [eg] at hq; exact hq.elim
  | some e1 =>
    rw [eg] at hq
    simp only at hq
    by_cases ht : ((κR.zip e1).all fun p => okKD p.1 p.2) = true
    · rw [if_pos ht] at hq
      have hq : SReq J κ3 R S H σ (f2 (eMerge κR e1 (wipe ws env))) D := hq
      refine q _ S2 H σ env D e1 r2 eg fun S' H' σ' g' fx r' => ?_
      have r3 := r'.weak hR
      have l1 : σ'.length = κ.length := by rw [← r3.l1, hlen]
      obtain ⟨S'', g0, rb⟩ := back S' H' (ents κR e1 σ') (R.map fzE) g' (r3.rel.perm List.perm_append_comm) (ents_ok ht)
      have rw0 : Rl J.G S'' H' (wipeK ws κ) (wipe ws env) σ (ents κR e1 σ' ++ R) := rb.wipe
      have lw : (wipeK ws κ).length = κ.length := by rw [rw0.l1, ← hr.l1]
      have lwe : (wipe ws env).length = κ.length := by rw [rw0.l2, ← hr.l1]
      have le1 : e1.length = κ.length := by rw [r3.l2, l1]
      have fx0 : ∀ (i : Nat) (k : Kd), (wipeK ws κ)[i]? = some k → k ≠ .un → σ'[i]? = σ[i]? := fun i k e n => by
        have e2 : (wipeK ws (κ.map fz))[i]? = some (fz k) := by
          have := wipeK_map (ws := ws) (κ := κ)
          rw [this, List.getElem?_map, e]; rfl
        exact fx i (fz k) e2 (by cases k <;> simp [fz] at n ⊢)
      have rel : Rel J.G S'' H' (R ++ (ents κR e1 σ' ++ ents (wipeK ws κ) (wipe ws env) σ)) := by
        refine rw0.rel.perm ?_
        rw [List.append_assoc]
        refine (List.perm_append_comm_assoc _ _ _)
      have rm := Rel.merge (by rw [hlen, lw]) (by rw [le1, hlen]) (by rw [lwe, hlen]) (by rw [l1, hlen]) (by rw [← hr.l1, hlen]) fx0 rel
      rw [hm] at rm
      have l3 : κ2.length = κ.length := by rw [← hm, kMerge_len (by rw [hlen, lw]), lw]
      have r5 : Rl J.G S'' H' κ2 (eMerge κR e1 (wipe ws env)) σ' R := ⟨by rw [l3, l1], by rw [eMerge_len (by rw [hlen, lwe]) (by rw [le1, lwe]), lwe, l1], rm⟩
      refine q2 R S'' H' σ' _ D r5 (SReq.later hq g0 fun j k e n => ?_)
      have hj : j < J.kx.length := (List.getElem?_eq_some_iff.mp e).1
      have := List.all_eq_true.mp hkx j (List.mem_range.mpr hj)
      simp only [Bool.or_eq_true, beq_iff_eq, Bool.and_eq_true, bne_iff_ne] at this
      rcases this with q1 | ⟨q1, q2⟩
      · rw [e] at q1; cases q1; exact absurd rfl n
      · obtain ⟨k2, e2⟩ := Option.isSome_iff_exists.mp q1
        exact fx j k2 e2 fun z => q2 (by rw [e2, z])
    · rw [if_neg ht] at hq
      exact hq.elim
end
theorem all3_of_allF {G S H} {j : Nat} : ∀ {n : Nat} {ds vs M}, AllF G S H (List.replicate n (some j)) ds vs M → All3 (DenO G S H (j + 1)) ds vs M
  | 0, [], _, _, h => h
  | n + 1, d :: ds, vs, M, h => by
    rw [List.replicate_succ] at h
    obtain ⟨v, r, L1, L2, e1, e2, p, q⟩ := h
    exact ⟨v, r, L1, L2, e1, e2, p, all3_of_allF q⟩
  | 0, _ :: _, _, _, h => h.elim
  | n + 1, [], _, _, h => by rw [List.replicate_succ] at h; exact h.elim
theorem Rel.newListO {G : Gx} {S H xs ds vs} {p : Addr} {j n : Nat} (h : Rel G S H (ents ((List.replicate n (some j)).map kdO) ds (vs.map some) ++ xs)) (l1 : n = ds.length) (l2 : vs.length = ds.length) (hp : H p = none) :
    Grow S H S (upd H p (.lst vs)) ∧ Rel G S (upd H p (.lst vs)) (⟨.ow (.n (j + 1)), .lst ds, some (.ref p)⟩ :: xs) := by
  have ns : ¬ S p := fun s => h.1.al p s hp
  have g : Grow S H S (upd H p (.lst vs)) := Grow.of fun a s => ⟨s, upd_ne fun e => ns (e ▸ s)⟩
  obtain ⟨al, L, r⟩ := h
  obtain ⟨L1, L2, rfl, r1, r2, dj⟩ := r.split
  obtain ⟨ha, nd⟩ := relP_allF (by rw [List.length_replicate]; exact l1) l2 r1
  have np : ∀ {xs' M}, RelP G S H xs' M → ∀ a ∈ M, a ≠ p ∧ ¬ S a := fun q a m => ⟨fun e => (q.off a m).2 (e ▸ hp), (q.off a m).1⟩
  refine ⟨g, ⟨fun a s => ?_, G.st _ _ _ _ g.w al.ph⟩, (p :: L1) ++ L2, .cons ⟨_, rfl, ?_⟩ ?_ (fun a m => ?_) (r2.keep g fun a m => ⟨upd_ne (np r2 a m).1, (np r2 a m).2⟩)⟩
  · have e : upd H p (.lst vs) a = H a := upd_ne (fun e => ns (e ▸ s))
    rw [e]; exact al.al a s
  · exact ⟨p, vs, L1, rfl, upd_same, rfl, all3_of_allF (ha.grow g fun a m => upd_ne (np r1 a m).1)⟩
  · exact List.nodup_cons.mpr ⟨fun m => (np r1 p m).1 rfl, nd⟩
  · rcases List.mem_cons.mp m with rfl | m
    · exact ⟨ns, by rw [upd_same]; simp, fun q => (np r2 _ q).1 rfl⟩
    · exact ⟨(np r1 a m).2, by rw [upd_ne (np r1 a m).1]; exact (r1.off a m).2, dj a m⟩
section
variable {J : Jc} {κ κ1 κ2 κ' : List Kd} {es : List Expr} {pos : Pos} {fr : M (List D)}
theorem ex_lstO (j n : Nat) (ha : Ao J κ es (List.replicate n (some j)) fr κ1) : Ex J κ (.List es pos) (.ow (.n (j + 1))) (lstM fr) κ1 := by
  obtain ⟨t, p, q⟩ := ha.ex
  refine ⟨_, pe_lst p, fun R S H σ env Q h hq => q _ _ _ _ _ _ h (hq.bind.mono fun ds e1 _ z S1 H1 vs g1 l1 l2 r1 => ?_)⟩
  by_cases hl : ds.length ≤ lim
  · rw [if_pos hl] at z
    refine ⟨by rw [l2, ← l1]; exact lim_ok hl, fun p hp => ?_⟩
    have r0 := r1.rel
    rw [List.append_assoc] at r0
    rw [List.length_replicate] at l1 l2
    obtain ⟨g2, r3⟩ := r0.newListO l1.symm (l2.trans l1.symm) hp
    exact z S1 _ _ (g1.trans g2) ⟨r1.l1, r1.l2, r3⟩
  · rw [if_neg hl] at z; exact z.elim
end
end Rm
namespace Rm
open PySem PySem.Spec L2
theorem denL_eraseIdx {G S H} : ∀ {ds : List D} {vs : List V} (n : Nat), DenL G S H ds vs → DenL G S H (ds.eraseIdx n) (vs.eraseIdx n)
  | [], vs, n, h => by simp only [DenL] at h; subst h; simp [DenL]
  | d :: ds, vs, 0, h => by
    simp only [DenL] at h
    obtain ⟨v, r, rfl, p, q⟩ := h
    exact q
  | d :: ds, vs, n + 1, h => by
    simp only [DenL] at h
    obtain ⟨v, r, rfl, p, q⟩ := h
    simp only [List.eraseIdx_cons_succ, DenL]
    exact ⟨v, _, rfl, p, denL_eraseIdx n q⟩
def inLim (i : Int) : Bool := decide (-(lim : Int) ≤ i ∧ i ≤ lim)
theorem inLim_b {i : Int} (h : inLim i = true) : -(2 ^ 63) ≤ i ∧ i < 2 ^ 63 := by
  have h := of_decide_eq_true h
  have e : (lim : Int) = 1000000 := rfl
  rw [e] at h
  omega
def gPopAt : List D → List D → Option (D × List D)
  | xs, [.int i] => if inLim i = true then (seqIndex? i xs.length).bind fun k => (xs[k]?).map fun d => (d, xs.eraseIdx k) else none
  | _, _ => none
theorem wr_popAt {G} : WrP G rPopAt gPopAt 1 := fun S H xs args a us vs d xs' Q hg ha hA hv hl => by
  unfold gPopAt at hg
  split at hg
  · rename_i i
    split at hg
    · rename_i hi
      cases e : seqIndex? i xs.length with
      | none => rw [e] at hg; cases hg
      | some k =>
        rw [e, Option.bind_some] at hg
        cases e2 : xs[k]? with
        | none => rw [e2] at hg; cases hg
        | some d0 =>
          rw [e2] at hg
          cases hg
          obtain ⟨v, rfl, q⟩ := denL1 hv
          simp only [Den] at q
          subst q
          obtain ⟨w, ew, hw⟩ := denL_get hA e2
          exact ⟨_, w, denL_eraseIdx k hA, hw, fun z => ⟨a, us, i, k, w, rfl, rfl, ha, (inLim_b hi).1, (inLim_b hi).2, by rw [hA.length]; exact e, ew, z⟩⟩
    · cases hg
  · cases hg
def gIns : List D → List D → Option (D × List D)
  | xs, [.int i, d] => if (inLim i = true ∧ 0 ≤ i) ∧ xs.length < lim then some (.non, xs.take i.toNat ++ [d] ++ xs.drop i.toNat) else none
  | _, _ => none
section
variable {J : Jc} {κ κ1 κ2 κ3 κ' : List Kd} {a b c e e2 : Expr} {es : List Expr} {pos p np apos cpos p2 : Pos} {fa fb : M D} {fr : M (List D)} {n : Nat} {xn : Str}
def maxL : List Int → Option Int
  | [] => none
  | i :: is => some (is.foldl max i)
def minL : List Int → Option Int
  | [] => none
  | i :: is => some (is.foldl min i)
def gMaxL : List D → Option D
  | [x] => match x with | .tup _ => none | _ => (seqOf' x).bind fun ds => (intsD ds).bind fun ns => (maxL ns).map .int
  | _ => none
def gMinL : List D → Option D
  | [x] => match x with | .tup _ => none | _ => (seqOf' x).bind fun ds => (intsD ds).bind fun ns => (minL ns).map .int
  | _ => none
def boolsD : List D → Option (List Bool)
  | [] => some []
  | .bl b :: r => (boolsD r).map (b :: ·)
  | _ => none
def gAllL : List D → Option D
  | [x] => match x with | .tup _ => none | _ => (seqOf' x).bind fun ds => (boolsD ds).map fun bs => .bl (bs.all id)
  | _ => none
theorem lst_of {G : Gx} {S H x v ds} (h : Den G S H x v) (e : seqOf' x = some ds) (nt : ∀ xs, x ≠ .tup xs) : ∃ a us, v = .ref a ∧ SqL G.K H a us ∧ DenL G S H ds us := by
  cases x with
  | lst xs => cases e; exact den_lst h
  | rol xs => cases e; exact den_rol h
  | tup xs => exact absurd rfl (nt xs)
  | _ => cases e
def NewK (G : Gx) (r : List V → Hp → VK → Prop) (g : List D → Option (List (Key × D))) : Prop := ∀ (S : Rg) (H : Hp) (ds : List D) (vs : List V) (ds' : List (Key × D)) (Q : VK), g ds = some ds' → DenL G S H ds vs →
  ∃ us, DenK G S H ds' us ∧ ((∀ p, H p = none → Q (.ref p) (upd H p (.dK us))) → r vs H Q)
def nk (g : List D → Option (List (Key × D))) : List D → Option D := fun ds => (g ds).map .dK
theorem Rel.newDKs {G : Gx} {S H xs ds ws} {p : Addr} (h : Rel G S H xs) (hp : H p = none) (hd : DenK G S H ds ws) : Grow S H S (upd H p (.dK ws)) ∧ Rel G S (upd H p (.dK ws)) (⟨.ow 0, .dK ds, some (.ref p)⟩ :: xs) := by
  have ns : ¬ S p := fun s => h.1.al p s hp
  have g : Grow S H S (upd H p (.dK ws)) := Grow.of fun a s => ⟨s, upd_ne fun e => ns (e ▸ s)⟩
  refine Rel.step0 (ys := [⟨.ow 0, .dK ds, some (.ref p)⟩]) h g (fun a n => .inr (upd_ne fun e => n (e ▸ hp))) (fun a s => .inl s) (fun a s => by
    have e : upd H p (.dK ws) a = H a := upd_ne (fun e => ns (e ▸ s))
    rw [e]; exact h.1.al a s) ⟨[p] ++ [], fun a m => ?_, .cons ⟨_, rfl, ?_⟩ (by simp) (fun a m => ?_) .nil⟩
  · simp at m; subst m; exact hp
  · exact ⟨p, ws, [], rfl, upd_same, rfl, (DenK_iff.mp hd).1, All3_zero.mpr ⟨(DenK_iff.mp (hd.grow g)).2, rfl⟩⟩
  · simp at m; subst m
    exact ⟨ns, by rw [upd_same]; simp, by simp⟩
theorem prim_newK {G : Gx} {r} {g : List D → Option (List (Key × D))} {n : Nat} (h : NewK G r g) : Prim G r (List.replicate n .sh) (.ow 0) (ro (nk g)) := by
  intro S H ds vs d os xs Q hg l1 l2 hr hq
  unfold ro nk at hg
  cases eg : g ds with
  | none => rw [eg] at hg; cases hg
  | some ds' =>
    rw [eg] at hg
    cases hg
    have hd := rel_sh hr (by simpa using l1) (by simpa using l2)
    obtain ⟨us, hu, k⟩ := h S H ds vs ds' Q eg hd
    refine k fun p hp => ?_
    obtain ⟨g1, r1⟩ := hr.newDKs hp hu
    exact hq S _ (.ref p) g1 l1 (Rel.outK (ks := List.replicate n .sh) (ds := ds) (vs := vs) (T := [⟨.ow 0, .dK ds', some (.ref p)⟩]) r1)
def pairsD : List D → Option (List (Key × D))
  | [] => some []
  | .tup [k, d] :: r => (keyD k).bind fun k => (pairsD r).map fun l => (k, d) :: l
  | _ => none
theorem pairsD_den {G : Gx} {S H} : ∀ {ds l vs}, pairsD ds = some l → DenL G S H ds vs → ∃ (ps : List Addr) (us : List (Key × V)), vs = ps.map V.ref ∧ DenK G S H l us ∧ Paired (fun p kv => SqT G.K H p [kV kv.1, kv.2]) ps us
  | [], l, vs, e, h => by
    simp only [pairsD] at e; cases e
    simp only [DenL] at h; subst h
    exact ⟨[], [], rfl, by simp only [DenK], .nil⟩
  | d :: ds, l, vs, e, h => by
    simp only [DenL] at h
    obtain ⟨v, r, rfl, p, q⟩ := h
    unfold pairsD at e
    split at e
    · rename_i h0; cases h0
    · rename_i k d0 r0 h0
      cases h0
      cases ek : keyD k with
      | none => rw [ek] at e; cases e
      | some key =>
        rw [ek, Option.bind_some] at e
        cases e2 : pairsD ds with
        | none => rw [e2] at e; cases e
        | some l' =>
          rw [e2] at e
          cases e
          obtain ⟨ps, us, rfl, dk, pr⟩ := pairsD_den e2 q
          obtain ⟨a, ws, rfl, s, dl⟩ := den_tup p
          obtain ⟨v1, v2, rfl, p1, p2⟩ := denL2 dl
          have := keyD_den ek p1
          subst this
          exact ⟨a :: ps, (key, v2) :: us, rfl, denK_cons.mpr ⟨v2, us, rfl, p2, dk⟩, .cons s pr⟩
    · cases e
def gDictP : List D → Option (List (Key × D))
  | [x] => match x with | .tup _ => none | _ => (seqOf' x).bind fun ds => if ds.length ≤ lim then (pairsD ds).map (mergeD []) else none
  | _ => none
theorem nk_pairs {G : Gx} : NewK G (fun xs H Q => ∃ (a : Addr) (ps : List Addr) (kvs : List (Key × V)), xs = [.ref a] ∧ SqL G.K H a (ps.map V.ref) ∧ Paired (fun p kv => SqT G.K H p [kV kv.1, kv.2]) ps kvs ∧
    ∀ p, H p = none → Q (.ref p) (upd H p (.dK (mergeK [] kvs)))) gDictP := fun S H ds vs ds' Q hg hd => by
  unfold gDictP at hg
  split at hg
  · rename_i x
    split at hg
    · cases hg
    · rename_i nt
      cases e1 : seqOf' x with
      | none => rw [e1] at hg; cases hg
      | some xs =>
        rw [e1, Option.bind_some] at hg
        split at hg
        · cases e2 : pairsD xs with
          | none => rw [e2] at hg; cases hg
          | some l =>
            rw [e2] at hg
            cases hg
            obtain ⟨v, rfl, q⟩ := denL1 hd
            obtain ⟨a, us, rfl, s, l'⟩ := lst_of q e1 nt
            obtain ⟨ps, kvs, rfl, dk, pr⟩ := pairsD_den e2 l'
            exact ⟨mergeK [] kvs, denK_merge dk (by simp only [DenK]), fun z => ⟨a, ps, kvs, rfl, s, pr, z⟩⟩
        · cases hg
  · cases hg
def gDictD : List D → Option (List (Key × D))
  | [.dK kvs] => some kvs
  | _ => none
theorem ex_dictP (hg : Gl J.X "dict") (hm : J.X.mg "dict" = none) (hev : Ev J κ [a] [.sh] fr κ1) (hhot : J.hot = false := by rfl) (hst : noStar [a] = true := by rfl) (hpl : (backTo pos (starEach [] J.X.env)).any (·.1) = false := by rfl) :
    Ex J κ (.Call (.Name "dict" p) [a] [] pos) (.ow 0) (primM (ro (nk gDictP)) [.sh] fr) κ1 := ex_callTy (call_dictP (J.calm hhot)) (prim_newK (n := 1) nk_pairs) hg hm (by decide +kernel) hev hst (by decide) (by decide) hpl
end
end Rm
namespace Rm
open PySem PySem.Spec L2
def knO : Option Nat → Nat
  | none => 0
  | some j => j + 1
theorem all3_of_rep {G : Gx} {S H} (ko : Option Nat) : ∀ {n : Nat} {ds : List D} {vs : List V} {M}, ds.length = n → vs.length = n → RelP G S H (ents (List.replicate n (kdO ko)) ds (vs.map some)) M → All3 (DenO G S H (knO ko)) ds vs M ∧ M.Nodup
  | 0, [], [], M, _, _, h => by cases h; exact ⟨⟨rfl, rfl⟩, .nil⟩
  | n + 1, d :: ds, v :: vs, M, l1, l2, h => by
    have h : RelP G S H (⟨kdO ko, d, some v⟩ :: ents (List.replicate n (kdO ko)) ds (vs.map some)) M := h
    cases h with
    | @cons _ _ L0 M0 he nd f hr =>
      obtain ⟨q, n2⟩ := all3_of_rep ko (by simpa using l1) (by simpa using l2) hr
      refine ⟨⟨v, vs, L0, M0, rfl, rfl, ?_, q⟩, List.nodup_append.mpr ⟨nd, n2, fun a m b mb e => (f a m).2.2 (e ▸ mb)⟩⟩
      cases ko with
      | none =>
        obtain ⟨e, w, ew, q⟩ := he
        cases ew
        exact ⟨q, e⟩
      | some j =>
        obtain ⟨w, ew, q⟩ := he
        cases ew
        exact q
  | 0, _ :: _, _, _, l, _, _ => by simp at l
  | 0, [], _ :: _, _, _, l, _ => by simp at l
  | n + 1, [], _, _, l, _, _ => by simp at l
  | n + 1, _ :: _, [], _, _, l, _ => by simp at l
theorem DenO.mono {G S H S' H' k d v L} (g : Grow S H S' H') (f : ∀ a ∈ L, H' a = H a) (h : DenO G S H k d v L) : DenO G S' H' k d v L := DenO.grow g f h
theorem zip_fst {α β} : ∀ {ks : List α} {us : List β}, us.length = ks.length → (ks.zip us).map (·.1) = ks
  | [], [], _ => rfl
  | k :: ks, u :: us, h => by simp [zip_fst (ks := ks) (us := us) (by simpa using h)]
  | [], _ :: _, h => by simp at h
  | _ :: _, [], h => by simp at h
theorem zip_snd {α β} : ∀ {ks : List α} {us : List β}, us.length = ks.length → (ks.zip us).map (·.2) = us
  | [], [], _ => rfl
  | k :: ks, u :: us, h => by simp [zip_snd (ks := ks) (us := us) (by simpa using h)]
  | [], _ :: _, h => by simp at h
  | _ :: _, [], h => by simp at h
/-- an owned dict is filled -/
theorem Rel.fillK {G : Gx} {S H xs} {ko : Option Nat} {n : Nat} {ks : List Key} {ds : List D} {us : List V} {p : Addr} (l0 : ks.length = n) (l1 : ds.length = n) (l2 : us.length = n)
    (h : Rel G S H (ents (List.replicate n (kdO ko)) ds (us.map some) ++ (⟨.ow 0, .dK [], some (.ref p)⟩ :: xs))) :
    H p = some (.dK []) ∧ Grow S H S (upd H p (.dK (ks.zip us))) ∧ Rel G S (upd H p (.dK (ks.zip us))) (⟨.ow (.n (knO ko)), .dK (ks.zip ds), some (.ref p)⟩ :: xs) := by
  obtain ⟨al, L, r⟩ := h
  obtain ⟨L1, L2, rfl, r1, r2, dj⟩ := r.split
  cases r2 with
  | @cons _ _ L0 M he nd f hr =>
    obtain ⟨w, e, a, ws, M0, e1, ha, e2, hk, hA⟩ := he
    cases e
    cases e1
    have e0 : ws = [] := by simpa using hk
    subst e0
    obtain ⟨_, e3⟩ := All3_zero.mp hA
    subst e3 e2
    obtain ⟨ha1, nd1⟩ := all3_of_rep ko l1 l2 r1
    have fp := f p (by simp)
    have g : Grow S H S (upd H p (.dK (ks.zip us))) := Grow.of fun b s => ⟨s, upd_ne fun e => fp.1 (e ▸ s)⟩
    have n1 : ∀ b ∈ L1, b ≠ p := fun b m e => dj b m (by rw [e]; simp)
    refine ⟨ha, g, ⟨fun b s => by rw [(g b s).2]; exact al.al b s, G.st _ _ _ _ g.w al.ph⟩, (p :: L1) ++ M, .cons ⟨_, rfl, p, ks.zip us, L1, rfl, upd_same, rfl, ?_, ?_⟩ (List.nodup_cons.mpr ⟨fun m => n1 p m rfl, nd1⟩) (fun b m => ?_) (hr.keep g fun b m => ⟨upd_ne fun e => fp.2.2 (e ▸ m), (hr.off b m).1⟩)⟩
    · rw [zip_fst (by omega), zip_fst (by omega)]
    · rw [zip_snd (by omega), zip_snd (by omega)]
      exact ha1.imp fun d v L hs q => q.mono g fun b m => upd_ne (n1 b (hs b m))
    · rcases List.mem_cons.mp m with rfl | m
      · exact ⟨fp.1, by rw [upd_same]; simp, fp.2.2⟩
      · exact ⟨(r1.off b m).1, by rw [upd_ne (n1 b m)]; exact (r1.off b m).2, fun q => dj b m (by simp [q])⟩
theorem zip_self {α β : Type} : ∀ {l : List (α × β)}, (l.map (·.1)).zip (l.map (·.2)) = l
  | [] => rfl
  | x :: l => by simp [zip_self (l := l)]
theorem putK_new {α : Type} [DecidableEq α] {acc : List (α × V)} {k : α} {v : V} (h : ∀ kv ∈ acc, kv.1 ≠ k) : putK acc k v = acc ++ [(k, v)] := by
  unfold putK
  rw [if_neg]
  simp only [List.any_eq_true, decide_eq_true_eq, not_exists, not_and]
  exact fun x m e => h x m e
theorem mergeK_nodup : ∀ {kvs acc : List (Key × V)}, (acc.map (·.1) ++ kvs.map (·.1)).Nodup → mergeK acc kvs = acc ++ kvs
  | [], acc, _ => by simp [mergeK]
  | (k, v) :: kvs, acc, h => by
    have h1 : ∀ kv ∈ acc, kv.1 ≠ k := fun kv m e => by
      rw [List.nodup_append] at h
      exact h.2.2 kv.1 (List.mem_map_of_mem m) k (by simp) e
    show mergeK (putK acc k v) kvs = _
    rw [putK_new h1, mergeK_nodup (by simpa using h)]
    simp
structure Dp (J : Jc) (κ : List Kd) (pos : Pos) (keys : List (Option Expr)) (values : List Expr) (ko : Option Nat) (n : Nat) (f : M (List (Key × D))) (κ' : List Kd) : Prop where
  ex : ∃ trs, PPs J.X pos keys values trs ∧ ∀ R S H σ env Q, Rl J.G S H κ env σ R →
    Req J R S H σ (f env) (fun kds e => ∀ S' H' us, Grow S H S' H' → kds.length = n → us.length = n → Rl J.G S' H' κ' e σ (ents (List.replicate n (kdO ko)) (kds.map (·.2)) (us.map some) ++ R) → Q (((kds.map (·.1)).zip us).map fun kv => (kV kv.1, kv.2)) H') → tPairs trs σ H Q
def pNil : M (List (Key × D)) := fun e => .ok [] e
def pCons (fk fv : M D) (fr : M (List (Key × D))) : M (List (Key × D)) := fun e => (fk e).bind fun k e => (fv e).bind fun d e => match keyD k with
  | some k => (fr e).bind fun r e => .ok ((k, d) :: r) e
  | none => .stuck
def dispM (f : M (List (Key × D))) : M D := fun e => (f e).bind fun l e => if (l.map (·.1)).Nodup then .ok (.dK l) e else .stuck
section
variable {J : Jc} {κ κ1 κ2 κ3 κ' : List Kd} {a b c e e2 : Expr} {es : List Expr} {pos p np apos cpos p2 : Pos} {fa fb fk fv : M D} {fr : M (List (Key × D))} {n : Nat} {xn : Str} {keys : List (Option Expr)} {values : List Expr} {ko : Option Nat}
theorem dp_nil : Dp J κ pos [] [] ko 0 pNil κ := ⟨[], pps_nil, fun R S H σ env Q h q => q S H [] .refl rfl rfl h⟩
theorem dp_cons (hk : Ex J κ a .sh fk κ1) (hv : Ex J κ1 b (kdO ko) fv κ2) (hr : Dp J κ2 pos keys values ko n fr κ3) : Dp J κ pos (some a :: keys) (b :: values) ko (n + 1) (pCons fk fv fr) κ3 := by
  obtain ⟨tk, pk, rk⟩ := hk.ex
  obtain ⟨tv, pv, rv⟩ := hv.ex
  obtain ⟨tr, pr, rr⟩ := hr.ex
  refine ⟨_, pps_cons pk pv pr, fun R S H σ env Q h q => ?_⟩
  refine rk _ _ _ _ _ _ h (q.bind.mono fun k e1 _ z S1 H1 u g1 r1 => ?_)
  refine rv _ _ _ _ _ _ r1.drop (((z.bind.later g1)).mono fun d e2 _ z2 S2 H2 w g2 r2 => ?_)
  cases ek : keyD k with
  | none => rw [ek] at z2; exact z2.elim
  | some kk =>
    rw [ek] at z2
    have hu := keyD_den ek r1.rel.shared
    subst hu
    refine rr _ _ _ _ _ _ r2 (((show Req J R S H σ ((fr e2).bind _) _ from z2).bind.later (g1.trans g2)).tmp _ |>.mono fun r e3 _ z3 S3 H3 us g3 l1 l2 r3 => ?_)
    refine z3 S3 H3 (w :: us) ((g1.trans g2).trans g3) (by simp [l1]) (by simp [l2]) ⟨r3.l1, r3.l2, ?_⟩
    refine r3.rel.perm ?_
    simp only [List.replicate_succ, List.map_cons, ents, List.cons_append, List.append_assoc]
    exact List.perm_middle
theorem ex_disp (hd : Dp J κ pos keys values ko n fr κ1) (hall : keys.all (·.isSome) = true := by rfl) (hl : keys.length = values.length := by rfl) (h0 : keys ≠ [] := by simp) (h15 : n ≤ 15 := by decide) (hn : keys.length = n := by rfl) :
    Ex J κ (.Dict keys values pos) (.ow (.n (knO ko))) (dispM fr) κ1 := by
  obtain ⟨trs, pt, rt⟩ := hd.ex
  refine ⟨_, pe_disp pt hall hl h0 (by omega), fun R S H σ env Q h hq p hp => ?_⟩
  obtain ⟨g, r⟩ := h.rel.newDK hp
  refine rt _ _ _ _ _ _ (⟨h.l1, h.l2, r⟩ : Rl J.G S _ κ env σ (⟨.ow 0, .dK [], some (.ref p)⟩ :: R)) (((Req.bind hq).later g).tmp _ |>.mono fun l e1 _ z S1 H1 us g1 l1 l2 r1 => ?_)
  by_cases hnd : (l.map (·.1)).Nodup
  · rw [if_pos hnd] at z
    have r2 : Rel J.G S1 H1 (ents (List.replicate n (kdO ko)) (l.map (·.2)) (us.map some) ++ (⟨.ow 0, .dK [], some (.ref p)⟩ :: (R ++ ents κ1 e1 σ))) := by
      have := r1.rel
      simpa only [List.append_assoc, List.cons_append] using this
    obtain ⟨hp2, g2, r3⟩ := Rel.fillK (ks := l.map (·.1)) (by simpa using l1) (by simpa using l1) l2 r2
    have e0 : (l.map (·.1)).zip (l.map (·.2)) = l := zip_self
    rw [e0] at r3
    refine ⟨hp2, (l.map (·.1)).zip us, rfl, by rw [List.length_zip, List.length_map]; omega, ?_⟩
    have em : mergeK [] ((l.map (·.1)).zip us) = (l.map (·.1)).zip us := by
      have := mergeK_nodup (acc := []) (kvs := (l.map (·.1)).zip us) (by rw [zip_fst (by simp [l1, l2])]; simpa using hnd)
      simpa using this
    rw [em]
    exact z S1 _ _ ((g.trans g1).trans g2) ⟨r1.l1, r1.l2, r3⟩
  · rw [if_neg hnd] at z
    exact z.elim
end
section
variable {J : Jc} {κ κ1 κb κ2 κ3 κ4 : List Kd} {vs ws : List Nat} {src : M (List D)} {g : D → List D → Option (List D)} {f1 : M Bool} {fe : M D} {tg iter elt : Expr} {ifs : List Expr} {scope : Scope} {own : List (Str × Nat)} {pos p lp : Pos}
end
end Rm
namespace Rm
open PySem PySem.Spec L2
/-- where a key stands -/
def keyAt (k : Key) : List (Key × D) → Option Nat
  | [] => none
  | (k0, _) :: r => if k0 = k then some 0 else (keyAt k r).map (· + 1)
/-- the list at k with one more -/
def appAt (k : Key) (d : D) : List (Key × D) → Option (List (Key × D))
  | [] => none
  | (k0, x) :: r => if k0 = k then (match x with | .lst xs => if xs.length < lim then some ((k0, .lst (xs ++ [d])) :: r) else none | _ => none) else (appAt k d r).map ((k0, x) :: ·)
def appKM (i : Nat) (gk : List D → Option D) (fe : M D) : M D := fun e => match e[i]?, (gk e).bind keyD with
  | some (.dK ds), some k => if (ds.map (·.2)).all isL = true ∧ (keyAt k ds).isSome = true then (fe e).bind fun d e => (match appAt k d ds with
    | some ds' => .ok .non (e.set i (.dK ds'))
    | none => .stuck) else .stuck
  | _, _ => .stuck
section
variable {J : Jc} {κ κ1 κ2 κ3 κ' : List Kd} {a b c e o ke : Expr} {es : List Expr} {pos p apos cpos spos np : Pos} {fa fb fo fe : M D} {gk : List D → Option D} {xn : Str} {m : Nat}
end
end Rm
namespace Rm
open PySem PySem.Spec L2
section
variable {J : Jc} {κ κ1 κb κ2 κ3 κ4 : List Kd} {vs ws : List Nat} {src : M (List D)} {g : D → List D → Option (List D)} {f1 : M Bool} {fe : M D} {tg iter elt : Expr} {ifs : List Expr} {scope : Scope} {own : List (Str × Nat)} {pos : Pos}
end
section
variable {J : Jc} {κ κ1 κ2 κ3 κ' : List Kd} {a b c e e2 o ie : Expr} {es : List Expr} {pos p apos cpos spos np : Pos} {fa fb fo fe fi : M D} {fr : M (List D)} {xn : Str} {m : Nat}
theorem ex_popAt2 (i : Nat) (hN : J.X.N[i]? = some xn) (hvi : Vis J.X.env.scope xn) (hk : κ[i]? = some (.ow 0)) (hev : Ev J κ [e] [.sh] fr κ2) (hk2 : κ2[i]? = some (.ow 0))
    (hst : noStar [e] = true := by rfl) (hbase : attributeBase (.Name xn np) "pop" J.X.env (eval (.Name xn np) J.X.env) = eval (.Name xn np) J.X.env := by rfl)
    (hfew : ((backTo cpos (starEach [e] J.X.env)).all (fun x => !x.1) && (backToKw cpos (keywordEach [] J.X.env)).all (fun x => x.1.isSome)
      && decide ([e].length + ([] : List Keyword).length + (if ([] : List Keyword).isEmpty then 0 else 1) < 30)) = true := by rfl)
    (hline : (apos.endLine == cpos.line) = true := by rfl) (hplain : (backTo cpos (starEach [] J.X.env)).any (·.1) = false := by rfl)
    (hdb : (xn == ("__debug__" : Str)) = false := by decide) (hcd : (xn == ("__classdict__" : Str)) = false := by decide) :
    Ex J κ (.Call (.Attribute (.Name xn np) "pop" apos) [e] [] cpos) .sh (meth2M "list" (wrG gPopAt) i [.sh] fr) κ2 :=
  ex_bm2 i 0 hN hvi hk PySem.F.plainAttrs_list PySem.F.slot_list_pop PySem.F.type_list_pop mt_popAt (by decide) (prim_wr wr_popAt) hev hk2 rfl hst hbase hfew hline hplain hdb hcd
end
end Rm
namespace Rm
open PySem PySem.Spec L2
theorem Rel.putO {G : Gx} {S H xs dv vv w ds} {j : Nat} {k : Key} (h : Rel G S H (⟨.ow (.n j), dv, some vv⟩ :: ⟨.ow (.n (j + 1)), .dK ds, some w⟩ :: xs)) (hn : getDk ds k = none) :
    ∃ a ws0, w = .ref a ∧ H a = some (.dK ws0) ∧ ds.length = ws0.length ∧ Grow S H S (upd H a (.dK (putK ws0 k vv))) ∧ Rel G S (upd H a (.dK (putK ws0 k vv))) (⟨.ow (.n (j + 1)), .dK (ds ++ [(k, dv)]), some (.ref a)⟩ :: xs) := by
  obtain ⟨al, L, q⟩ := h
  cases q with
  | @cons _ _ L0 M he nd f hr =>
  cases hr with
  | @cons _ _ L1 M1 he1 nd1 f1 hr1 =>
    obtain ⟨w', e, a, ws0, M0, e1, ha, e2, kk, hA⟩ := he1
    cases e
    cases e1
    subst e2
    obtain ⟨w, e, hd⟩ := he
    cases e
    have pk : putK ws0 k vv = ws0 ++ [(k, vv)] := by
      unfold putK
      rw [any_keys kk, getDk_none hn]
      rfl
    have fa := f1 a (by simp)
    have n0 : a ∉ L0 := fun m => (f a m).2.2 (by simp)
    have g : Grow S H S (upd H a (.dK (ws0 ++ [(k, vv)]))) := Grow.of fun b s => ⟨s, upd_ne fun e => fa.1 (e ▸ s)⟩
    obtain ⟨na, nd2⟩ := List.nodup_cons.mp nd1
    have hA2 : All3 (DenO G S (upd H a (.dK (ws0 ++ [(k, vv)]))) (j + 1)) (ds.map (·.2)) (ws0.map (·.2)) M0 := hA.imp fun d v L hs p => p.grow g fun b m => upd_ne fun e => na (e ▸ hs b m)
    have hd2 : DenO G S (upd H a (.dK (ws0 ++ [(k, vv)]))) (j + 1) dv vv L0 := DenO.grow g (fun b m => upd_ne fun e => n0 (e ▸ m)) (show DenO G S H (j + 1) dv vv L0 from hd)
    refine ⟨a, ws0, rfl, ha, by simpa using (congrArg List.length kk).symm, ?_⟩
    rw [pk]
    refine ⟨g, ⟨fun b s => by rw [(g b s).2]; exact al.al b s, G.st _ _ _ _ g.w al.ph⟩, (a :: (M0 ++ L0)) ++ M1, .cons ⟨_, rfl, a, ws0 ++ [(k, vv)], M0 ++ L0, rfl, upd_same, rfl, by simp [kk], by simpa using All3.snoc hd2 hA2⟩ ?_ (fun b m => ?_) (hr1.keep g fun b m => ?_)⟩
    · refine List.nodup_cons.mpr ⟨fun m => ?_, List.nodup_append.mpr ⟨nd2, nd, fun b m c mc e => (f c mc).2.2 (by subst e; simp [m])⟩⟩
      rcases List.mem_append.mp m with m | m
      · exact na m
      · exact n0 m
    · have alt : b = a ∨ b ∈ M0 ∨ b ∈ L0 := by simpa using m
      rcases alt with rfl | m | m
      · exact ⟨fa.1, by rw [upd_same]; simp, fa.2.2⟩
      · have := f1 b (List.mem_cons_of_mem _ m)
        exact ⟨this.1, by rw [upd_ne (show b ≠ a from fun e => na (e ▸ m))]; exact this.2.1, this.2.2⟩
      · have := f b m
        exact ⟨this.1, by rw [upd_ne (show b ≠ a from fun e => n0 (e ▸ m))]; exact this.2.1, fun q => this.2.2 (List.mem_append_right _ q)⟩
    · exact ⟨upd_ne fun e => fa.2.2 (e ▸ m), (hr1.off b m).1⟩
def setDO (i : Nat) (gk : List D → Option D) (fe : M D) : M Fl := fun e => (fe e).bind fun d e => match e[i]?, (gk e).bind keyD with
  | some (.dK ds), some k => if ds.length < lim ∧ getDk ds k = none then .ok .nx (e.set i (.dK (ds ++ [(k, d)]))) else .stuck
  | _, _ => .stuck
def setPM (i : Nat) (n : Nat) (gs : List D → Option (List Key)) (gk : List D → Option D) (fe : M D) : M Fl := fun e => (fe e).bind fun d e => match e[i]?, gs e, (gk e).bind keyD with
  | some df, some p, some k => match putP p k d df, lenP p df with
    | some df', some l => if p.length = n ∧ l < lim then .ok .nx (e.set i df') else .stuck
    | _, _ => .stuck
  | _, _, _ => .stuck
section
variable {J : Jc} {κ κ1 κ2 κ' : List Kd} {a e o ke : Expr} {pos pos' np apos : Pos} {fe : M D} {i c n m : Nat} {xn : Str} {gs : List D → Option (List Key)} {gk : List D → Option D}
theorem sx_setDO (j : Nat) (hr : Room n J.X.A) (hN : J.X.N[i]? = some xn) (hvi : Vis J.X.env.scope xn) (he : Ex J κ e (.ow (.n j)) fe κ1) (hk : κ1[i]? = some (.ow (.n (j + 1)))) (hx : Dx J κ1 ke gk)
    (hs : swapsWith e (some (.Subscript (.Name xn np) ke pos')) pos.line J.X.env = pure false := by rfl) (hdb : (xn == ("__debug__" : Str)) = false := by decide) (hcd : (xn == ("__classdict__" : Str)) = false := by decide) :
    Sx J κ (.Assign [.Subscript (.Name xn np) ke pos'] e pos) (setDO i gk fe) κ1 := by
  obtain ⟨t, p, q⟩ := he.ex
  obtain ⟨tk, pk, qk⟩ := hx.ex
  refine ⟨_, ps_dput (hu1 hr) (pe_var hN hvi hdb hcd) pk p hs, fun R S H σ env D h hq => q _ _ _ _ _ _ h ((SReq.bind hq).mono fun d e1 _ z S1 H1 v g1 r1 => ?_)⟩
  have hvl : Vl J.G S1 H1 κ1 e1 σ := (show Rl J.G S1 H1 κ1 e1 σ R from r1.drop).vl
  split at z
  · rename_i ds k ed ek
    split at z
    · rename_i hlim
      obtain ⟨w, hw, h'⟩ := r1.take hk ed
      have r2 := h' (.dK ds)
      rw [List.set_self' ed] at r2
      have r3 : Rel J.G S1 H1 (⟨.ow (.n j), d, some v⟩ :: ⟨.ow (.n (j + 1)), .dK ds, some w⟩ :: (R ++ ents (κ1.set i .un) e1 σ)) := r2.rel.perm (.swap ..)
      obtain ⟨a, ws, rfl, ea, el, g2, r4⟩ := r3.putO hlim.2
      cases edk : gk e1 with
      | none => rw [edk] at ek; cases ek
      | some dk' =>
        rw [edk] at ek
        obtain ⟨vk, dkn, run⟩ := qk S1 H1 σ e1 hvl dk' edk
        have e1' := keyD_den ek dkn
        refine ⟨_, hw, run H1 _ (fun _ => rfl) ⟨a, _, rfl, .inl ⟨ws, k, ea, e1', by rw [← el]; exact lim_lt (Nat.le_of_lt hlim.1), rfl⟩, ?_⟩⟩
        have r5 : Rl J.G S1 _ (κ1.set i .un) e1 σ (⟨.ow (.n (j + 1)), .dK (ds ++ [(k, d)]), some (.ref a)⟩ :: R) := ⟨r2.l1, r2.l2, r4⟩
        have r6 := r5.put (i := i) (k0 := .un) (d0 := .dK ds) (by rw [List.getElem?_set_self]; exact (List.getElem?_eq_some_iff.mp hk).1) ed hw
        rw [List.set_set, List.set_self' hk] at r6
        have z : ∀ S' H' σ', Grow S H S' H' → Fix J.kx σ σ' → Rl J.G S' H' κ1 (e1.set i (.dK (ds ++ [(k, d)]))) σ' R → D.nx σ' H' := z
        exact z S1 _ σ (g1.trans g2) .refl r6
    · exact z.elim
  · exact z.elim
end
end Rm
namespace Rm
open PySem PySem.Spec L2
def tNL (n : Nat) (g : List D → List D → Option (List D)) : D → List D → Option (List D) := fun d e => match d with
  | .lst ds => if ds.length = n then g ds e else none
  | .rol ds => if ds.length = n then g ds e else none
  | _ => none
section
variable {J : Jc} {κ κ1 κ2 κ3 κ' : List Kd} {pos : Pos}
theorem gt_lst {tgs : List Expr} {kk : Nat} {g} {n : Nat} {ws : List Nat} (h : Gts J κ tgs g ws κ1)
    (hn : (assignEach tgs J.X.env).length = n := by rfl) (hhot : J.hot = false := by rfl) (hst : (assignEach tgs J.X.env).findIdx? (·.1) = none := by rfl) : Gtx J κ (.Tuple tgs kk pos) .sh (tNL n g) ws κ1 := by
  obtain ⟨t, p, q⟩ := h.ex
  refine ⟨_, pg_unl (J.calm hhot) p hn hst, fun R S H σ env d v e' Q h hq z => ?_⟩
  cases d with
  | lst ds =>
    obtain ⟨a, vs, rfl, s, l⟩ := den_lst h.rel.shared
    unfold tNL at hq
    simp only at hq
    split at hq
    · rename_i hn
      exact ⟨a, vs, rfl, s, by rw [l.length, hn], q R S H σ env ds vs e' _ l h.drop hq z⟩
    · cases hq
  | rol ds =>
    obtain ⟨a, vs, rfl, s, l⟩ := den_rol h.rel.shared
    unfold tNL at hq
    simp only at hq
    split at hq
    · rename_i hn
      exact ⟨a, vs, rfl, s, by rw [l.length, hn], q R S H σ env ds vs e' _ l h.drop hq z⟩
    · cases hq
  | _ => cases hq
end
end Rm
namespace RP
open PySem PySem.Spec L2 Rm
noncomputable section
def b_l_some_k18 (clt : ClT) : M Fl :=
 sCons (sAsg (primM (ro Rm.gSub) [.sh, .sh] (aCons (lstM (aCons (primM (ro gMin) [.sh, .sh] (aCons (cn (.int 2)) (aCons (primM (ro gLen2) [.sh] (aCons (vr 1) (aNil))) (aNil)))) (aCons (primM (ro gMin) [.sh, .sh] (aCons (cn (.int 4)) (aCons (primM (ro gLen2) [.sh] (aCons (vr 1) (aNil))) (aNil)))) (aCons (primM (ro gLen2) [.sh] (aCons (vr 1) (aNil))) (aNil))))) (aCons (callM (F_l_take_k54 clt) [.io 0 0, .sh] (aCons (vr 0) (aCons (cn (.int 3)) (aNil)))) (aNil)))) (tName 2))
 (sCons (sAsg (primM (ro (nl gList)) [.sh] (aCons (vr 1) (aNil))) (tName 3))
 (sCons (sAsg (lstM (aNil)) (tName 4))
 (sCons (forM' (rng1M (aCons (callM (F_l_take_k54 clt) [.io 0 0, .sh] (aCons (vr 0) (aCons (primM (ro gAdd) [.sh, .sh] (aCons (vr 2) (aCons (cn (.int 1)) (aNil)))) (aNil)))) (aNil))) (tName 5)
 (sCons (sExp (methM "list" gApp (.io 4 0) [.sh] (vr 4) (aCons (meth2M "list" (wrG gPopAt) 3 [.sh] (aCons (callM (F_l_take_k54 clt) [.io 0 0, .sh] (aCons (vr 0) (aCons (primM (ro gLen2) [.io 3 0] (aCons (vr 3) (aNil))) (aNil)))) aNil)) aNil)))
 (sNil)))
 (sCons (sRet (vr 4))
 (sNil)))))
def F_l_some_k18 (clt : ClT) : List D → Out D := runF 2 4 (b_l_some_k18 clt)
def b_l_lists (clt : ClT) : M Fl :=
 sCons (sRet (primM (ro (nk gDictP)) [.sh] (aCons (lcM (seqM (vr 1)) [2] (tName 2) (yes) (tupM (aCons (vr 2) (aCons (callM (F_l_some_k18 clt) [.io 0 0, .sh] (aCons (vr 0) (aCons (vr 1) (aNil)))) (aNil))))) (aNil))))
 (sNil)
def F_l_lists (clt : ClT) : List D → Out D := runF 2 1 (b_l_lists clt)
def b_are_marks (clt : ClT) : M Fl :=
 sCons (ifM (orB (notB (asB (primM (ro (gIsiT2 clt)) (.sh :: [.sh, .sh]) (aCons (vr 1) (aCons (cn (.ty "list")) (aCons (cn (.ty "tuple")) (aNil))))))) (asB (primM (ro gGt) [.sh, .sh] (aCons (primM (ro gLen2) [.sh] (aCons (vr 1) (aNil))) (aCons (primM (ro gLen2) [.sh] (aCons (vr 0) (aNil))) (aNil))))))
 (sCons (sRet (cn (.bl false)))
 (sNil))
 (sNil))
 (sCons (sAsg (lstM (aNil)) (tName 2))
 (sCons (forM' (seqM (vr 1)) (tName 3)
 (sCons (ifM (orB (notB (asB (primM (ro (gIsi2 clt)) [.sh, .sh] (aCons (vr 3) (aCons (cn (.ty "str")) (aNil)))))) (orB (asB (primM (ro gNotIn2) [.sh, .sh] (aCons (vr 3) (aCons (vr 0) (aNil))))) (asB (primM (ro gIn2) [.sh, .io 2 0] (aCons (vr 3) (aCons (vr 2) (aNil)))))))
 (sCons (sRet (cn (.bl false)))
 (sNil))
 (sNil))
 (sCons (sExp (methM "list" gApp (.io 2 0) [.sh] (vr 2) (aCons (vr 3) aNil)))
 (sNil))))
 (sCons (sRet (cn (.bl true)))
 (sNil))))
def F_are_marks (clt : ClT) : List D → Out D := runF 2 2 (b_are_marks clt)
def b_need_lists (clt : ClT) : M Fl :=
 sCons (ifM (orB (notB (asB (primM (ro (gIsi2 clt)) [.sh, .sh] (aCons (vr 1) (aCons (cn (.ty "dict")) (aNil)))))) (asB (primM (ro gNe) [.sh, .sh] (aCons (primM (ro gLen2) [.sh] (aCons (vr 1) (aNil))) (aCons (primM (ro gLen2) [.sh] (aCons (vr 0) (aNil))) (aNil))))))
 (sCons (raiseM 6 [("found" : Str)] (aCons (vr 1) (aNil)))
 (sNil))
 (sNil))
 (sCons (forM' (seqM (vr 0)) (tName 2)
 (sCons (ifM (notB (asB (callM (F_are_marks clt) [.sh, .sh] (aCons (vr 0) (aCons (dgetM (vr 1) (vr 2)) (aNil))))))
 (sCons (raiseM 6 [("found" : Str)] (aCons (vr 1) (aNil)))
 (sNil))
 (sNil))
 (sNil)))
 (sNil))
def F_need_lists (clt : ClT) : List D → Out D := runF 2 1 (b_need_lists clt)
def b_Marks_need_name (clt : ClT) : M Fl :=
 sCons (ifM (orB (notB (asB (primM (ro (gIsi2 clt)) [.sh, .sh] (aCons (vr 1) (aCons (cn (.ty "str")) (aNil)))))) (asB (primM (ro gNotIn2) [.sh, .sh] (aCons (vr 1) (aCons (primM (ro (gFld [20] ("called" : Str))) [.sh] (aCons (vr 0) (aNil))) (aNil))))))
 (sCons (raiseM 2 [("found" : Str)] (aCons (vr 1) (aNil)))
 (sNil))
 (sNil))
 (sNil)
def F_Marks_need_name (clt : ClT) : List D → Out D := runF 2 0 (b_Marks_need_name clt)
def b_Marks_told (clt : ClT) : M Fl :=
 sCons (sAsg (tupM (aCons (primM (ro Rm.gSub) [.sh, .sh] (aCons (primM (ro (gFld [20] ("sides" : Str))) [.sh] (aCons (vr 0) (aNil))) (aCons (cn (.str ("ahead" : Str))) (aNil)))) (aCons (primM (ro Rm.gSub) [.sh, .sh] (aCons (primM (ro (gFld [20] ("sides" : Str))) [.sh] (aCons (vr 0) (aNil))) (aCons (cn (.str ("behind" : Str))) (aNil)))) (aNil)))) (tN 2 (tsCons (tName 1) (tsCons (tName 2) (tsNil)))))
 (sCons (sRet (primM (ro gTuple) [.sh] (aCons (lcM (seqM (primM (ro (gFld [20] ("called" : Str))) [.sh] (aCons (vr 0) (aNil)))) [3] (tName 3) (yes) (tupM (aCons (vr 3) (aCons (primM (ro Rm.gSub) [.sh, .sh] (aCons (vr 1) (aCons (vr 3) (aNil)))) (aCons (primM (ro Rm.gSub) [.sh, .sh] (aCons (vr 2) (aCons (vr 3) (aNil)))) (aNil)))))) (aNil))))
 (sNil))
def F_Marks_told (clt : ClT) : List D → Out D := runF 1 3 (b_Marks_told clt)
def b_Marks_names (clt : ClT) : M Fl :=
 sCons (sRet (primM (ro (nl gList)) [.sh] (aCons (primM (ro (gFld [20] ("called" : Str))) [.sh] (aCons (vr 0) (aNil))) (aNil))))
 (sNil)
def F_Marks_names (clt : ClT) : List D → Out D := runF 1 0 (b_Marks_names clt)
def b_Marks_ahead (clt : ClT) : M Fl :=
 sCons (sExp (methC 20 ("need_name" : Str) (F_Marks_need_name clt) [.sh] (vr 0) (aCons (vr 1) (aNil))))
 (sCons (sRet (primM (ro (nl gList)) [.sh] (aCons (primM (ro Rm.gSub) [.sh, .sh] (aCons (primM (ro Rm.gSub) [.sh, .sh] (aCons (primM (ro (gFld [20] ("sides" : Str))) [.sh] (aCons (vr 0) (aNil))) (aCons (cn (.str ("ahead" : Str))) (aNil)))) (aCons (vr 1) (aNil)))) (aNil))))
 (sNil))
def F_Marks_ahead (clt : ClT) : List D → Out D := runF 2 0 (b_Marks_ahead clt)
def b_Marks_behind (clt : ClT) : M Fl :=
 sCons (sExp (methC 20 ("need_name" : Str) (F_Marks_need_name clt) [.sh] (vr 0) (aCons (vr 1) (aNil))))
 (sCons (sRet (primM (ro (nl gList)) [.sh] (aCons (primM (ro Rm.gSub) [.sh, .sh] (aCons (primM (ro Rm.gSub) [.sh, .sh] (aCons (primM (ro (gFld [20] ("sides" : Str))) [.sh] (aCons (vr 0) (aNil))) (aCons (cn (.str ("behind" : Str))) (aNil)))) (aCons (vr 1) (aNil)))) (aNil))))
 (sNil))
def F_Marks_behind (clt : ClT) : List D → Out D := runF 2 0 (b_Marks_behind clt)
def b_Marks_meeting (clt : ClT) : M Fl :=
 sCons (sExp (methC 20 ("need_name" : Str) (F_Marks_need_name clt) [.sh] (vr 0) (aCons (vr 1) (aNil))))
 (sCons (sExp (methC 20 ("need_name" : Str) (F_Marks_need_name clt) [.sh] (vr 0) (aCons (vr 2) (aNil))))
 (sCons (sAsg (tupM (aCons (primM (ro Rm.gSub) [.sh, .sh] (aCons (primM (ro Rm.gSub) [.sh, .sh] (aCons (primM (ro (gFld [20] ("sides" : Str))) [.sh] (aCons (vr 0) (aNil))) (aCons (cn (.str ("ahead" : Str))) (aNil)))) (aCons (vr 1) (aNil)))) (aCons (primM (ro Rm.gSub) [.sh, .sh] (aCons (primM (ro Rm.gSub) [.sh, .sh] (aCons (primM (ro (gFld [20] ("sides" : Str))) [.sh] (aCons (vr 0) (aNil))) (aCons (cn (.str ("behind" : Str))) (aNil)))) (aCons (vr 2) (aNil)))) (aNil)))) (tN 2 (tsCons (tName 3) (tsCons (tName 4) (tsNil)))))
 (sCons (sRet (lcM (seqM (primM (ro (gFld [20] ("called" : Str))) [.sh] (aCons (vr 0) (aNil)))) [5] (tName 5) (andB (asB (primM (ro gIn2) [.sh, .sh] (aCons (vr 5) (aCons (vr 3) (aNil))))) (asB (primM (ro gIn2) [.sh, .sh] (aCons (vr 5) (aCons (vr 4) (aNil)))))) (vr 5)))
 (sNil))))
def F_Marks_meeting (clt : ClT) : List D → Out D := runF 3 3 (b_Marks_meeting clt)
def b_Marks_tells (clt : ClT) : M Fl :=
 sCons (sRet (primM (ro gNe) [.sh, .sh] (aCons (methC 20 ("meeting" : Str) (F_Marks_meeting clt) [.sh, .sh] (vr 0) (aCons (vr 1) (aCons (vr 2) (aNil)))) (aCons (lstM (aNil)) (aNil)))))
 (sNil)
def F_Marks_tells (clt : ClT) : List D → Out D := runF 3 0 (b_Marks_tells clt)
def b_Marks_total (clt : ClT) : M Fl :=
 sCons (sRet (primM (ro gSum) [.sh] (aCons (lcM (seqM (methC 20 ("told" : Str) (F_Marks_told clt) [] (vr 0) aNil)) [1, 2, 3] (tN 3 (tsCons (tName 1) (tsCons (tName 2) (tsCons (tName 3) (tsNil))))) (yes) (primM (ro gAdd) [.sh, .sh] (aCons (primM (ro gLen2) [.sh] (aCons (vr 2) (aNil))) (aCons (primM (ro gLen2) [.sh] (aCons (vr 3) (aNil))) (aNil))))) (aNil))))
 (sNil)
def F_Marks_total (clt : ClT) : List D → Out D := runF 1 3 (b_Marks_total clt)
end
end RP
namespace Rm
open PySem PySem.Spec L2
end Rm
namespace Rm
open PySem PySem.Spec L2
def toks (a : Nat → Addr) (ds : List D) : List D := (List.range ds.length).map fun k => D.tok (a k) (ds.getD k .non)
end Rm
namespace Rm
open PySem PySem.Spec L2
def utD : D → D
  | .tok _ d => d
  | d => d
def vrU (i : Nat) : M D := fun e => match e[i]? with | some d => .ok (utD d) e | none => .stuck
section
variable {J : Jc} {κ κV κ1 κ2 κ3 κ4 κE κ5 : List Kd} {s1 : Stmt} {aa sts : List Stmt} {c ie xe : Expr} {f1 fA f2 : M Fl} {fT : M Bool} {fi fx : M D} {gn : Str} {np apos spos cpos p2 pos : Pos}
end
end Rm
namespace RP
open PySem PySem.Spec L2 Rm
noncomputable section
end
end RP
namespace Rm
open PySem PySem.Spec L2
def lfD : D → Bool
  | .str _ | .int _ | .bl _ | .non => true
  | _ => false
theorem Rel.leaf {G : Gx} {S H d v xs} {k : Nat} (h : Rel G S H (⟨.sh, d, some v⟩ :: xs)) (hl : lfD d = true) : Rel G S H (⟨.ow (.n k), d, some v⟩ :: xs) := by
  obtain ⟨al, L, q⟩ := h
  cases q with
  | @cons _ _ L0 M he nd f hr =>
    obtain ⟨rfl, w, e, hd⟩ := he
    cases e
    refine ⟨al, _, .cons ⟨_, rfl, ?_⟩ nd f hr⟩
    show DenO G S H (k + 1) d v []
    cases d with
    | str _ => exact ⟨hd, rfl⟩
    | int _ => exact ⟨hd, rfl⟩
    | bl _ => exact ⟨hd, rfl⟩
    | non => exact ⟨hd, rfl⟩
    | _ => cases hl
section
variable {J : Jc} {κ κ1 κ2 κ3 κ' : List Kd} {e : Expr} {p apos cpos np : Pos} {fe : M D} {xn : Str}
end
section
variable {J : Jc} {κ κ1 κ2 κ' : List Kd} {sts : List Stmt} {f : M Fl}
end
end Rm
namespace RP
open PySem PySem.Spec L2 Rm
noncomputable section
end
end RP
namespace Rm
open PySem PySem.Spec L2
section
variable {G : Gx0} {S' S'' : Rg} {H' : Hp}
end
section
variable {J : Jc} {κ κ1 κ2 κ3 κf κ0 κ' : List Kd} {sts rest : List Stmt} {g : List D → Option (List D)} {f2 : M Fl}
end
end Rm
namespace RP
open PySem PySem.Spec L2 Rm
noncomputable section
end
end RP
namespace Rm
open PySem PySem.Spec L2
theorem all3_lenV {P : D → V → List Addr → Prop} : ∀ {ds vs M}, All3 P ds vs M → vs.length = ds.length
  | [], _, _, h => by rw [h.1]; rfl
  | d :: ds, vs, M, h => by
    obtain ⟨v, r, L1, L2, rfl, _, p, q⟩ := h
    simp [all3_lenV q]
theorem all3_get {P : D → V → List Addr → Prop} : ∀ {ds vs M} {n : Nat} {d : D}, All3 P ds vs M → ds[n]? = some d → ∃ v L, vs[n]? = some v ∧ P d v L ∧ (∀ b ∈ L, b ∈ M) ∧ (M.Nodup → L.Nodup)
  | [], _, _, n, d, _, e => by simp at e
  | d0 :: ds, vs, M, n, d, h, e => by
    obtain ⟨v, r, L1, L2, rfl, rfl, p, q⟩ := h
    cases n with
    | zero =>
      simp only [List.getElem?_cons_zero, Option.some.injEq] at e
      subst e
      exact ⟨v, L1, rfl, p, fun b m => List.mem_append_left _ m, fun nd => (List.nodup_append.mp nd).1⟩
    | succ n =>
      rw [List.getElem?_cons_succ] at e
      obtain ⟨w, L, e1, e2, e3, e4⟩ := all3_get q e
      exact ⟨w, L, by rw [List.getElem?_cons_succ]; exact e1, e2, fun b m => List.mem_append_right _ (e3 b m), fun nd => e4 (List.nodup_append.mp nd).2.1⟩
theorem all3_at {P : D → V → List Addr → Prop} {ds vs M} {i : Int} {d : D} (h : All3 P ds vs M) (e : atI ds i = some d) : ∃ v L, atI vs i = some v ∧ P d v L ∧ (∀ b ∈ L, b ∈ M) ∧ (M.Nodup → L.Nodup) := by
  unfold atI at e ⊢
  rw [all3_lenV h]
  cases ei : ixN ds.length i with
  | none => rw [ei] at e; cases e
  | some j =>
    rw [ei] at e
    exact all3_get h e
theorem Rel.pick {G : Gx} {S H xs} {j : Nat} {ds : List D} {v w : V} {i : Int} {d : D} (h : Rel G S H (⟨.sh, .int i, some w⟩ :: ⟨.ow (.n (j + 1)), .lst ds, some v⟩ :: xs)) (e : atI ds i = some d) :
    w = .int i ∧ ∃ a vs u, v = .ref a ∧ H a = some (.lst vs) ∧ atI vs i = some u ∧ Rel G S H (⟨.ow (.n j), d, some u⟩ :: xs) := by
  have hi := h.shared
  simp only [Den] at hi
  obtain ⟨al, L, q⟩ := h.drop
  cases q with
  | @cons _ _ L0 M he nd f hr =>
    obtain ⟨v', ev, a, vs, M0, rfl, ha, rfl, hA⟩ := he
    cases ev
    obtain ⟨u, Lu, e1, e2, e3, e4⟩ := all3_at hA e
    refine ⟨hi, a, vs, u, rfl, ha, e1, al, Lu ++ M, .cons ⟨u, rfl, e2⟩ (e4 (List.nodup_cons.mp nd).2) (fun b m => f b (List.mem_cons_of_mem _ (e3 b m))) hr⟩
def pickM (fa fb : M D) : M D := fun e => (fa e).bind fun x e => (fb e).bind fun y e => match x, y with
  | .lst ds, .int i => match atI ds i with
    | some d => .ok d e
    | none => .stuck
  | _, _ => .stuck
section
variable {J : Jc} {κ κ1 κ2 : List Kd} {a b : Expr} {pos : Pos} {fa fb : M D}
theorem ex_pickO (j : Nat) (ha : Ex J κ a (.ow (.n (j + 1))) fa κ1) (hb : Ex J κ1 b .sh fb κ2) (hs : PlainIx b := by exact fun _ _ => rfl) : Ex J κ (.Subscript a b pos) (.ow (.n j)) (pickM fa fb) κ2 := by
  obtain ⟨ta, pa, qa⟩ := ha.ex
  obtain ⟨tb, pb, qb⟩ := hb.ex
  refine ⟨_, pe_ix ix_list pa pb hs, fun R S H σ env Q h hq => qa _ _ _ _ _ _ h (hq.bind.mono fun x e1 _ z S1 H1 v g1 r1 => qb _ _ _ _ _ _ r1 (((z.bind.later g1).tmp _).mono fun y e2 _ z2 S2 H2 w g2 r2 => ?_))⟩
  split at z2
  · rename_i ds i
    split at z2
    · rename_i d ed
      obtain ⟨rfl, a, vs, u, rfl, hA, eu, r3⟩ := r2.rel.pick ed
      have z3 : ∀ S' H' v, Grow S H S' H' → Rl J.G S' H' κ2 e2 σ (⟨.ow (.n j), d, some v⟩ :: R) → Q v H' := z2
      exact ⟨a, vs, _, u, rfl, rfl, SqL.of hA, eu, z3 S2 H2 u (g1.trans g2) ⟨r2.l1, r2.l2, r3⟩⟩
    · exact z2.elim
  · exact z2.elim
end
def isLD : D → Bool
  | .lst _ => true
  | .dK _ => true
  | _ => false
def forOM2 (i x : Nat) (fb : M Fl) : M Fl := fun e => match e[i]? with
  | some (.lst ds) => if ds.all isLD = true then (match forOGo x fb ds [] e with
    | .ok ds' e' => .ok .nx (e'.set i (.lst ds'))
    | _ => .stuck) else .stuck
  | _ => .stuck
section
variable {J : Jc} {κ κ1 κ2 κ3 κ' : List Kd} {a b c e o ix : Expr} {es : List Expr} {pos p apos cpos p2 np spos xp : Pos} {fa fb0 fo fe : M D} {fr : M (List D)} {as : List Ak} {xn yn : Str} {m : Nat} {fb : M Fl} {body : List Stmt} {tg : Expr}
end
def lfO : D → Bool
  | .tup _ | .str _ | .int _ | .bl _ | .non => true
  | _ => false
def lfOM (f : M D) : M D := fun e => (f e).bind fun d e => if lfO d = true then .ok d e else .stuck
theorem Rel.leafO {G : Gx} {S H xs d v} {j : Nat} (h : Rel G S H (⟨.sh, d, some v⟩ :: xs)) (hl : lfO d = true) : Rel G S H (⟨.ow (.n j), d, some v⟩ :: xs) := by
  obtain ⟨al, L, q⟩ := h
  cases q with
  | @cons _ _ L0 M he nd f hr =>
    obtain ⟨rfl, w, e, hd⟩ := he
    cases e
    refine ⟨al, _, .cons ⟨_, rfl, ?_⟩ nd f hr⟩
    show DenO G S H (j + 1) d v []
    cases d with
    | tup _ => exact ⟨hd, rfl⟩
    | str _ => exact ⟨hd, rfl⟩
    | int _ => exact ⟨hd, rfl⟩
    | bl _ => exact ⟨hd, rfl⟩
    | non => exact ⟨hd, rfl⟩
    | _ => cases hl
section
variable {J : Jc} {κ κ1 : List Kd} {a : Expr} {fa : M D}
theorem ex_leafO (j : Nat) (ha : Ex J κ a .sh fa κ1) : Ex J κ a (.ow (.n j)) (lfOM fa) κ1 := by
  obtain ⟨t, p, q⟩ := ha.ex
  refine ⟨t, p, fun R S H σ env Q h hq => q _ _ _ _ _ _ h (hq.bind.mono fun d e1 _ z S1 H1 v g1 r1 => ?_)⟩
  by_cases hl : lfO d = true
  · rw [if_pos hl] at z
    exact z S1 H1 v g1 ⟨r1.l1, r1.l2, r1.rel.leafO hl⟩
  · rw [if_neg hl] at z
    exact z.elim
end
theorem Rel.clrD {G : Gx} {S H xs ds v} {k : Nat} (h : Rel G S H (⟨.ow (.n k), .dK ds, some v⟩ :: xs)) :
    ∃ a vs, v = .ref a ∧ H a = some (.dK vs) ∧ Grow S H S (upd H a (.dK [])) ∧ Rel G S (upd H a (.dK [])) (⟨.ow (.n k), .dK [], some (.ref a)⟩ :: xs) := by
  obtain ⟨al, L, q⟩ := id h
  cases q with
  | @cons _ _ L0 M he nd f hr =>
    obtain ⟨w, e, a, vs, M0, e1, ha, e2, kk, hA⟩ := he
    cases e
    cases e1
    subst e2
    have ns : ¬ S a := (f a (by simp)).1
    have g : Grow S H S (upd H a (.dK [])) := Grow.of fun b s => ⟨s, upd_ne fun e => ns (e ▸ s)⟩
    refine ⟨a, vs, rfl, ha, g, ⟨fun b s => by rw [(g b s).2]; exact al.al b s, G.st _ _ _ _ g.w al.ph⟩, [a] ++ M, .cons ⟨_, rfl, a, [], [], rfl, upd_same, rfl, rfl, rfl, rfl⟩ (by simp) (fun b m => ?_) (hr.keep g fun b m => ?_)⟩
    · simp at m
      subst m
      exact ⟨ns, by rw [upd_same]; simp, (f b (by simp)).2.2⟩
    · exact ⟨upd_ne fun e => (f a (by simp)).2.2 (e ▸ m), (hr.off b m).1⟩
section
variable {J : Jc} {κ : List Kd} {apos cpos np : Pos} {xn : Str}
end
end Rm
namespace Rm
open PySem PySem.Spec L2
def isLT : D → Bool
  | .lst _ => true
  | .tup _ => true
  | _ => false
def isDLT : D → Bool
  | .dK kvs => kvs.all fun p => isLT p.2
  | _ => false
def emptyM (i : Nat) : M Fl := fun e => match e[i]? with
  | some (.lst ds) => if ds.all isDLT = true then .ok .nx e else .stuck
  | _ => .stuck
theorem Rl.unS {G : Gx} {S H κ env σ R} {i : Nat} {v : Option V} (h : Rl G S H κ env σ R) (hk : κ[i]? = some .un) : Rl G S H κ env (σ.set i v) R := by
  have hi : i < κ.length := (List.getElem?_eq_some_iff.mp hk).1
  have hd : env[i]? = some (env[i]'(by rw [h.l2, ← h.l1]; exact hi)) := List.getElem?_eq_getElem _
  obtain ⟨v0, hv⟩ := h.slot hk hd
  obtain ⟨l, r, e, f⟩ := ents_split hk hd hv
  refine ⟨by rw [List.length_set]; exact h.l1, by rw [List.length_set]; exact h.l2, ?_⟩
  have e2 := f .un (env[i]'(by rw [h.l2, ← h.l1]; exact hi)) v
  rw [List.set_self' hk, List.set_self' hd] at e2
  rw [e2]
  have h1 := h.rel
  rw [e] at h1
  have p : ∀ z : Ent, (R ++ (l ++ z :: r)).Perm (z :: (R ++ (l ++ r))) := fun z => (List.Perm.append_left R List.perm_middle).trans List.perm_middle
  exact ((h1.perm (p _)).un_eq).perm (p _).symm
theorem Rl.agr2 {G : Gx} {S H κ env σ σ' R} {x r : Nat} (h : Rl G S H κ env σ R) (a : Agr [x, r] σ σ') (hx : κ[x]? = some .un) (hr : κ[r]? = some .un) : Rl G S H κ env σ' R := by
  have lx : x < σ.length := by rw [← h.l1]; exact (List.getElem?_eq_some_iff.mp hx).1
  have lr : r < σ.length := by rw [← h.l1]; exact (List.getElem?_eq_some_iff.mp hr).1
  have e : σ' = (σ.set x (σ'[x]'(by rw [a.1]; exact lx))).set r (σ'[r]'(by rw [a.1]; exact lr)) := by
    apply List.ext_getElem?
    intro j
    by_cases j1 : r = j
    · subst j1
      rw [List.getElem?_set_self (by rw [List.length_set]; exact lr)]
      exact List.getElem?_eq_getElem _
    · rw [List.getElem?_set_ne j1]
      by_cases j2 : x = j
      · subst j2
        rw [List.getElem?_set_self lx]
        exact List.getElem?_eq_getElem _
      · rw [List.getElem?_set_ne j2]
        exact a.2 j (by simp; exact ⟨fun q => j2 q.symm, fun q => j1 q.symm⟩)
  rw [e]
  exact (h.unS hx).unS hr
theorem all3_of {P : D → V → List Addr → Prop} : ∀ {ds vs M v}, All3 P ds vs M → v ∈ vs → ∃ d ∈ ds, ∃ L, P d v L ∧ ∀ b ∈ L, b ∈ M
  | [], vs, M, v, h, m => by rw [h.1] at m; cases m
  | d :: ds, vs, M, v, h, m => by
    obtain ⟨v0, r, L1, L2, rfl, rfl, p, q⟩ := h
    rcases List.mem_cons.mp m with rfl | m
    · exact ⟨d, List.mem_cons_self .., L1, p, fun b m => List.mem_append_left _ m⟩
    · obtain ⟨d', md, L, p', f⟩ := all3_of q m
      exact ⟨d', List.mem_cons_of_mem _ md, L, p', fun b m => List.mem_append_right _ (f b m)⟩
/-- a value of such a dict -/
def ValE (G : Gx) (S : Rg) (L : List Addr) (a : Addr) (H0 H : Hp) (u : V) : Prop :=
  (∃ b, u = .ref b ∧ b ∈ L ∧ b ≠ a ∧ ∃ ws, H b = some (.lst ws)) ∨ (∃ ts, Den G.toGx0 S H0 (.tup ts) u)
structure InvE (G : Gx) (S : Rg) (L : List Addr) (a : Addr) (vs : List V) (H0 H : Hp) : Prop where
  off : ∀ b, b ∉ L → H b = H0 b
  sp : H a = some (.lst vs)
  it : ∀ v ∈ vs, ∃ d kvs, v = .ref d ∧ d ∈ L ∧ H d = some (.dK kvs) ∧ ∀ p ∈ kvs, ValE G S L a H0 H p.2
theorem InvE.clrL {G : Gx} {S L a vs H0 H b ws} (h : InvE G S L a vs H0 H) (m : b ∈ L) (n : b ≠ a) (e : H b = some (.lst ws)) : InvE G S L a vs H0 (upd H b (.lst [])) := by
  refine ⟨fun c q => ?_, ?_, fun v mv => ?_⟩
  · rw [upd_ne fun z => q (by rw [z]; exact m)]; exact h.off c q
  · rw [upd_ne fun z => n z.symm]; exact h.sp
  · obtain ⟨d, kvs, ev, ml, hd, f⟩ := h.it v mv
    have nd : d ≠ b := fun z => by rw [z, e] at hd; cases hd
    refine ⟨d, kvs, ev, ml, by rw [upd_ne nd]; exact hd, fun p mp => ?_⟩
    rcases f p mp with ⟨c, ec, mc, nc, ws', hc⟩ | q
    · by_cases z : c = b
      · subst z; exact .inl ⟨c, ec, mc, nc, [], upd_same⟩
      · exact .inl ⟨c, ec, mc, nc, ws', by rw [upd_ne z]; exact hc⟩
    · exact .inr q
theorem InvE.clrD {G : Gx} {S L a vs H0 H d kvs} (h : InvE G S L a vs H0 H) (m : d ∈ L) (e : H d = some (.dK kvs)) : InvE G S L a vs H0 (upd H d (.dK [])) := by
  have n : a ≠ d := fun z => by rw [← z, h.sp] at e; cases e
  refine ⟨fun c q => ?_, ?_, fun v mv => ?_⟩
  · rw [upd_ne fun z => q (by rw [z]; exact m)]; exact h.off c q
  · rw [upd_ne n]; exact h.sp
  · obtain ⟨d', kvs', ev, ml, hd, f⟩ := h.it v mv
    by_cases z : d' = d
    · subst z; exact ⟨d', [], ev, ml, upd_same, fun p mp => nomatch mp⟩
    · refine ⟨d', kvs', ev, ml, by rw [upd_ne z]; exact hd, fun p mp => ?_⟩
      rcases f p mp with ⟨c, ec, mc, nc, ws', hc⟩ | q
      · exact .inl ⟨c, ec, mc, nc, ws', by rw [upd_ne fun z => by rw [z, e] at hc; cases hc]; exact hc⟩
      · exact .inr q
theorem InvE.of {G : Gx} {S H ds v L} (h : DenO G.toGx0 S H 3 (.lst ds) v L) (nd : L.Nodup) (t : ds.all isDLT = true) : ∃ a vs, v = .ref a ∧ a ∈ L ∧ H a = some (.lst vs) ∧ InvE G S L a vs H H := by
  obtain ⟨a, vs, M, rfl, ha, rfl, q⟩ := h
  refine ⟨a, vs, rfl, List.mem_cons_self .., ha, fun _ _ => rfl, ha, fun v mv => ?_⟩
  have na : a ∉ M := (List.nodup_cons.mp nd).1
  obtain ⟨d, md, L1, p, f⟩ := all3_of q mv
  have td := List.all_eq_true.mp t d md
  cases d with
  | dK kvs =>
    obtain ⟨d', ws, M', rfl, hd, rfl, kk, q'⟩ := p
    refine ⟨d', ws, rfl, List.mem_cons_of_mem _ (f d' (List.mem_cons_self ..)), hd, fun p mp => ?_⟩
    obtain ⟨x, mx, L2, px, f2⟩ := all3_of q' (List.mem_map.mpr ⟨p, mp, rfl⟩)
    obtain ⟨y, my, rfl⟩ := List.mem_map.mp mx
    have tx := List.all_eq_true.mp td y my
    obtain ⟨k, x⟩ := y
    cases x with
    | lst zs =>
      obtain ⟨b, us, M2, eb, hb, rfl, _⟩ := px
      have mb : b ∈ M := f b (List.mem_cons_of_mem _ (f2 b (List.mem_cons_self ..)))
      exact .inl ⟨b, eb, List.mem_cons_of_mem _ mb, fun z => na (z ▸ mb), us, hb⟩
    | tup ts => exact .inr ⟨ts, px.1⟩
    | _ => cases tx
  | _ => cases td
section
variable {J : Jc} {κ : List Kd} {pos pos2 xp rp np np3 npx rp1 rp2 ip ipos lp epos apos cpos epos2 apos2 cpos2 vap vcp ifp : Pos} {xn yn rn : Str}
theorem sx_empty (i x r : Nat) (hnd : J.X.N.Nodup) (hN : J.X.N[i]? = some xn) (hvi : Vis J.X.env.scope xn) (hk : κ[i]? = some (.ow 2)) (hNx : J.X.N[x]? = some yn) (hvx : Vis J.X.env.scope yn) (hlx : Loc J.X.env.scope yn)
    (hNr : J.X.N[r]? = some rn) (hvr : Vis J.X.env.scope rn) (hlr : Loc J.X.env.scope rn) (hg : Gl J.X "isinstance") (hm : J.X.mg "isinstance" = none) (hgl : Gl J.X "list") (hml : J.X.mg "list" = none)
    (hxk : x < κ.length := by decide) (hrk : r < κ.length := by decide) (hxr : x ≠ r := by decide) (hws : [x, r].all (fun i => J.kx[i]? == some Kd.un) = true := by rfl)
    (hfn : J.X.fn yn = true ∨ J.X.env.scope.names.lookup yn = some .local := by first | exact .inl rfl | exact .inr rfl | assumption)
    (hfr : J.X.fn rn = true ∨ J.X.env.scope.names.lookup rn = some .local := by first | exact .inl rfl | exact .inr rfl | assumption)
    (hb1 : attributeBase (.Name yn npx) "values" J.X.env (eval (.Name yn npx) J.X.env) = eval (.Name yn npx) J.X.env := by rfl) (hl1 : (vap.endLine == vcp.line) = true := by rfl)
    (hb2 : attributeBase (.Name rn rp2) "clear" J.X.env (eval (.Name rn rp2) J.X.env) = eval (.Name rn rp2) J.X.env := by rfl) (hl2 : (apos.endLine == cpos.line) = true := by rfl)
    (hb3 : attributeBase (.Name yn np3) "clear" J.X.env (eval (.Name yn np3) J.X.env) = eval (.Name yn np3) J.X.env := by rfl) (hl3 : (apos2.endLine == cpos2.line) = true := by rfl)
    (hw2 : swapsWith (.Call (.Attribute (.Name rn rp2) "clear" apos) [] [] cpos) none epos.line J.X.env = pure false := by rfl)
    (hw3 : swapsWith (.Call (.Attribute (.Name yn np3) "clear" apos2) [] [] cpos2) none epos2.line J.X.env = pure false := by rfl)
    (ht : ∀ whole, isTrue (.Call (.Name "isinstance" ip) [.Name rn rp1, .Name "list" lp] [] ipos) J.X.env whole = (do let v ← whole; standAt (Expr.Call (.Name "isinstance" ip) [.Name rn rp1, .Name "list" lp] [] ipos).pos; holding [v] (truthy v)) := by intro _; rfl)
    (hst : noStar [.Name rn rp1, .Name "list" lp] = true := by rfl) (hpl : (backTo ipos (starEach [.Name "list" lp] J.X.env)).any (·.1) = false := by rfl)
    (hs : ∀ z, foldedSetIterable (.Name xn np) J.X.env z = pure z := by intro _; rfl) (hs2 : ∀ z, foldedSetIterable (.Call (.Attribute (.Name yn npx) "values" vap) [] [] vcp) J.X.env z = pure z := by intro _; rfl) (hhot : J.hot = false := by rfl)
    (hdb : (xn == ("__debug__" : Str)) = false := by decide) (hcd : (xn == ("__classdict__" : Str)) = false := by decide) (hdb2 : (yn == ("__debug__" : Str)) = false := by decide) (hcd2 : (yn == ("__classdict__" : Str)) = false := by decide)
    (hdb3 : (rn == ("__debug__" : Str)) = false := by decide) (hcd3 : (rn == ("__classdict__" : Str)) = false := by decide) :
    Sx J κ (.For (.Name yn xp) (.Name xn np) [.For (.Name rn rp) (.Call (.Attribute (.Name yn npx) "values" vap) [] [] vcp) [.If (.Call (.Name "isinstance" ip) [.Name rn rp1, .Name "list" lp] [] ipos) [.Expr (.Call (.Attribute (.Name rn rp2) "clear" apos) [] [] cpos) epos] [] ifp] [] pos2,
      .Expr (.Call (.Attribute (.Name yn np3) "clear" apos2) [] [] cpos2) epos2] [] pos) (emptyM i) (((κ.set i .un).set x .un).set r .un) := by
  have pIf := ps_if (pos := ifp) (pt_val (pe_callB (x := "isinstance") (p := ip) (pos := ipos) call_isi hg hm (by decide +kernel) (pa_cons (pe_var (X := J.X) (pos := rp1) hNr hvr hdb3 hcd3) (pa_cons (pe_bltn (x := "list") (pos := lp) hgl hml (by decide +kernel) (v := .ty "list") rfl (by decide) (by decide)) pa_nil (star_pl hst [_] _ _ rfl)) (star_pl hst [] _ _ rfl)) (by decide) (by decide) (star_pl hst [] _ _ rfl) hpl) ht)
    (pss_one (ps_expr (pos := epos) (pe_bm0 (apos := apos) (cpos := cpos) PySem.F.plainAttrs_list PySem.F.slot_list_clear PySem.F.type_list_clear mt_clear (pe_var (X := J.X) (pos := rp2) hNr hvr hdb3 hcd3) hb2 hl2) hw2)) pss_nil
  have pIn := ps_lock (ps_for (pos := pos2) J.po (J.calm hhot) (pi_values (tg := .Name rn rp) (pe_var (X := J.X) (pos := npx) hNx hvx hdb2 hcd2) hb1 hl1) (pg_name hnd hNr hlr hfr) (pss_one pIf) hs2)
  have pOut := ps_for (pos := pos) J.po (J.calm hhot) (pi_list (tg := .Name yn xp) (pe_var (X := J.X) (pos := np) hN hvi hdb hcd)) (pg_name hnd hNx hlx hfn)
    (pss_cons pIn (pss_one (ps_expr (pos := epos2) (pe_dclear (apos := apos2) (cpos := cpos2) (pe_var (X := J.X) (pos := np3) hNx hvx hdb2 hcd2) hb3 hl3) hw3))) hs
  refine ⟨_, pOut, fun R S H σ env D h hq => ?_⟩
  unfold emptyM at hq
  split at hq
  rotate_left
  · exact hq.elim
  rename_i ds ed
  split at hq
  rotate_left
  · exact hq.elim
  rename_i hall
  obtain ⟨v, hv, ht⟩ := h.take hk ed
  have r0 := ht (.lst ds)
  rw [List.set_self' ed] at r0
  obtain ⟨l1, l2, al, L, q⟩ := r0
  cases q with
  | @cons _ _ L0 M he nd f hr =>
    obtain ⟨w, ew, hd⟩ := he
    cases ew
    obtain ⟨a, vs, rfl, maL, ha, inv0⟩ := InvE.of (G := J.G) hd nd hall
    -- the end
    have fin : ∀ σ' H', Agr [x, r] σ σ' → InvE J.G S L0 a vs H H' → D.nx σ' H' := fun σ' H' ag iv => by
      have g : Grow S H S H' := Grow.of fun b s => ⟨s, iv.off b fun m => (f b m).1 s⟩
      have r1 : Rl J.G S H' (κ.set i .un) env σ R := ⟨l1, l2, ⟨fun b s => by rw [(g b s).2]; exact al.al b s, J.G.st _ _ _ _ g.w al.ph⟩, M, hr.keep g fun b m => ⟨iv.off b fun m2 => (f b m2).2.2 m, (hr.off b m).1⟩⟩
      have r2 := (r1.forget (i := x)).forget (i := r)
      refine hq S H' σ' g (ag.fix hws) (r2.agr2 ag ?_ ?_)
      · rw [List.getElem?_set_ne (fun q => hxr q.symm), List.getElem?_set_self (by rw [List.length_set]; exact hxk)]
      · rw [List.getElem?_set_self (by rw [List.length_set, List.length_set]; exact hrk)]
    have lκ : κ.length = σ.length := by rw [← l1, List.length_set]
    refine ⟨.ref a, hv, a, rfl, ⟨vs, SqL.of ha⟩, ?_⟩
    refine ⟨fun j m σ' H' => m = vs.length - j ∧ Agr [x, r] σ σ' ∧ InvE J.G S L0 a vs H H', ⟨vs.length, by omega, .refl, inv0⟩, ?_⟩
    rintro j m σ' H' ⟨rfl, ag, iv⟩
    by_cases hlt : j < vs.length
    rotate_left
    · exact .inl ⟨⟨vs, SqL.of iv.sp, by omega⟩, fin σ' H' ag iv⟩
    refine .inr ⟨⟨vs, _, SqL.of iv.sp, List.getElem?_eq_getElem hlt⟩, _, fun σ3 H3 q => q, fun u H3 y => ?_⟩
    obtain ⟨rfl, y⟩ := y
    have eu := y vs (SqL.of iv.sp)
    obtain ⟨d, kvs, rfl, md, hd', _⟩ := iv.it u (List.mem_of_getElem? eu)
    have ag1 : Agr [x, r] σ (σ'.set x (some (.ref d))) := ⟨by rw [List.length_set]; exact ag.1, fun k nk => by
      rw [List.getElem?_set_ne fun z => nk (by simp [← z])]; exact ag.2 k nk⟩
    have lx' : x < σ'.length := by rw [ag.1, ← lκ]; exact hxk
    have lr' : r < σ'.length := by rw [ag.1, ← lκ]; exact hrk
    refine ⟨d, _, hd', trivial, fun od => ?_⟩
    refine ⟨.ref d, List.getElem?_set_self lx', d, od, kvs, rfl, upd_same, ?_⟩
    refine ⟨fun j2 m2 σ2 H2 => m2 = kvs.length - j2 ∧ Agr [x, r] σ σ2 ∧ σ2[x]? = some (some (.ref d)) ∧ H2 d = some (.frz od (.dK kvs)) ∧ InvE J.G S L0 a vs H (upd H2 d (.dK kvs)), ⟨kvs.length, by omega, ag1, List.getElem?_set_self lx', upd_same, ?_⟩, ?_⟩
    · have e : upd (upd H3 d (.frz od (.dK kvs))) d (.dK kvs) = H3 := by
        funext b
        by_cases z : b = d
        · subst z; rw [upd_same, hd']
        · rw [upd_ne z, upd_ne z]
      rw [e]; exact iv
    rintro j2 m2 σ2 H2 ⟨rfl, ag2, hx2, hf2, iv2⟩
    by_cases hlt2 : j2 < kvs.length
    rotate_left
    · refine .inl ⟨⟨hf2, by omega⟩, hf2, ?_⟩
      refine ⟨.ref d, hx2, .inr (.inr (.inl ⟨rfl, .inl ⟨kvs, upd_same⟩⟩)), d, kvs, rfl, rfl, upd_same, ?_⟩
      exact ⟨vs.length - (j + 1), by omega, rfl, ag2, iv2.clrD md upd_same⟩
    refine .inr ⟨⟨hf2, hlt2⟩, _, fun σ3 H3 q => q, fun u H4 y2 => ?_⟩
    obtain ⟨rfl, k, ek⟩ := y2
    have ag3 : Agr [x, r] σ (σ2.set r (some u)) := ⟨by rw [List.length_set]; exact ag2.1, fun k nk => by
      rw [List.getElem?_set_ne fun z => nk (by simp [← z])]; exact ag2.2 k nk⟩
    have hr3 : (σ2.set r (some u))[r]? = some (some u) := List.getElem?_set_self (by rw [ag2.1, ← lκ]; exact hrk)
    have hx3 : (σ2.set r (some u))[x]? = some (some (.ref d)) := by rw [List.getElem?_set_ne (fun z => hxr z.symm)]; exact hx2
    obtain ⟨d2, kvs2, e2, _, hd2, f2⟩ := iv2.it (.ref d) (List.mem_of_getElem? eu)
    cases e2
    rw [upd_same] at hd2
    cases hd2
    rcases f2 _ (List.mem_of_getElem? ek) with ⟨b, eb, mb, nb, ws, hb⟩ | ⟨ts, dt⟩
    · simp only at eb
      subst eb
      have nbd : b ≠ d := fun z => by rw [z, upd_same] at hb; cases hb
      rw [upd_ne nbd] at hb
      refine ⟨.ref b, hr3, .ref b, .ty "list", .type "list", .type "list", true, rfl, .ty _, .base (.lst hb), kit_ty (by decide +kernel), true, rfl, ?_⟩
      refine iteT ?_
      refine ⟨.ref b, hr3, .inl ⟨rfl, ws, SqL.of hb⟩, b, ws, rfl, rfl, hb, ?_⟩
      refine ⟨kvs.length - (j2 + 1), by omega, rfl, ag3, hx3, by rw [upd_ne fun z => nbd z.symm]; exact hf2, ?_⟩
      have e : upd (upd H4 b (.lst [])) d (.dK kvs) = upd (upd H4 d (.dK kvs)) b (.lst []) := by
        funext c
        by_cases z : c = d
        · subst z; rw [upd_same, upd_ne fun z => nbd z.symm, upd_same]
        · rw [upd_ne z]
          by_cases z2 : c = b
          · subst z2; rw [upd_same, upd_same]
          · rw [upd_ne z2, upd_ne z2, upd_ne z]
      rw [e]
      exact iv2.clrL mb nb (by rw [upd_ne nbd]; exact hb)
    · have g : Grow S H S (upd H4 d (.dK kvs)) := Grow.of fun b s => ⟨s, iv2.off b fun m => (f b m).1 s⟩
      have dt2 : Den J.G.toGx0 S H4 (.tup ts) u := (dt.grow g).growW fun b s => ⟨s, by
        by_cases z : b = d
        · subst z; exact absurd s (f b md).1
        · rw [upd_ne z]⟩
      refine ⟨u, hr3, u, .ty "list", .type "tuple", .type "list", false, rfl, .ty _, tyx_of (t := "tuple") rfl dt2, kit_ty (by decide +kernel), false, rfl, ?_⟩
      refine iteF ?_
      exact ⟨kvs.length - (j2 + 1), by omega, rfl, ag3, hx3, hf2, iv2⟩
end
end Rm
namespace Rm
open PySem PySem.Spec L2
section
variable {J : Jc} {κ κ1 : List Kd} {a b : Expr} {px py pt pt2 pos : Pos} {kt k2 : Nat} {fr : M (List D)} {x y : Str} {k1 kk2 : Option Nat}
theorem sx_parO (i j : Nat) (hN : J.X.N.Nodup) (hi : J.X.N[i]? = some x) (hj : J.X.N[j]? = some y) (ha : Ao J κ [a, b] [k1, kk2] fr κ1) (hij : i ≠ j := by decide)
    (hx : J.X.env.scope.names.lookup x = some .local := by rfl) (hy : J.X.env.scope.names.lookup y = some .local := by rfl)
    (hf : i < κ1.length := by decide) (hf2 : j < κ1.length := by decide) (hhot : J.hot = false := by rfl) (hws : [i, j].all (fun i => J.kx[i]? == some Kd.un) = true := by rfl)
    (hw : swappedStores [.Tuple [.Name x px, .Name y py] kt pt] (.Tuple [a, b] k2 pt2) J.X.env = pure (some [x, y]) := by rfl)
    (hs : swapsWithSole [.Tuple [.Name x px, .Name y py] kt pt] (.Tuple [a, b] k2 pt2) pos.line J.X.env = pure false := by rfl) :
    Sx J κ (.Assign [.Tuple [.Name x px, .Name y py] kt pt] (.Tuple [a, b] k2 pt2) pos) (parM i j fr) ((κ1.set i (kdO k1)).set j (kdO kk2)) := by
  obtain ⟨t, p, q⟩ := ha.ex
  refine ⟨_, ps_par (J.calm hhot) hN hi hj hij hx hy p hw hs, fun R S H σ env D h hq => q _ _ _ _ _ _ h (hq.bind.mono fun ds e1 _ z S1 H1 vs g1 q1 q2 r1 => ?_)⟩
  match ds, vs, q1, q2, z, r1 with
  | [d1, d2], [v, w], _, _, z, r1 =>
    have r2 : Rl J.G S1 H1 κ1 e1 σ (⟨kdO k1, d1, some v⟩ :: ⟨kdO kk2, d2, some w⟩ :: R) := r1
    have e1' : κ1[i]? = some (κ1[i]'hf) := List.getElem?_eq_getElem _
    have e2' : e1[i]? = some (e1[i]'(by rw [r2.l2, ← r2.l1]; exact hf)) := List.getElem?_eq_getElem _
    have r3 := r2.store e1' e2'
    have f1' : (κ1.set i (kdO k1))[j]? = some (κ1[j]'hf2) := by rw [List.getElem?_set_ne hij]; exact List.getElem?_eq_getElem _
    have hl : j < e1.length := by rw [r2.l2, ← r2.l1]; exact hf2
    have f2' : (e1.set i d1)[j]? = some (e1[j]'hl) := by rw [List.getElem?_set_ne hij]; exact List.getElem?_eq_getElem _
    have r4 := r3.store f1' f2'
    refine ⟨v, w, rfl, z S1 H1 _ g1 ?_ r4⟩
    refine Agr.fix (ws := [i, j]) ⟨by simp, fun k ek => ?_⟩ hws
    simp at ek
    rw [List.getElem?_set_ne (fun q => ek.2 q.symm), List.getElem?_set_ne (fun q => ek.1 q.symm)]
  | [], _, q1, _, _, _ => simp at q1
  | [_], _, q1, _, _, _ => simp at q1
  | _ :: _ :: _ :: _, _, q1, _, _, _ => simp at q1
  | [_, _], [], _, q2, _, _ => simp at q2
  | [_, _], [_], _, q2, _, _ => simp at q2
  | [_, _], _ :: _ :: _ :: _, _, q2, _, _ => simp at q2
end
def noXM (f : M D) : M D := fun e => (f e).noX
theorem ex_noX {J : Jc} {κ κ' : List Kd} {e : Expr} {k : Kd} {f : M D} (κ0 : List Kd) (h : Ex (J.keep κ0) κ e k f κ') : Ex J κ e k (noXM f) κ' := by
  obtain ⟨t, p, q⟩ := h.ex
  refine ⟨t, p, fun R S H σ env Q hr hq => q R S H σ env Q hr ?_⟩
  unfold noXM at hq
  cases eo : f env with
  | stuck => rw [eo] at hq; exact hq
  | ex c fs e1 => rw [eo] at hq; exact hq.elim
  | ok d e1 => rw [eo] at hq; exact hq
end Rm
namespace RP
open PySem PySem.Spec L2 Rm
noncomputable section
def b_l_handed_k16 (clt : ClT) : M Fl :=
 sCons (sAsg (primM (ro (nl gKeys)) [.sh] (aCons (vr 1) (aNil))) (tName 2))
 (sCons (ifM (asB (primM (ro gEq) [.sh, .sh] (aCons (callM (F_l_take_k54 clt) [.io 0 0, .sh] (aCons (vr 0) (aCons (cn (.int 2)) (aNil)))) (aCons (cn (.int 0)) (aNil)))))
 (sCons (sExp (methM "list" (wrG gRev) (.io 2 0) [] (vr 2) aNil))
 (sNil))
 (sNil))
 (sCons (sAsg (cn (.dK [])) (tName 3))
 (sCons (forM' (seqM (vr 2)) (tName 4)
 (sCons (setDO 3 (fun (env : List D) => env[4]?) (pickM (lstM (aCons (primM (ro (nl gList)) [.sh] (aCons (primM (ro Rm.gSub) [.sh, .sh] (aCons (vr 1) (aCons (vr 4) (aNil)))) (aNil))) (aCons (lfOM (primM (ro gTuple) [.sh] (aCons (primM (ro Rm.gSub) [.sh, .sh] (aCons (vr 1) (aCons (vr 4) (aNil)))) (aNil)))) aNil))) (callM (F_l_take_k54 clt) [.io 0 0, .sh] (aCons (vr 0) (aCons (cn (.int 2)) (aNil))))))
 (sNil)))
 (sCons (sRet (vr 3))
 (sNil)))))
def F_l_handed_k16 (clt : ClT) : List D → Out D := runF 2 3 (b_l_handed_k16 clt)
def b_Marks_d_initd__k16 (clt : ClT) : M Fl :=
 sCons (fldNM 0 [20] ("called" : Str) (primM (ro (nl gKeys)) [.sh] (aCons (noXM (callM (F_good_names clt) [.sh] (aCons (vr 1) (aNil)))) (aNil))))
 (sCons (sExp (noXM (callM (F_need_lists clt) [.sh, .sh] (aCons (vr 1) (aCons (vr 2) (aNil))))))
 (sCons (sExp (noXM (callM (F_need_lists clt) [.sh, .sh] (aCons (vr 1) (aCons (vr 3) (aNil))))))
 (sCons (fldNM 0 [20] ("sides" : Str) (dispM (pCons (cn (.str ("ahead" : Str))) (cn (.dK [])) (pCons (cn (.str ("behind" : Str))) (cn (.dK [])) (pNil)))))
 (sCons (forM' (seqM (vr 1)) (tName 4)
 (sCons (putPM 0 20 ("sides" : Str) [some 0, some 1] (pkM (fun (_ : List D) => some ([] : List Key)) (fun (_ : List D) => some (D.str ("ahead" : Str)))) (fun (env : List D) => env[4]?) (primM (ro gTuple) [.sh] (aCons (primM (ro Rm.gSub) [.sh, .sh] (aCons (vr 2) (aCons (vr 4) (aNil)))) (aNil))))
 (sCons (putPM 0 20 ("sides" : Str) [some 0, some 1] (pkM (fun (_ : List D) => some ([] : List Key)) (fun (_ : List D) => some (D.str ("behind" : Str)))) (fun (env : List D) => env[4]?) (primM (ro gTuple) [.sh] (aCons (primM (ro Rm.gSub) [.sh, .sh] (aCons (vr 3) (aCons (vr 4) (aNil)))) (aNil))))
 (sNil))))
 (sNil)))))
def F_Marks_d_initd__k16 (clt : ClT) : List D → Out D := runF 4 1 (b_Marks_d_initd__k16 clt)
def b_l_scene (clt : ClT) : M Fl :=
 sCons (sAsg (callM (F_l_box clt) [.sh] (aCons (vr 0) (aNil))) (tName 1))
 (sCons (sAsg (callM (F_l_names clt) [.io 1 0, .sh] (aConsL 1 (aCons (callM (F_l_take_k54 clt) [.io 1 0, .sh] (aCons (vr 1) (aCons (cn (.int 13)) (aNil)))) (aNil)))) (tName 2))
 (sCons (parM 3 4 (aCons (callM (F_l_lists clt) [.io 1 0, .sh] (aCons (vr 1) (aCons (vr 2) (aNil)))) (aCons (callM (F_l_lists clt) [.io 1 0, .sh] (aCons (vr 1) (aCons (vr 2) (aNil)))) (aNil))))
 (sCons (sAsg (lstM (aCons (callM (F_l_handed_k16 clt) [.io 1 0, .sh] (aCons (vr 1) (aCons (vr 3) (aNil)))) (aCons (callM (F_l_handed_k16 clt) [.io 1 0, .sh] (aCons (vr 1) (aCons (vr 4) (aNil)))) (aNil)))) (tName 5))
 (sCons (sAsg (pickM (lstM (aCons (primM (ro (nl gList)) [.sh] (aCons (vr 2) (aNil))) (aCons (lfOM (primM (ro gTuple) [.sh] (aCons (vr 2) (aNil)))) aNil))) (callM (F_l_take_k54 clt) [.io 1 0, .sh] (aCons (vr 1) (aCons (cn (.int 2)) (aNil))))) (tName 6))
 (sCons (viewB [.un, .un, .un, .un, .un, .un, .un, .ow (.ob [some 0, some 1]), .un, .un] [7] (vCons (sAsg (makeM 20 (F_Marks_d_initd__k16 clt) [.sh, .sh, .sh] (aCons (vr 6) (aCons (primM (ro Rm.gSub) [.sh, .sh] (aCons (vr 5) (aCons (cn (.int 0)) (aNil)))) (aCons (primM (ro Rm.gSub) [.sh, .sh] (aCons (vr 5) (aCons (cn (.int 1)) (aNil)))) (aNil))))) (tName 7))
 (some)))
 (sCons (ifM (asB (primM (ro (gIsi2 clt)) [.io 6 0, .sh] (aCons (vr 6) (aCons (cn (.ty "list")) (aNil)))))
 (sCons (sExp (methM "list" gApp (.io 6 0) [.sh] (vr 6) (aCons (cn (.str ("zz" : Str))) aNil)))
 (sNil))
 (sNil))
 (sCons (emptyM 5)
 (sCons (sRet (lstM (aCons (vr 7) (aCons (vr 2) (aCons (vr 3) (aCons (vr 4) (aCons (callM (F_l_take_k54 clt) [.io 1 0, .sh] (aCons (vr 1) (aCons (cn (.int 2)) (aNil)))) (aNil))))))))
 (sNil)))))))))
def F_l_scene (clt : ClT) : List D → Out D := runF 1 9 (b_l_scene clt)
def b_l_met_right (clt : ClT) : M Fl :=
 sCons (forM' (seqM (vr 1)) (tName 4)
 (sCons (forM' (seqM (vr 1)) (tName 5)
 (sCons (sAsg (lcM (seqM (vr 1)) [9] (tName 9) (andB (asB (primM (ro gIn2) [.sh, .sh] (aCons (vr 9) (aCons (primM (ro Rm.gSub) [.sh, .sh] (aCons (vr 2) (aCons (vr 4) (aNil)))) (aNil))))) (asB (primM (ro gIn2) [.sh, .sh] (aCons (vr 9) (aCons (primM (ro Rm.gSub) [.sh, .sh] (aCons (vr 3) (aCons (vr 5) (aNil)))) (aNil)))))) (vr 9)) (tName 6))
 (sCons (sAsg (methC 20 ("meeting" : Str) (F_Marks_meeting clt) [.sh, .sh] (vr 0) (aCons (vr 4) (aCons (vr 5) (aNil)))) (tName 7))
 (sCons (sAsg (methC 20 ("tells" : Str) (F_Marks_tells clt) [.sh, .sh] (vr 0) (aCons (vr 4) (aCons (vr 5) (aNil)))) (tName 8))
 (sCons (ifM (orB (notB (asB (primM (ro (gIsi2 clt)) [.io 7 0, .sh] (aCons (vr 7) (aCons (cn (.ty "list")) (aNil)))))) (orB (asB (primM (ro gNe) [.io 7 0, .io 6 0] (aCons (vr 7) (aCons (vr 6) (aNil))))) (orB (notB (asB (primM (ro (gIsi2 clt)) [.sh, .sh] (aCons (vr 8) (aCons (cn (.ty "bool")) (aNil)))))) (asB (primM (ro gNe) [.sh, .sh] (aCons (vr 8) (aCons (primM (ro gNe) [.io 6 0, .sh] (aCons (vr 6) (aCons (lstM (aNil)) (aNil)))) (aNil))))))))
 (sCons (sRet (cn (.bl false)))
 (sNil))
 (sNil))
 (sCons (sExp (methM "list" gApp (.io 7 0) [.sh] (vr 7) (aCons (vr 4) aNil)))
 (sCons (ifM (asB (primM (ro gNe) [.sh, .io 6 0] (aCons (methC 20 ("meeting" : Str) (F_Marks_meeting clt) [.sh, .sh] (vr 0) (aCons (vr 4) (aCons (vr 5) (aNil)))) (aCons (vr 6) (aNil)))))
 (sCons (sRet (cn (.bl false)))
 (sNil))
 (sNil))
 (sNil))))))))
 (sNil)))
 (sCons (sRet (cn (.bl true)))
 (sNil))
def F_l_met_right (clt : ClT) : List D → Out D := runF 4 6 (b_l_met_right clt)
def b_l_lists_right_k16 (clt : ClT) : M Fl :=
 sCons (sAsg (primM (ro gSum) [.sh] (aCons (lcM (seqM (vr 1)) [6] (tName 6) (yes) (primM (ro gAdd) [.sh, .sh] (aCons (primM (ro gLen2) [.sh] (aCons (primM (ro Rm.gSub) [.sh, .sh] (aCons (vr 2) (aCons (vr 6) (aNil)))) (aNil))) (aCons (primM (ro gLen2) [.sh] (aCons (primM (ro Rm.gSub) [.sh, .sh] (aCons (vr 3) (aCons (vr 6) (aNil)))) (aNil))) (aNil))))) (aNil))) (tName 4))
 (sCons (ifM (orB (asB (primM (ro gNe) [.sh, .sh] (aCons (methC 20 ("names" : Str) (F_Marks_names clt) [] (vr 0) aNil) (aCons (vr 1) (aNil))))) (asB (primM (ro gNe) [.sh, .sh] (aCons (methC 20 ("total" : Str) (F_Marks_total clt) [] (vr 0) aNil) (aCons (vr 4) (aNil))))))
 (sCons (sRet (cn (.bl false)))
 (sNil))
 (sNil))
 (sCons (sAsg (primM (ro gTuple) [.sh] (aCons (lcM (seqM (vr 1)) [6] (tName 6) (yes) (tupM (aCons (vr 6) (aCons (primM (ro gTuple) [.sh] (aCons (primM (ro Rm.gSub) [.sh, .sh] (aCons (vr 2) (aCons (vr 6) (aNil)))) (aNil))) (aCons (primM (ro gTuple) [.sh] (aCons (primM (ro Rm.gSub) [.sh, .sh] (aCons (vr 3) (aCons (vr 6) (aNil)))) (aNil))) (aNil)))))) (aNil))) (tName 5))
 (sCons (ifM (orB (asB (primM (ro gNe) [.sh, .sh] (aCons (methC 20 ("told" : Str) (F_Marks_told clt) [] (vr 0) aNil) (aCons (vr 5) (aNil))))) (asB (primM (ro (gIsi2 clt)) [.sh, .sh] (aCons (methC 20 ("total" : Str) (F_Marks_total clt) [] (vr 0) aNil) (aCons (cn (.ty "bool")) (aNil))))))
 (sCons (sRet (cn (.bl false)))
 (sNil))
 (sNil))
 (sCons (sExp (tmpM "list" (wrG gClear) [] (methC 20 ("names" : Str) (F_Marks_names clt) [] (vr 0) aNil) aNil))
 (sCons (forM' (seqM (vr 1)) (tName 6)
 (sCons (forM' (rng1M (aCons (cn (.int 2)) (aNil))) (tName 7)
 (sCons (parM 8 9 (aCons (methC 20 ("ahead" : Str) (F_Marks_ahead clt) [.sh] (vr 0) (aCons (vr 6) (aNil))) (aCons (methC 20 ("behind" : Str) (F_Marks_behind clt) [.sh] (vr 0) (aCons (vr 6) (aNil))) (aNil))))
 (sCons (ifM (orB (notB (asB (primM (ro (gIsi2 clt)) [.io 8 0, .sh] (aCons (vr 8) (aCons (cn (.ty "list")) (aNil)))))) (notB (asB (primM (ro (gIsi2 clt)) [.io 9 0, .sh] (aCons (vr 9) (aCons (cn (.ty "list")) (aNil)))))))
 (sCons (sRet (cn (.bl false)))
 (sNil))
 (sNil))
 (sCons (ifM (orB (asB (primM (ro gNe) [.io 8 0, .sh] (aCons (vr 8) (aCons (primM (ro Rm.gSub) [.sh, .sh] (aCons (vr 2) (aCons (vr 6) (aNil)))) (aNil))))) (asB (primM (ro gNe) [.io 9 0, .sh] (aCons (vr 9) (aCons (primM (ro Rm.gSub) [.sh, .sh] (aCons (vr 3) (aCons (vr 6) (aNil)))) (aNil))))))
 (sCons (sRet (cn (.bl false)))
 (sNil))
 (sNil))
 (sCons (sExp (methM "list" (wrG gClear) (.io 8 0) [] (vr 8) aNil))
 (sCons (sExp (methM "list" gApp (.io 9 0) [.sh] (vr 9) (aCons (vr 6) aNil)))
 (sNil)))))))
 (sNil)))
 (sCons (sRet (primM (ro gEq) [.sh, .sh] (aCons (methC 20 ("names" : Str) (F_Marks_names clt) [] (vr 0) aNil) (aCons (vr 1) (aNil)))))
 (sNil)))))))
def F_l_lists_right_k16 (clt : ClT) : List D → Out D := runF 4 6 (b_l_lists_right_k16 clt)
def b_law_k16 (clt : ClT) : M Fl :=
 sCons (sAsg (lcM (rng1M (aCons (primM (ro gMax) [.sh, .sh] (aCons (cn (.int 2)) (aCons (primM (ro gMin) [.sh, .sh] (aCons (cn (.int 4)) (aCons (primM (ro gLen2) [.sh] (aCons (vr 0) (aNil))) (aNil)))) (aNil)))) (aNil))) [7] (tName 7) (yes) (callM (F_l_scene clt) [.sh] (aCons (callM (F_l_cell clt) [.sh, .sh] (aCons (vr 0) (aCons (vr 7) (aNil)))) (aNil)))) (tName 1))
 (sCons (forM' (seqM (primM (ro (nl gCat)) [.sh, .sh] (aCons (vr 1) (aCons (stM (vr 1) (primM (ro gNeg) [.sh] (aCons (cn (.int 1)) (aNil)))) (aNil))))) (tNL 5 (tsCons (tName 2) (tsCons (tName 3) (tsCons (tName 4) (tsCons (tName 5) (tsCons (tName 6) (tsNil)))))))
 (sCons (ifM (andB (asB (primM (ro gEq) [.sh, .sh] (aCons (vr 6) (aCons (cn (.int 0)) (aNil))))) (notB (asB (callM (F_l_met_right clt) [.sh, .sh, .sh, .sh] (aCons (vr 2) (aCons (vr 3) (aCons (vr 4) (aCons (vr 5) (aNil)))))))))
 (sCons (sRet (cn (.bl false)))
 (sNil))
 (sNil))
 (sCons (ifM (notB (asB (callM (F_l_lists_right_k16 clt) [.sh, .sh, .sh, .sh] (aCons (vr 2) (aCons (vr 3) (aCons (vr 4) (aCons (vr 5) (aNil))))))))
 (sCons (sRet (cn (.bl false)))
 (sNil))
 (sNil))
 (sCons (ifM (andB (asB (primM (ro gEq) [.sh, .sh] (aCons (vr 6) (aCons (cn (.int 1)) (aNil))))) (notB (asB (callM (F_l_met_right clt) [.sh, .sh, .sh, .sh] (aCons (vr 2) (aCons (vr 3) (aCons (vr 4) (aCons (vr 5) (aNil)))))))))
 (sCons (sRet (cn (.bl false)))
 (sNil))
 (sNil))
 (sNil)))))
 (sCons (sRet (cn (.bl true)))
 (sNil)))
def F_law_k16 (clt : ClT) : List D → Out D := runF 1 7 (b_law_k16 clt)
end
end RP
namespace K16
open PySem PySem.Spec L2 Rm RP
def clt : ClT := [(20, [20])]
end K16
namespace K16
open PySem PySem.Spec L2 Rm RP
def top (i : Nat) : Stmt := PySem.Challenge.pw_reachmarks_k16_markings_told.main.body.getD i (.Pass ⟨0, 0, 0, 0⟩)
abbrev s_l_box : Stmt := top 23
abbrev s_l_take : Stmt := top 24
abbrev s_l_names : Stmt := top 25
abbrev s_l_some : Stmt := top 26
abbrev s_l_lists : Stmt := top 27
abbrev s_l_handed : Stmt := top 28
abbrev s_is_listed : Stmt := top 14
abbrev s_is_name : Stmt := top 11
abbrev s_need_fresh : Stmt := top 15
abbrev s_good_names : Stmt := top 16
abbrev s_are_marks : Stmt := top 18
abbrev s_need_lists : Stmt := top 19
abbrev s_Marks_d_initd_ : Stmt := inClass (top 20) 0
abbrev s_l_scene : Stmt := top 31
abbrev s_l_cell : Stmt := top 22
abbrev s_Marks_need_name : Stmt := inClass (top 20) 1
abbrev s_Marks_meeting : Stmt := inClass (top 20) 7
abbrev s_Marks_tells : Stmt := inClass (top 20) 8
abbrev s_l_met_right : Stmt := top 30
abbrev s_Marks_names : Stmt := inClass (top 20) 2
abbrev s_Marks_told : Stmt := inClass (top 20) 6
abbrev s_Marks_total : Stmt := inClass (top 20) 5
abbrev s_Marks_ahead : Stmt := inClass (top 20) 3
abbrev s_Marks_behind : Stmt := inClass (top 20) 4
abbrev s_l_lists_right : Stmt := top 29
abbrev s_law : Stmt := top 32
abbrev s_x_NoMarks : Stmt := inClass (top 6) 0
abbrev s_x_NoName : Stmt := inClass (top 3) 0
abbrev s_x_NoPlace : Stmt := inClass (top 4) 0
abbrev s_x_TooMany : Stmt := inClass (top 7) 0
abbrev s_x_Twice : Stmt := inClass (top 5) 0
end K16
namespace K16
open PySem PySem.Spec L2 Rm RP
theorem sc_x_NoMarks : FnScope [("self" : Str), ("found" : Str)] [("self" : Str), ("found" : Str)] (defScope s_x_NoMarks) := ⟨rfl, rfl, rfl, by decide +kernel, rfl, by decide +kernel, by decide +kernel⟩
def dd_x_NoMarks : He.DefD := ⟨(("NoMarks" : Str), some "__init__"), "__init__", ("NoMarks.__init__" : Str), defArgs s_x_NoMarks, defBody s_x_NoMarks, defScope s_x_NoMarks, [], []⟩
theorem sc_x_NoName : FnScope [("self" : Str), ("found" : Str)] [("self" : Str), ("found" : Str)] (defScope s_x_NoName) := ⟨rfl, rfl, rfl, by decide +kernel, rfl, by decide +kernel, by decide +kernel⟩
def dd_x_NoName : He.DefD := ⟨(("NoName" : Str), some "__init__"), "__init__", ("NoName.__init__" : Str), defArgs s_x_NoName, defBody s_x_NoName, defScope s_x_NoName, [], []⟩
theorem sc_x_NoPlace : FnScope [("self" : Str), ("found" : Str)] [("self" : Str), ("found" : Str)] (defScope s_x_NoPlace) := ⟨rfl, rfl, rfl, by decide +kernel, rfl, by decide +kernel, by decide +kernel⟩
def dd_x_NoPlace : He.DefD := ⟨(("NoPlace" : Str), some "__init__"), "__init__", ("NoPlace.__init__" : Str), defArgs s_x_NoPlace, defBody s_x_NoPlace, defScope s_x_NoPlace, [], []⟩
theorem sc_x_TooMany : FnScope [("self" : Str), ("many" : Str)] [("self" : Str), ("many" : Str)] (defScope s_x_TooMany) := ⟨rfl, rfl, rfl, by decide +kernel, rfl, by decide +kernel, by decide +kernel⟩
def dd_x_TooMany : He.DefD := ⟨(("TooMany" : Str), some "__init__"), "__init__", ("TooMany.__init__" : Str), defArgs s_x_TooMany, defBody s_x_TooMany, defScope s_x_TooMany, [], []⟩
theorem sc_x_Twice : FnScope [("self" : Str), ("found" : Str)] [("self" : Str), ("found" : Str)] (defScope s_x_Twice) := ⟨rfl, rfl, rfl, by decide +kernel, rfl, by decide +kernel, by decide +kernel⟩
def dd_x_Twice : He.DefD := ⟨(("Twice" : Str), some "__init__"), "__init__", ("Twice.__init__" : Str), defArgs s_x_Twice, defBody s_x_Twice, defScope s_x_Twice, [], []⟩
def dd_l_box : He.DefD := ⟨(("_law_box" : Str), none), ("_law_box" : Str), ("_law_box" : Str), defArgs s_l_box, defBody s_l_box, defScope s_l_box, [], []⟩
def dd_l_take : He.DefD := ⟨(("_law_take" : Str), none), ("_law_take" : Str), ("_law_take" : Str), defArgs s_l_take, defBody s_l_take, defScope s_l_take, [], []⟩
def dd_l_names : He.DefD := ⟨(("_law_names" : Str), none), ("_law_names" : Str), ("_law_names" : Str), defArgs s_l_names, defBody s_l_names, defScope s_l_names, [], []⟩
def dd_l_some : He.DefD := ⟨(("_law_some" : Str), none), ("_law_some" : Str), ("_law_some" : Str), defArgs s_l_some, defBody s_l_some, defScope s_l_some, [], []⟩
def dd_l_lists : He.DefD := ⟨(("_law_lists" : Str), none), ("_law_lists" : Str), ("_law_lists" : Str), defArgs s_l_lists, defBody s_l_lists, defScope s_l_lists, [], []⟩
def dd_l_handed : He.DefD := ⟨(("_law_handed" : Str), none), ("_law_handed" : Str), ("_law_handed" : Str), defArgs s_l_handed, defBody s_l_handed, defScope s_l_handed, [], []⟩
def dd_is_listed : He.DefD := ⟨(("is_listed" : Str), none), ("is_listed" : Str), ("is_listed" : Str), defArgs s_is_listed, defBody s_is_listed, defScope s_is_listed, [], []⟩
def dd_is_name : He.DefD := ⟨(("is_name" : Str), none), ("is_name" : Str), ("is_name" : Str), defArgs s_is_name, defBody s_is_name, defScope s_is_name, [], []⟩
def dd_need_fresh : He.DefD := ⟨(("need_fresh" : Str), none), ("need_fresh" : Str), ("need_fresh" : Str), defArgs s_need_fresh, defBody s_need_fresh, defScope s_need_fresh, [], []⟩
def dd_good_names : He.DefD := ⟨(("good_names" : Str), none), ("good_names" : Str), ("good_names" : Str), defArgs s_good_names, defBody s_good_names, defScope s_good_names, [], []⟩
def dd_are_marks : He.DefD := ⟨(("are_marks" : Str), none), ("are_marks" : Str), ("are_marks" : Str), defArgs s_are_marks, defBody s_are_marks, defScope s_are_marks, [], []⟩
def dd_need_lists : He.DefD := ⟨(("need_lists" : Str), none), ("need_lists" : Str), ("need_lists" : Str), defArgs s_need_lists, defBody s_need_lists, defScope s_need_lists, [], []⟩
def dd_Marks_d_initd_ : He.DefD := ⟨(("Marks" : Str), some ("__init__" : Str)), ("__init__" : Str), ("Marks.__init__" : Str), defArgs s_Marks_d_initd_, defBody s_Marks_d_initd_, defScope s_Marks_d_initd_, [], []⟩
def dd_l_scene : He.DefD := ⟨(("_law_scene" : Str), none), ("_law_scene" : Str), ("_law_scene" : Str), defArgs s_l_scene, defBody s_l_scene, defScope s_l_scene, [], []⟩
def dd_l_cell : He.DefD := ⟨(("_law_cell" : Str), none), ("_law_cell" : Str), ("_law_cell" : Str), defArgs s_l_cell, defBody s_l_cell, defScope s_l_cell, [], []⟩
def dd_Marks_need_name : He.DefD := ⟨(("Marks" : Str), some ("need_name" : Str)), ("need_name" : Str), ("Marks.need_name" : Str), defArgs s_Marks_need_name, defBody s_Marks_need_name, defScope s_Marks_need_name, [], []⟩
def dd_Marks_meeting : He.DefD := ⟨(("Marks" : Str), some ("meeting" : Str)), ("meeting" : Str), ("Marks.meeting" : Str), defArgs s_Marks_meeting, defBody s_Marks_meeting, defScope s_Marks_meeting, [], []⟩
def dd_Marks_tells : He.DefD := ⟨(("Marks" : Str), some ("tells" : Str)), ("tells" : Str), ("Marks.tells" : Str), defArgs s_Marks_tells, defBody s_Marks_tells, defScope s_Marks_tells, [], []⟩
def dd_l_met_right : He.DefD := ⟨(("_law_met_right" : Str), none), ("_law_met_right" : Str), ("_law_met_right" : Str), defArgs s_l_met_right, defBody s_l_met_right, defScope s_l_met_right, [], []⟩
def dd_Marks_names : He.DefD := ⟨(("Marks" : Str), some ("names" : Str)), ("names" : Str), ("Marks.names" : Str), defArgs s_Marks_names, defBody s_Marks_names, defScope s_Marks_names, [], []⟩
def dd_Marks_told : He.DefD := ⟨(("Marks" : Str), some ("told" : Str)), ("told" : Str), ("Marks.told" : Str), defArgs s_Marks_told, defBody s_Marks_told, defScope s_Marks_told, [], []⟩
def dd_Marks_total : He.DefD := ⟨(("Marks" : Str), some ("total" : Str)), ("total" : Str), ("Marks.total" : Str), defArgs s_Marks_total, defBody s_Marks_total, defScope s_Marks_total, [], []⟩
def dd_Marks_ahead : He.DefD := ⟨(("Marks" : Str), some ("ahead" : Str)), ("ahead" : Str), ("Marks.ahead" : Str), defArgs s_Marks_ahead, defBody s_Marks_ahead, defScope s_Marks_ahead, [], []⟩
def dd_Marks_behind : He.DefD := ⟨(("Marks" : Str), some ("behind" : Str)), ("behind" : Str), ("Marks.behind" : Str), defArgs s_Marks_behind, defBody s_Marks_behind, defScope s_Marks_behind, [], []⟩
def dd_l_lists_right : He.DefD := ⟨(("_law_lists_right" : Str), none), ("_law_lists_right" : Str), ("_law_lists_right" : Str), defArgs s_l_lists_right, defBody s_l_lists_right, defScope s_l_lists_right, [], []⟩
def dd_law : He.DefD := ⟨(("law" : Str), none), ("law" : Str), ("law" : Str), defArgs s_law, defBody s_law, defScope s_law, [], []⟩
def dfs : List He.DefD := [dd_l_box, dd_l_take, dd_l_names, dd_l_some, dd_l_lists, dd_l_handed, dd_is_listed, dd_is_name, dd_need_fresh, dd_good_names, dd_are_marks, dd_need_lists, dd_Marks_d_initd_, dd_l_scene, dd_l_cell, dd_Marks_need_name, dd_Marks_meeting, dd_Marks_tells, dd_l_met_right, dd_Marks_names, dd_Marks_told, dd_Marks_total, dd_Marks_ahead, dd_Marks_behind, dd_l_lists_right, dd_law, dd_x_NoMarks, dd_x_NoName, dd_x_NoPlace, dd_x_TooMany] ++ [dd_x_Twice]
def fcs : List He.Fa := [.free ("bool" : Str), .free ("dict" : Str), .free ("int" : Str), .free ("isinstance" : Str), .free ("len" : Str), .free ("list" : Str), .free ("max" : Str), .free ("min" : Str), .free ("range" : Str), .free ("str" : Str), .free ("sum" : Str), .free ("tuple" : Str), .str ("LETTERS" : Str) ("abcdefghijklmnopqrstuvwxyz" : Str), .int ("LONGEST" : Str) 6, .int ("MOST_PLACES" : Str) 12, .glo "ReachError", .glo ("NoMarks" : Str), .glo ("NoName" : Str), .glo ("NoPlace" : Str), .glo ("TooMany" : Str), .glo ("Twice" : Str), .cls ("Marks" : Str), .noat ("Marks" : Str) ("called" : Str), .noat ("Marks" : Str) ("sides" : Str), .glo ("_law_box" : Str), .glo ("_law_take" : Str), .glo ("_law_names" : Str), .glo ("_law_some" : Str), .glo ("_law_lists" : Str), .glo ("_law_handed" : Str)] ++ [.glo ("is_listed" : Str), .glo ("is_name" : Str), .glo ("need_fresh" : Str), .glo ("good_names" : Str), .glo ("are_marks" : Str), .glo ("need_lists" : Str), .mkr ("Marks" : Str), .glo ("Marks" : Str), .glo ("_law_scene" : Str), .glo ("_law_cell" : Str), .meth ("Marks" : Str) ("need_name" : Str), .meth ("Marks" : Str) ("meeting" : Str), .meth ("Marks" : Str) ("tells" : Str), .glo ("_law_met_right" : Str), .meth ("Marks" : Str) ("names" : Str), .meth ("Marks" : Str) ("told" : Str), .meth ("Marks" : Str) ("total" : Str), .meth ("Marks" : Str) ("ahead" : Str), .meth ("Marks" : Str) ("behind" : Str), .glo ("_law_lists_right" : Str), .glo ("law" : Str)]
def cns : List Str := [("ReachError" : Str), ("NoName" : Str), ("NoPlace" : Str), ("NoTie" : Str), ("Twice" : Str), ("NoWeb" : Str), ("NoMarks" : Str), ("NoMark" : Str), ("NoSide" : Str), ("NoRule" : Str), ("NoOrder" : Str), ("NoChains" : Str), ("NoText" : Str), ("NoLine" : Str), ("TooMany" : Str), ("HasRing" : Str), ("NoTree" : Str), ("NotRight" : Str), ("NoBack" : Str), ("Web" : Str), ("Marks" : Str), ("Rule" : Str), ("Given" : Str), ("ByNumber" : Str), ("ByTies" : Str), ("ByReach" : Str), ("Backward" : Str), ("Drawn" : Str), ("Chained" : Str), ("OverRounds" : Str)] ++ [("Kept" : Str), ("House" : Str), ("Desk" : Str), ("shows" : Str), ("untrue" : Str), ("unmet" : Str), ("is_right" : Str), ("_law_is_name" : Str), ("_law_cell" : Str)]
def clN (K : PySem.W.Frag) : Nat → Addr := fun c => He.ga K (cns.getD c (Str.ofString ""))
def exB (K : PySem.W.Frag) : Bool := (isfB (clN K) clt K && (exbB K (clN K 0) && (excB K (clN K 6) (He.fAd K (("NoMarks" : Str), some "__init__")) [("found" : Str)] && (excB K (clN K 1) (He.fAd K (("NoName" : Str), some "__init__")) [("found" : Str)] && (excB K (clN K 2) (He.fAd K (("NoPlace" : Str), some "__init__")) [("found" : Str)] && (excB K (clN K 14) (He.fAd K (("TooMany" : Str), some "__init__")) [("many" : Str)] && (excB K (clN K 4) (He.fAd K (("Twice" : Str), some "__init__")) [("found" : Str)])))))))
abbrev R : PySem.W.OpenRow := PySem.W.OpenLaw.row PySem.Challenge.rw_reachmarks_k16_markings_told
abbrev hk : PySem.W.Hook := hookR 6 [cStatics, sysModules] fcs dfs exB
def ob (s : PySem.W.SharedT) : AlR := obsR 6 [cStatics, sysModules] fcs dfs exB (HandSHeadRun.getT s)
theorem ob_eq (s : PySem.W.SharedT) : ob s = hk.obs s.abs := obsR_eq (HandSHeadRun.getT_eq s)
def lse : List Str := [("_wall" : Str), ("ReachError" : Str), ("NoName" : Str), ("NoPlace" : Str), ("Twice" : Str), ("NoMarks" : Str), ("TooMany" : Str), ("is_name" : Str), ("is_listed" : Str), ("need_fresh" : Str), ("good_names" : Str), ("are_marks" : Str), ("need_lists" : Str), ("Marks" : Str), ("_law_cell" : Str), ("_law_box" : Str), ("_law_take" : Str), ("_law_names" : Str), ("_law_some" : Str), ("_law_lists" : Str), ("_law_handed" : Str), ("_law_lists_right" : Str), ("_law_met_right" : Str), ("_law_scene" : Str), ("LETTERS" : Str), ("LONGEST" : Str), ("MOST_PLACES" : Str)]
theorem run (w : World) : HandSHeadRun.RunEq R (PySem.W.view R.prog [32]) hk ob 9000 lse w := by
  intro os
  kernel_rfl
end K16
namespace Rm
open PySem PySem.Spec L2
abbrev KX := Nat → List (Str × D) → List D → Prop
@[irreducible] def Wp {α : Type} (o : Out α) (K : α → List D → Prop) (X : KX) : Prop := match o with
  | .ok a e => K a e
  | .ex c fs e => X c fs e
  | .stuck => False
theorem Wp.bind {α β} (o : Out α) (f : α → List D → Out β) (K X) : Wp (o.bind f) K X = Wp o (fun a e => Wp (f a e) K X) X := by with_unfolding_all cases o <;> rfl
theorem Wp.mono {α} {o : Out α} {K K' : α → List D → Prop} {X X' : KX} (h : Wp o K X) (f : ∀ a e, K a e → K' a e) (g : ∀ c fs e, X c fs e → X' c fs e) : Wp o K' X' := by
  with_unfolding_all
    cases o with
    | ok a e => exact f a e h
    | ex c fs e => exact g c fs e h
    | stuck => exact h
def nxK (g : M Fl) (K : Fl → List D → Prop) (X : KX) (fl : Fl) (e : List D) : Prop := match fl with
  | .nx => Wp (g e) K X
  | fl => K fl e
def bK (K : Bool → List D → Prop) (d : D) (e : List D) : Prop := match d with | .bl b => K b e | _ => False
/-- o gives one, P of it -/
def oK {α : Type} (o : Option α) (P : α → Prop) : Prop := match o with | some d => P d | none => False
def pK (g : List D → Option (D × List D)) (as : List Ak) (K : D → List D → Prop) (ds : List D) (e : List D) : Prop := oK (g ds) fun p => K p.1 (backE as p.2 e)
def getK (x : Option D) (K : D → Prop) : Prop := match x with | some d => K d | none => False
def setK (i : Nat) (K : Fl → List D → Prop) (l k d : D) (e : List D) : Prop := match gSetI [l, k, d] with
  | some (_, l' :: _) => K .nx (e.set i l')
  | _ => False
def listK (K : List D → List D → Prop) (d : D) (e : List D) : Prop := match d with | .lst ds => K ds e | .rol ds => K ds e | .tup ds => K ds e | _ => False
def intK (K : Option Int → List D → Prop) (d : D) (e : List D) : Prop := match d with | .int i => K (some i) e | _ => False
def chK (g h : List D → Option D) (fc : M D) (K : D → List D → Prop) (X : KX) (x y : D) (e : List D) : Prop := match g [x, y] with
  | some (.bl b) => if b = true then Wp (fc e) (fun w e => oK (h [y, w]) fun d => K d e) X else K (.bl false) e
  | _ => False
theorem wpS :
    (∀ {α : Type} (a : α) (e K X), Wp (Out.ok a e) K X = K a e) ∧
    (∀ (f g : M Fl) (e K X), Wp (sCons f g e) K X = Wp (f e) (nxK g K X) X) ∧
    (∀ (g : M Fl) (K X e), nxK g K X .nx e = Wp (g e) K X) ∧
    (∀ (g : M Fl) (K X d e), nxK g K X (.rt d) e = K (.rt d) e) ∧
    (∀ (g : M Fl) (K X e), nxK g K X .bk e = K .bk e) ∧
    (∀ (g : M Fl) (K X e), nxK g K X .ct e = K .ct e) ∧
    (∀ (e K X), Wp (sNil e) K X = K .nx e) ∧
    (∀ (e K X), Wp (sBrk e) K X = K .bk e) ∧
    (∀ (e K X), Wp (sCnt e) K X = K .ct e) ∧
    (∀ (f : M D) (i e K X), Wp (sAsg f (tName i) e) K X = Wp (f e) (fun d e => K .nx (e.set i d)) X) ∧
    (∀ (f : M D) (n g e K X), Wp (sAsg f (tN n g) e) K X = Wp (f e) (fun d e => oK (tN n g d e) fun e => K .nx e) X) ∧
    (∀ (f : M D) (e K X), Wp (sRet f e) K X = Wp (f e) (fun d e => K (.rt d) e) X) ∧
    (∀ (f : M D) (e K X), Wp (sExp f e) K X = Wp (f e) (fun _ e => K .nx e) X) ∧
    (∀ {α : Type} (t : M Bool) (f g : M α) (e K X), Wp (ifM t f g e) K X = Wp (t e) (fun b e => if b = true then Wp (f e) K X else Wp (g e) K X) X) ∧
    (∀ (f : M D) (e K X), Wp (asB f e) K X = Wp (f e) (bK K) X) ∧
    (∀ (K b e), bK K (.bl b) e = K b e) ∧
    (∀ (f : M Bool) (e K X), Wp (notB f e) K X = Wp (f e) (fun b e => K (!b) e) X) ∧
    (∀ (f g : M Bool) (e K X), Wp (andB f g e) K X = Wp (f e) (fun b e => if b = true then Wp (g e) K X else K false e) X) ∧
    (∀ (f g : M Bool) (e K X), Wp (orB f g e) K X = Wp (f e) (fun b e => if b = true then K true e else Wp (g e) K X) X) ∧
    (∀ (f : M Bool) (e K X), Wp (bD f e) K X = Wp (f e) (fun b e => K (.bl b) e) X) ∧
    (∀ (i e K X), Wp (vr i e) K X = getK e[i]? fun d => K d e) ∧
    (∀ (d : D) (e K X), Wp (cn d e) K X = K d e) ∧
    (∀ (e K X), Wp (aNil e) K X = K [] e) ∧
    (∀ (f : M D) (r : M (List D)) (e K X), Wp (aCons f r e) K X = Wp (f e) (fun d e => Wp (r e) (fun ds e => K (d :: ds) e) X) X) ∧
    (∀ (g as) (r : M (List D)) (e K X), Wp (primM g as r e) K X = Wp (r e) (pK g as K) X) ∧
    (∀ (F as) (r : M (List D)) (e K X), Wp (callM F as r e) K X = Wp (r e) (fun ds e => Wp (F ds) (fun d o => K d (backE as o e)) fun c fs o => X c fs (backE as o e)) X) ∧
    (∀ (r : M (List D)) (e K X), Wp (lstM r e) K X = Wp (r e) (fun ds e => ds.length ≤ lim ∧ K (.lst ds) e) X) ∧
    (∀ (r : M (List D)) (e K X), Wp (tupM r e) K X = Wp (r e) (fun ds e => ds.length ≤ lim ∧ K (.tup ds) e) X) ∧
    (∀ (i fe fi e K X), Wp (setIM i fe fi e) K X = Wp (fe e) (fun d e => getK e[i]? fun l => Wp (fi (e.set i .non)) (fun k e => setK i K l k d e) X) X) ∧
    (∀ (src tg body e K X), Wp (forM' src tg body e) K X = Wp (src e) (fun items e => Wp (forGo tg body items e) K X) X) ∧
    (∀ (f : M D) (e K X), Wp (seqM f e) K X = Wp (f e) (listK K) X) ∧
    (∀ (K ds e), listK K (.lst ds) e = K ds e) ∧ (∀ (K ds e), listK K (.rol ds) e = K ds e) ∧ (∀ (K ds e), listK K (.tup ds) e = K ds e) ∧
    (∀ (src own tg c f e K X), Wp (lcM src own tg c f e) K X = Wp (src e) (fun items e => items.length ≤ lim ∧ Wp (lcGo own tg c f items (wipeE e own)) (fun ds e => K (.lst ds) e) X) X) ∧
    (∀ (fa fb fc g h e K X), Wp (chain3 fa fb fc g h e) K X = Wp (fa e) (fun x e => Wp (fb e) (fun y e => chK g h fc K X x y e) X) X) ∧
    (∀ (e K X), Wp (oNone e) K X = K none e) ∧
    (∀ (f : M D) (e K X), Wp (oSome f e) K X = Wp (f e) (intK K) X) ∧
    (∀ (K i e), intK K (.int i) e = K (some i) e) ∧
    (∀ (f lo hi g e K X), Wp (slM f lo hi g e) K X = Wp (f e) (fun d e => Wp (lo e) (fun l e => Wp (hi e) (fun h e => oK (g l h d) fun d => K d e) X) X) X) ∧
    (∀ (T g a0 as fo fr e K X), Wp (methM T g a0 as fo fr e) K X = Wp (fo e) (fun d0 e => tyD T d0 = true ∧ Wp (fr e) (fun ds e => pK g (a0 :: as) K (d0 :: ds) e) X) X) := by
  with_unfolding_all
    refine ⟨?_, ?_, ?_, ?_, ?_, ?_, ?_, ?_, ?_, ?_, ?_, ?_, ?_, ?_, ?_, ?_, ?_, ?_, ?_, ?_, ?_, ?_, ?_, ?_, ?_, ?_, ?_, ?_, ?_, ?_, ?_, ?_, ?_, ?_, ?_, ?_, ?_, ?_, ?_, ?_, ?_⟩
    · intros; rfl
    · intro f g e K X; unfold sCons; rw [Wp.bind]; congr 1; funext fl e; cases fl <;> rfl
    · intros; rfl
    · intros; rfl
    · intros; rfl
    · intros; rfl
    · intros; rfl
    · intros; rfl
    · intros; rfl
    · intro f i e K X; unfold sAsg; rw [Wp.bind]; rfl
    · intro f n g e K X; unfold sAsg; rw [Wp.bind]; congr 1; funext d e; cases tN n g d e <;> rfl
    · intro f e K X; unfold sRet; rw [Wp.bind]; rfl
    · intro f e K X; unfold sExp; rw [Wp.bind]; rfl
    · intro α t f g e K X; unfold ifM; rw [Wp.bind]; congr 1; funext b e; cases b <;> rfl
    · intro f e K X; unfold asB; rw [Wp.bind]; congr 1; funext d e; cases d <;> rfl
    · intros; rfl
    · intro f e K X; unfold notB; rw [Wp.bind]; rfl
    · intro f g e K X; unfold andB; rw [Wp.bind]; congr 1; funext b e; cases b <;> rfl
    · intro f g e K X; unfold orB; rw [Wp.bind]; congr 1; funext b e; cases b <;> rfl
    · intro f e K X; unfold bD; rw [Wp.bind]; rfl
    · intro i e K X; unfold vr; cases e[i]? <;> rfl
    · intros; rfl
    · intros; rfl
    · intro f r e K X; unfold aCons; rw [Wp.bind]; congr 1; funext d e; rw [Wp.bind]; rfl
    · intro g as r e K X; unfold primM; rw [Wp.bind]; congr 1; funext ds e; unfold pK; cases g ds <;> rfl
    · intro F as r e K X; unfold callM; rw [Wp.bind]; congr 1; funext ds e; cases F ds <;> rfl
    · intro r e K X; unfold lstM; rw [Wp.bind]; congr 1; funext ds e; by_cases h : ds.length ≤ lim <;> simp [h, Wp]
    · intro r e K X; unfold tupM; rw [Wp.bind]; congr 1; funext ds e; by_cases h : ds.length ≤ lim <;> simp [h, Wp]
    · intro i fe fi e K X; unfold setIM; rw [Wp.bind]; congr 1; funext d e; cases e[i]? with
      | none => rfl
      | some l =>
        show Wp ((fi (e.set i .non)).bind _) K X = Wp (fi (e.set i .non)) _ X
        rw [Wp.bind]; congr 1; funext k e; unfold setK
        generalize gSetI [l, k, d] = q
        match q with
        | none => rfl
        | some (_, []) => rfl
        | some (_, l' :: _) => rfl
    · intro src tg body e K X; unfold forM'; rw [Wp.bind]
    · intro f e K X; unfold seqM; rw [Wp.bind]; congr 1; funext d e; cases d <;> rfl
    · intros; rfl
    · intros; rfl
    · intros; rfl
    · intro src own tg c f e K X; unfold lcM; rw [Wp.bind]; congr 1; funext ds e; by_cases h : ds.length ≤ lim
      · simp only [h, if_true, true_and]; rw [Wp.bind]; rfl
      · simp [h, Wp]
    · intro fa fb fc g h e K X; unfold chain3; rw [Wp.bind]; congr 1; funext x e; rw [Wp.bind]; congr 1; funext y e; unfold chK
      cases g [x, y] with
      | none => rfl
      | some d =>
        cases d with
        | bl b =>
          cases b with
          | true =>
            show Wp ((fc e).bind _) K X = if true = true then _ else _
            rw [if_pos rfl, Wp.bind]; congr 1; funext w e; cases h [y, w] <;> rfl
          | false => rfl
        | _ => rfl
    · intros; rfl
    · intro f e K X; unfold oSome; rw [Wp.bind]; congr 1; funext d e; cases d <;> rfl
    · intros; rfl
    · intro f lo hi g e K X; unfold slM; rw [Wp.bind]; congr 1; funext d e; rw [Wp.bind]; congr 1; funext l e; rw [Wp.bind]; congr 1; funext h e; cases g l h d <;> rfl
    · intro T g a0 as fo fr e K X; unfold methM; rw [Wp.bind]; congr 1; funext d0 e; by_cases h : tyD T d0 = true
      · simp only [h, if_true, true_and]; rw [Wp.bind]; congr 1; funext ds e; unfold pK; cases g (d0 :: ds) <;> rfl
      · simp [h, Wp]
/-- what is read, stored -/
theorem wpE :
    (∀ (d : D) (e K), getK (d :: e)[0]? K = K d) ∧ (∀ (d : D) (e : List D) (n K), getK (d :: e)[n + 1]? K = getK e[n]? K) ∧
    (∀ (g : List D → Option D) (as K ds e), pK (ro g) as K ds e = oK (g ds) fun d => K d (backE as ds e)) := by
  with_unfolding_all
    refine ⟨fun _ _ _ => rfl, fun _ _ _ _ => rfl, fun g as K ds e => ?_⟩
    unfold pK ro
    cases g ds <;> rfl
theorem wpB : (∀ (os e), backE [] os e = e) ∧ (∀ (as o os e), backE (.sh :: as) (o :: os) e = backE as os e) ∧ (∀ (i k as o os e), backE (.io i k :: as) (o :: os) e = backE as os (e.set i o)) :=
  ⟨fun os _ => by cases os <;> rfl, fun _ _ _ _ => rfl, fun _ _ _ _ _ _ => rfl⟩
theorem gI_of {C : Int → Int → Prop} [DecidableRel C] {f : Int → Int → Int} {a b : Int} {P : D → Prop} {o : Option D} (h : (if C a b then some (D.int (f a b)) else none) = o) : oK o P = (C a b ∧ P (.int (f a b))) := by
  with_unfolding_all
    subst h
    by_cases h : C a b
    · rw [if_pos h]; exact propext ⟨fun z => ⟨h, z⟩, fun z => z.2⟩
    · rw [if_neg h]; exact propext ⟨fun z => z.elim, fun z => h z.1⟩
/-- operations on what is known -/
theorem wpO :
    (∀ (a b : Int) P, oK (gAdd [.int a, .int b]) P = P (.int (a + b))) ∧
    (∀ (x y : Str) P, oK (gAdd [.str x, .str y]) P = (x.length + y.length ≤ lim ∧ P (.str (x ++ y)))) ∧
    (∀ (f) (a b : Int) P, oK (gI cAny f [.int a, .int b]) P = P (.int (f a b))) ∧
    (∀ (f) (a b : Int) P, oK (gI cMul f [.int a, .int b]) P = (cMul a b ∧ P (.int (f a b)))) ∧
    (∀ (f) (a b : Int) P, oK (gI cMod f [.int a, .int b]) P = (0 < b ∧ P (.int (f a b)))) ∧
    (∀ (f) (a b : Int) P, oK (gI cDiv f [.int a, .int b]) P = ((0 < b ∧ b < 2 ^ 200) ∧ P (.int (f a b)))) ∧
    (∀ (f) (a b : Int) P, oK (gI cPow f [.int a, .int b]) P = ((0 ≤ b ∧ b ≤ 1000 ∧ a.natAbs < 18446744073709551616) ∧ P (.int (f a b)))) ∧
    (∀ (f) (a b : Int) P, oK (gI cShr f [.int a, .int b]) P = (0 ≤ b ∧ P (.int (f a b)))) ∧
    (∀ (a : Int) P, oK (gNeg [.int a]) P = P (.int (-a))) ∧
    (∀ (f h) (a b : Int) P, oK (gCmp f h [.int a, .int b]) P = P (.bl (f a b))) ∧
    (∀ (f h) (a b : Str) P, oK (gCmp f h [.str a, .str b]) P = P (.bl (h a.cps.toList b.cps.toList))) ∧
    (∀ (xs : List D) P, oK (gLen [.lst xs]) P = P (.int xs.length)) ∧ (∀ (xs : List D) P, oK (gLen [.rol xs]) P = P (.int xs.length)) ∧ (∀ (xs : List D) P, oK (gLen [.tup xs]) P = P (.int xs.length)) ∧
    (∀ (x : Str) P, oK (gLen [.str x]) P = (x.length ≤ lim ∧ P (.int x.length))) ∧
    (∀ (a b : Int) P, oK (gMax [.int a, .int b]) P = P (.int (max a b))) ∧ (∀ (a b : Int) P, oK (gMin [.int a, .int b]) P = P (.int (min a b))) ∧
    (∀ (xs : List D) (i : Int) P, oK (gIx [.lst xs, .int i]) P = oK (atI xs i) P) ∧ (∀ (xs : List D) (i : Int) P, oK (gIx [.rol xs, .int i]) P = oK (atI xs i) P) ∧ (∀ (xs : List D) (i : Int) P, oK (gIx [.tup xs, .int i]) P = oK (atI xs i) P) ∧
    (∀ (z : Str) (i : Int) P, oK (gIx [.str z, .int i]) P = (z.length ≤ lim ∧ oK (atI z.cps.toList i) fun c => P (chD c))) ∧
    (∀ (xs : List D) (i : Int) P, oK (gIxO [.lst xs, .int i]) P = oK (atI xs i) P) ∧
    (∀ (x n) P, oK (gIsi1 [x, .ty n]) P = (isiTs.contains n = true ∧ oK (typN x) fun t => P (.bl (isiB t n)))) ∧
    (∀ (x y) P, oK (gEq [x, y]) P = oK (eqD x y) fun b => P (.bl b)) ∧ (∀ (x y) P, oK (gNe [x, y]) P = oK (eqD x y) fun b => P (.bl (!b))) ∧
    (∀ (x y) P, oK (gIn [x, y]) P = oK (inD x y) fun b => P (.bl b)) ∧ (∀ (x y) P, oK (gNotIn [x, y]) P = oK (inD x y) fun b => P (.bl (!b))) ∧
    (∀ {α : Type} (x : α) P, oK (some x) P = P x) := by
  with_unfolding_all
    refine ⟨?_, ?_, ?_, ?_, ?_, ?_, ?_, ?_, ?_, ?_, ?_, ?_, ?_, ?_, ?_, ?_, ?_, ?_, ?_, ?_, ?_, ?_, ?_, ?_, ?_, ?_, ?_, ?_⟩ <;> intros <;> try rfl
    · rename_i x y P; unfold gAdd; by_cases h : x.length + y.length ≤ lim <;> simp [h, oK]
    · rename_i f a b P; unfold gI; by_cases h : cMul a b <;> simp [h, oK]
    · rename_i f a b P; unfold gI; by_cases h : 0 < b <;> simp [h, oK, cMod]
    · rename_i f a b P; exact gI_of (show (if cDiv a b then some (D.int (f a b)) else none) = gI cDiv f [.int a, .int b] from rfl)
    · rename_i f a b P; exact gI_of (show (if cPow a b then some (D.int (f a b)) else none) = gI cPow f [.int a, .int b] from rfl)
    · rename_i f a b P; unfold gI; by_cases h : 0 ≤ b <;> simp [h, oK, cShr]
    · rename_i x P; unfold gLen; by_cases h : x.length ≤ lim <;> simp [h, oK]
    · rename_i a b P
      show P (.int (if b > a then b else a)) = _
      have : (if b > a then b else a) = max a b := by split <;> omega
      rw [this]
    · rename_i a b P
      show P (.int (if b < a then b else a)) = _
      have : (if b < a then b else a) = min a b := by split <;> omega
      rw [this]
    · rename_i z i P; unfold gIx; by_cases h : z.length ≤ lim
      · simp only [h, if_true, true_and]; cases atI z.cps.toList i <;> rfl
      · simp [h, oK]
    · rename_i x n P; unfold gIsi1; by_cases h : isiTs.contains n = true
      · simp only [h, if_true, true_and]; cases typN x <;> rfl
      · show oK (if isiTs.contains n = true then _ else none) P = _
        rw [if_neg h]; exact propext ⟨fun z => z.elim, fun z => h z.1⟩
    · rename_i x y P; show oK ((eqD x y).map D.bl) P = _; cases eqD x y <;> rfl
    · rename_i x y P; show oK ((eqD x y).map fun b => D.bl (!b)) P = _; cases eqD x y <;> rfl
    · rename_i x y P; show oK ((inD x y).map D.bl) P = _; cases inD x y <;> rfl
    · rename_i x y P; show oK ((inD x y).map fun b => D.bl (!b)) P = _; cases inD x y <;> rfl
/-- a def's answer -/
def rtK (m : Nat) (K : D → List D → Prop) (fl : Fl) (e : List D) : Prop := match fl with
  | .rt d => K d (e.take m)
  | .nx => K .non (e.take m)
  | _ => False
theorem wpF : (∀ (m n b ds K X), Wp (runF m n b ds) K X = Wp (b (ds ++ List.replicate n .non)) (rtK m K) fun c fs e => X c fs (e.take m)) ∧ (∀ (m K d e), rtK m K (.rt d) e = K d (e.take m)) ∧ (∀ (m K e), rtK m K .nx e = K .non (e.take m)) := by
  with_unfolding_all
    refine ⟨fun m n b ds K X => ?_, fun _ _ _ _ => rfl, fun _ _ _ => rfl⟩
    unfold runF
    cases b (ds ++ List.replicate n .non) with
    | ok fl e => cases fl <;> rfl
    | ex c fs e => rfl
    | stuck => rfl
theorem of_wp {α} {o : Out α} {d : α} (h : Wp o (fun a _ => a = d) (fun _ _ _ => False)) : ∃ e, o = .ok d e := by
  with_unfolding_all
    cases o with
    | ok a e => exact ⟨e, by rw [show a = d from h]⟩
    | ex c fs e => exact h.elim
    | stuck => exact h.elim
theorem for_inv {tg : D → List D → Option (List D)} {body : M Fl} {K : Fl → List D → Prop} {X : KX} (I : Nat → List D → Prop) {items : List D} {e : List D} (h0 : I 0 e)
    (step : ∀ i x e, items[i]? = some x → I i e → oK (tg x e) fun e => Wp (body e) (fun fl e => match fl with | .nx => I (i + 1) e | .ct => I (i + 1) e | .bk => K .nx e | .rt d => K (.rt d) e) X)
    (fin : ∀ e, I items.length e → K .nx e) : Wp (forGo tg body items e) K X := by
  with_unfolding_all
    have go : ∀ (l : List D) (n : Nat) (e : List D), (∀ i x, l[i]? = some x → items[n + i]? = some x) → n + l.length = items.length → I n e → Wp (forGo tg body l e) K X := by
      intro l
      induction l with
      | nil => intro n e _ hl hI; exact fin e (by rw [← hl]; exact hI)
      | cons x l ih =>
        intro n e hx hl hI
        have s := step n x e (hx 0 x rfl) hI
        unfold forGo
        cases et : tg x e with
        | none => rw [et] at s; exact s.elim
        | some e1 =>
          rw [et] at s
          show Wp ((body e1).bind _) K X
          rw [Wp.bind]
          refine Wp.mono s (fun fl e2 z => ?_) fun _ _ _ z => z
          have nx : I (n + 1) e2 → Wp (forGo tg body l e2) K X := fun z => ih (n + 1) e2 (fun i y q => by have := hx (i + 1) y (by simpa using q); rwa [Nat.add_assoc, Nat.add_comm 1 i]) (by simp at hl; omega) z
          cases fl with
          | nx => exact nx z
          | ct => exact nx z
          | bk => exact z
          | rt d => exact z
    exact go items 0 e (fun i x q => by simpa using q) (by simp) h0
theorem noEx_wp {α β} {o : Out α} {F : α → List D → Out β} {K : β → List D → Prop} {X : KX} (h : Wp o (fun a e => Wp (F a e) K X) fun _ _ _ => False) : Wp (o.noEx.bind F) K X := by
  with_unfolding_all
    cases o with
    | ok a e => exact h
    | ex c fs e => exact h.elim
    | stuck => exact h.elim
/-- a comprehension: acc what is made so far -/
theorem lc_inv {own : List Nat} {tg : D → List D → Option (List D)} {c : M Bool} {f : M D} {K : List D → List D → Prop} {X : KX} (I : Nat → List D → List D → Prop) {items : List D} {e : List D} (h0 : I 0 [] e)
    (step : ∀ i x acc e, items[i]? = some x → I i acc e → oK (tg x e) fun e => Wp (c e) (fun b e => if b = true then Wp (f e) (fun d e => I (i + 1) (acc ++ [d]) (wipeE e own)) (fun _ _ _ => False) else I (i + 1) acc (wipeE e own)) fun _ _ _ => False)
    (fin : ∀ acc e, I items.length acc e → K acc e) : Wp (lcGo own tg c f items e) K X := by
  with_unfolding_all
    have go : ∀ (l : List D) (n : Nat) (acc e : List D), (∀ i x, l[i]? = some x → items[n + i]? = some x) → n + l.length = items.length → I n acc e → Wp (lcGo own tg c f l e) (fun ds e => K (acc ++ ds) e) X := by
      intro l
      induction l with
      | nil => intro n acc e _ hl hI; exact fin _ e (by rw [List.append_nil, ← hl]; exact hI)
      | cons x l ih =>
        intro n acc e hx hl hI
        have s := step n x acc e (hx 0 x rfl) hI
        unfold lcGo
        cases et : tg x e with
        | none => rw [et] at s; exact s.elim
        | some e1 =>
          rw [et] at s
          show Wp ((c e1).noEx.bind _) _ X
          refine noEx_wp (Wp.mono s (fun b e2 z => ?_) fun _ _ _ z => z)
          have nx : ∀ acc e, I (n + 1) acc e → Wp (lcGo own tg c f l e) (fun ds e => K (acc ++ ds) e) X := fun acc e z => ih (n + 1) acc e (fun i y q => by have := hx (i + 1) y (by simpa using q); rwa [Nat.add_assoc, Nat.add_comm 1 i]) (by simp at hl; omega) z
          cases b with
          | false => exact nx acc _ z
          | true =>
            refine noEx_wp (Wp.mono (show Wp (f e2) _ _ from z) (fun d e3 z => ?_) fun _ _ _ z => z)
            rw [Wp.bind]
            refine Wp.mono (nx (acc ++ [d]) _ z) (fun ds e4 z => ?_) fun _ _ _ z => z
            show K (acc ++ d :: ds) e4
            simpa using z
    have := go items 0 [] e (fun i x q => by simpa using q) (by simp) h0
    simpa using this
end Rm
namespace Rm
open PySem PySem.Spec L2
open SX (S join_S S_cat S_tl S_len)
def boxB : M Fl :=
 sCons (sRet (lstM (aCons (primM (ro gMax) [.sh, .sh] (aCons (cn (.int 0)) (aCons (primM (ro (gI cAny fun i j => i - j)) [.sh, .sh] (aCons (vr 0) (aCons (primM (ro (gI cPow fun i j => i ^ j.toNat)) [.sh, .sh] (aCons (cn (.int 10)) (aCons (cn (.int 18)) (aNil)))) (aNil)))) (aNil)))) (aCons (primM (ro (gI cMod fun i j => i % j)) [.sh, .sh] (aCons (vr 0) (aCons (cn (.int 2147483629)) (aNil)))) (aCons (cn (.int 0)) (aNil))))))
 (sNil)
/-- a box: three numbers, the third counts -/
def Bx3 (n : Nat) (d : D) : Prop := ∃ a b c : Int, d = .lst [.int a, .int b, .int c] ∧ 0 ≤ a ∧ 0 ≤ b ∧ b < 2147483629 ∧ 0 ≤ c ∧ c ≤ n
theorem Bx3.mono {n m d} (h : Bx3 n d) (l : n ≤ m) : Bx3 m d := by
  obtain ⟨a, b, c, e, h1, h2, h3, h4, h5⟩ := h
  exact ⟨a, b, c, e, h1, h2, h3, h4, by omega⟩
def r1K (K : List D → List D → Prop) (ds e : List D) : Prop := oK (int1 ds) fun j => (-(lim : Int) ≤ j ∧ j ≤ lim) ∧ K (rngD 0 j.toNat) e
def r2K (K : List D → List D → Prop) (ds e : List D) : Prop := oK (int2 ds) fun p => ((-(lim : Int) ≤ p.1 ∧ p.1 ≤ lim) ∧ -(lim : Int) ≤ p.2 ∧ p.2 ≤ lim) ∧ K (rngD p.1 (p.2 - p.1).toNat) e
def strK (K : List D → List D → Prop) (d : D) (e : List D) : Prop := match d with | .str x => K (x.cps.toList.map chD) e | _ => False
theorem wpR :
    (∀ (f e K X), Wp (rng1M f e) K X = Wp (f e) (r1K K) X) ∧ (∀ (f e K X), Wp (rng2M f e) K X = Wp (f e) (r2K K) X) ∧
    (∀ K j e, r1K K [.int j] e = ((-(lim : Int) ≤ j ∧ j ≤ lim) ∧ K (rngD 0 j.toNat) e)) ∧
    (∀ K i j e, r2K K [.int i, .int j] e = (((-(lim : Int) ≤ i ∧ i ≤ lim) ∧ -(lim : Int) ≤ j ∧ j ≤ lim) ∧ K (rngD i (j - i).toNat) e)) ∧
    (∀ (f e K X), Wp (strM f e) K X = Wp (f e) (strK K) X) ∧ (∀ K x e, strK K (.str x) e = K (x.cps.toList.map chD) e) ∧
    (∀ (e K X), Wp (yes e) K X = K true e) ∧
    (∀ (i x e P), oK (tName i x e) P = P (e.set i x)) ∧
    (∀ (n g ds e P), oK (tN n g (.tup ds) e) P = (ds.length = n ∧ oK (g ds e) P)) ∧
    (∀ (g h d ds e P), oK (tsCons g h (d :: ds) e) P = oK (g d e) fun e => oK (h ds e) P) ∧ (∀ (e P), oK (tsNil [] e) P = P e) ∧
    (∀ (lo hi z P), oK (gSlS lo hi (.str z)) P = (z.length ≤ lim ∧ P (.str (cutS z lo hi)))) ∧
    (∀ (a b : Int) P, oK (eqD (.int a) (.int b)) P = P (decide (a = b))) ∧ (∀ (a b : Bool) P, oK (eqD (.bl a) (.bl b)) P = P (a == b)) := by
  with_unfolding_all
    refine ⟨?_, ?_, ?_, ?_, ?_, ?_, ?_, ?_, ?_, ?_, ?_, ?_, ?_, ?_⟩
    · intro f e K X; unfold rng1M; rw [Wp.bind]; congr 1; funext ds e; unfold r1K
      cases int1 ds with
      | none => rfl
      | some j => show Wp (if _ then _ else _) K X = _; by_cases h : -(lim : Int) ≤ j ∧ j ≤ lim
                  · rw [if_pos h]; exact propext ⟨fun z => ⟨h, z⟩, fun z => z.2⟩
                  · rw [if_neg h]; exact propext ⟨fun z => z.elim, fun z => h z.1⟩
    · intro f e K X; unfold rng2M; rw [Wp.bind]; congr 1; funext ds e; unfold r2K
      cases int2 ds with
      | none => rfl
      | some p => show Wp (if _ then _ else _) K X = _; by_cases h : (-(lim : Int) ≤ p.1 ∧ p.1 ≤ lim) ∧ -(lim : Int) ≤ p.2 ∧ p.2 ≤ lim
                  · rw [if_pos h]; exact propext ⟨fun z => ⟨h, z⟩, fun z => z.2⟩
                  · rw [if_neg h]; exact propext ⟨fun z => z.elim, fun z => h z.1⟩
    · intros; rfl
    · intros; rfl
    · intro f e K X; unfold strM; rw [Wp.bind]; congr 1; funext d e; cases d <;> rfl
    · intros; rfl
    · intros; rfl
    · intros; rfl
    · intro n g ds e P; show oK (if ds.length = n then _ else none) P = _; by_cases h : ds.length = n
      · rw [if_pos h]; exact propext ⟨fun z => ⟨h, z⟩, fun z => z.2⟩
      · rw [if_neg h]; exact propext ⟨fun z => z.elim, fun z => h z.1⟩
    · intro g h d ds e P; show oK ((g d e).bind fun e => h ds e) P = _; cases g d e <;> rfl
    · intros; rfl
    · intro lo hi z P; show oK (if _ then _ else none) P = _; by_cases h : z.length ≤ lim
      · rw [if_pos h]; exact propext ⟨fun z => ⟨h, z⟩, fun z => z.2⟩
      · rw [if_neg h]; exact propext ⟨fun z => z.elim, fun z => h z.1⟩
    · intro a b P
      have : eqD (.int a) (.int b) = some (decide (a = b)) := by
        show (if SeqAt.shaped (.int a) = true ∧ SeqAt.shaped (.int b) = true then some (PyData.eqv (.int a) (.int b)) else none) = _
        rw [if_pos ⟨rfl, rfl⟩]
        show some (a == b) = some (decide (a = b))
        rfl
      rw [this]; rfl
    · intro a b P
      have : eqD (.bl a) (.bl b) = some (a == b) := by
        show (if SeqAt.shaped (.bool a) = true ∧ SeqAt.shaped (.bool b) = true then some (PyData.eqv (.bool a) (.bool b)) else none) = _
        rw [if_pos ⟨rfl, rfl⟩]
        rfl
      rw [this]; rfl
theorem wpD : (∀ (fk fv : M D) (e K X), Wp (dict1M fk fv e) K X = Wp (fk e) (fun k e => Wp (fv e) (fun v e => oK (keyD k) fun kk => K (.dK [(kk, v)]) e) X) X) ∧ (∀ x P, oK (keyD (.str x)) P = P (.inr x)) ∧ (∀ x P, oK (keyD (.int x)) P = P (.inl x)) := by
  with_unfolding_all
    refine ⟨fun fk fv e K X => ?_, fun _ _ => rfl, fun _ _ => rfl⟩
    unfold dict1M; rw [Wp.bind]; congr 1; funext k e; rw [Wp.bind]; congr 1; funext v e; cases keyD k <;> rfl
theorem wpC : (∀ f h g fc K X (a b : Int) e, chK (gCmp f h) g fc K X (.int a) (.int b) e = if f a b = true then Wp (fc e) (fun w e => oK (g [.int b, w]) fun d => K d e) X else K (.bl false) e) ∧
    (∀ f h g fc K X (a b : Str) e, chK (gCmp f h) g fc K X (.str a) (.str b) e = if h a.cps.toList b.cps.toList = true then Wp (fc e) (fun w e => oK (g [.str b, w]) fun d => K d e) X else K (.bl false) e) := by
  with_unfolding_all
    exact (⟨fun _ _ _ _ _ _ _ _ _ => rfl, fun _ _ _ _ _ _ _ _ _ => rfl⟩)
theorem wpT : typN .non = some "NoneType" ∧ (∀ b, typN (.bl b) = some "bool") ∧ (∀ b, typN (.int b) = some "int") ∧ (∀ b, typN (.str b) = some "str") ∧ (∀ b, typN (.lst b) = some "list") ∧ (∀ b, typN (.rol b) = some "list") ∧ (∀ b, typN (.tup b) = some "tuple") ∧ (∀ b, typN (.dK b) = some "dict") ∧
    isiTs.contains "str" = true ∧ isiTs.contains "int" = true ∧ isiTs.contains "bool" = true ∧ isiTs.contains "list" = true ∧ isiTs.contains "tuple" = true ∧ isiTs.contains "dict" = true ∧
    isiB "str" "str" = true ∧ isiB "str" "int" = false ∧ isiB "str" "bool" = false ∧ isiB "int" "int" = true ∧ isiB "int" "str" = false ∧ isiB "int" "bool" = false ∧ isiB "bool" "bool" = true ∧ isiB "bool" "int" = true ∧ isiB "bool" "str" = false := by
  refine ⟨rfl, fun _ => rfl, fun _ => rfl, fun _ => rfl, fun _ => rfl, fun _ => rfl, fun _ => rfl, fun _ => rfl, ?_⟩
  decide
theorem wpJ : (∀ (a ds P), oK (gJoin [.str a, .lst ds]) P = oK (strsOf ds) fun ys => (ys.map (·.length)).sum + ys.length * a.length ≤ lim ∧ P (.str (Txt.join a ys))) := by
  with_unfolding_all
    intro a ds P; show oK (match strsOf ds with | some ys => _ | none => none) P = _; cases strsOf ds with
      | none => rfl
      | some ys => show oK (if _ then _ else none) P = _; by_cases h : (ys.map (·.length)).sum + ys.length * a.length ≤ lim
                   · rw [if_pos h]; exact propext ⟨fun z => ⟨h, z⟩, fun z => z.2⟩
                   · rw [if_neg h]; exact propext ⟨fun z => z.elim, fun z => h z.1⟩
theorem wpA : (∀ (x : D) xs P, oK (atI (x :: xs) 0) P = P x) ∧ (∀ (x y : D) xs P, oK (atI (x :: y :: xs) 1) P = P y) ∧ (∀ (x y z : D) xs P, oK (atI (x :: y :: z :: xs) 2) P = P z) := by
  with_unfolding_all
    refine ⟨fun x xs P => ?_, fun x y xs P => ?_, fun x y z xs P => ?_⟩
    · have : atI (x :: xs) 0 = some x := by simp [atI, ixN]
      rw [this]; rfl
    · have : atI (x :: y :: xs) 1 = some y := by simp [atI, ixN]; rw [if_pos (by omega)]; rfl
      rw [this]; rfl
    · have : atI (x :: y :: z :: xs) 2 = some z := by simp [atI, ixN]; rw [if_pos (by omega)]; rfl
      rw [this]; rfl
theorem wpI : (∀ (i K) (x y z d : D) e, setK i K (.lst [x, y, z]) (.int 0) d e = K .nx (e.set i (.lst [d, y, z]))) ∧ (∀ (i K) (x y z d : D) e, setK i K (.lst [x, y, z]) (.int 1) d e = K .nx (e.set i (.lst [x, d, z]))) ∧ (∀ (i K) (x y z d : D) e, setK i K (.lst [x, y, z]) (.int 2) d e = K .nx (e.set i (.lst [x, y, d]))) :=
  ⟨fun _ _ _ _ _ _ _ => rfl, fun _ _ _ _ _ _ _ => rfl, fun _ _ _ _ _ _ _ => rfl⟩
theorem rngD_len {lo n} : (rngD lo n).length = n := by unfold rngD; simp
theorem rngD_get {lo n i x} (h : (rngD lo n)[i]? = some x) : i < n ∧ x = .int (lo + i) := by
  unfold rngD at h
  rw [List.getElem?_map] at h
  by_cases hi : i < n
  · rw [List.getElem?_range hi] at h
    cases h
    exact ⟨hi, rfl⟩
  · rw [List.getElem?_eq_none (by simpa using hi)] at h
    cases h
theorem strsOf_ch : ∀ cs : List Nat, strsOf (cs.map chD) = some (cs.map fun c => S [c])
  | [] => rfl
  | c :: cs => by
    show (strsOf (cs.map chD)).map _ = _
    rw [strsOf_ch cs]
    rfl
theorem joinL_one : ∀ cs : List Nat, TL.joinL [] (cs.map fun c => [c]) = cs
  | [] => rfl
  | [_] => rfl
  | c :: d :: r => by
    show [c] ++ ([] ++ TL.joinL [] ((d :: r).map fun c => [c])) = _
    rw [joinL_one (d :: r)]
    rfl
theorem join_ch (cs : List Nat) : Txt.join (S []) (cs.map fun c => S [c]) = S cs := by
  have := join_S [] (cs.map fun c => [c])
  rw [List.map_map, joinL_one] at this
  exact this
theorem ones_sum : ∀ cs : List Nat, ((cs.map fun c => S [c]).map (·.length)).sum = cs.length
  | [] => rfl
  | c :: cs => by
    simp only [List.map_cons, List.sum_cons, List.length_cons]
    rw [ones_sum cs, S_len]
    simp [Nat.add_comm]
theorem join_wp {cs : List Nat} {P : D → Prop} (h : cs.length ≤ lim) (p : P (.str (S cs))) : oK (gJoin [.str (Str.ofString ""), .lst (cs.map chD)]) P := by
  with_unfolding_all
    rw [wpJ, strsOf_ch]
    show _ ∧ P (.str (Txt.join (Str.ofString "") (cs.map fun c => S [c])))
    have jn : Txt.join (Str.ofString "") (cs.map fun c => S [c]) = S cs := join_ch cs
    rw [jn, ones_sum]
    have z : (Str.ofString "").length = 0 := rfl
    rw [z, List.length_map]
    exact ⟨by simpa using h, p⟩
theorem cat_len (x y : Str) : (x ++ y).length = x.length + y.length := by
  have := S_cat x.cps.toList y.cps.toList
  have e : x ++ y = S (x.cps.toList ++ y.cps.toList) := this
  rw [e, S_len, List.length_append]
  rfl
/-- a text of plain signs -/
def Pl (s : Str) : Prop := ∀ c ∈ s.cps.toList, c < 128
theorem Pl.ok {s : Str} (h : Pl s) : PyData.canLay0 (.str s) = true := by
  simp only [PyData.canLay0]
  unfold PyData.strOk
  rw [Array.all_eq_true']
  intro c m
  have := h c (by simpa using m)
  simp only [decide_eq_true_eq]
  omega
theorem box_wp {x : Int} {K X} (k : ∀ d', Bx3 0 d' → K d' [.int x]) : Wp (runF 1 0 boxB [.int x]) K X := by
  with_unfolding_all
    simp only [↓wpF, boxB, List.replicate, List.cons_append, List.nil_append, ↓wpS, ↓wpE, wpB, List.set_cons_zero, List.set_cons_succ, ↓wpO, wpA, ↓wpI, decide_eq_true_eq, List.take_succ_cons, List.take_zero]
    have b1 := Int.emod_nonneg x (show (2147483629 : Int) ≠ 0 by decide)
    have b2 := Int.emod_lt_of_pos x (show (0 : Int) < 2147483629 by decide)
    exact ⟨⟨by decide, by decide, by decide⟩, by decide, Nat.le_of_ble_eq_true rfl, k _ ⟨_, _, _, rfl, by omega, b1, b2, by decide, by decide⟩⟩
theorem atI_lt {α} {xs : List α} {i : Nat} (h : i < xs.length) (P : α → Prop) : oK (atI xs (i : Int)) P = P xs[i] := by
  with_unfolding_all
    have : atI xs (i : Int) = some xs[i] := by
      unfold atI ixN
      rw [if_pos (by omega), if_pos (by omega)]
      simp [h]
    rw [this]; rfl
end Rm
namespace Rm
open PySem PySem.Spec L2
abbrev noX3 : KX := fun _ _ _ => False
def enK (K : List D → List D → Prop) (d : D) (e : List D) : Prop := match d with | .lst ds => K (enumD ds) e | .rol ds => K (enumD ds) e | _ => False
def setDK (i : Nat) (K : Fl → List D → Prop) (l : D) (k : Key) (d : D) (e : List D) : Prop := match l with | .dK ds => ds.length < lim ∧ K .nx (e.set i (.dK (putD ds k d))) | _ => False
def mkK (as : List Ak) (K : D → List D → Prop) (e : List D) (d : D) (o : List D) : Prop := match d, o with | .non, s :: o => K s (backE as o e) | _, _ => False
def mkX (as : List Ak) (X : KX) (e : List D) (c : Nat) (fs : List (Str × D)) (o : List D) : Prop := match o with | _ :: o => X c fs (backE as o e) | [] => False
def fldK (i : Nat) (cs : List Nat) (f : Str) (K : Fl → List D → Prop) (d : D) (e : List D) (o : D) : Prop := match o with
  | .ins c fs => (c ∈ cs ∧ fs.lookup f = none ∧ fs.length < 900) ∧ K .nx (e.set i (.ins c (fs ++ [(f, d)])))
  | _ => False
def putOK (i c : Nat) (f : Str) (ks : List (Option Nat)) (j : Nat) (K : Fl → List D → Prop) (d : D) (e : List D) (o : D) (k : Key) : Prop := match o with
  | .ins c' fs => oK (fs.lookup f) fun df => match df with
    | .dK ds => (c' = c ∧ fkOf ks fs f = some (some (j + 1)) ∧ getDk ds k = none ∧ ds.length < lim) ∧ K .nx (e.set i (.ins c' (repF fs f (.dK (ds ++ [(k, d)])))))
    | _ => False
  | _ => False
def putPK (i c : Nat) (f : Str) (ks : List (Option Nat)) (K : Fl → List D → Prop) (d : D) (e : List D) (o : D) (p : List Key) (k : Key) : Prop := match o with
  | .ins c' fs => oK (fs.lookup f) fun df => oK (putP p k d df) fun df' => oK (lenP p df) fun l => (c' = c ∧ fkOf ks fs f = some (some p.length) ∧ l < lim) ∧ K .nx (e.set i (.ins c' (repF fs f df')))
  | _ => False
def aK (K : Fl → List D → Prop) (fl : Fl) (e : List D) : Prop := match fl with | .nx => K .nx e | .rt d => K (.rt d) e | _ => False
def m2K (as : List Ak) (K : D → List D → Prop) (i : Nat) (e : List D) (p : D × List D) : Prop := match p with | (d, o :: os) => K d (backE as os (e.set i o)) | _ => False
theorem Wp.noX {α} (o : Out α) (K X) : Wp o.noX K X = Wp o K noX3 := by with_unfolding_all cases o <;> rfl
theorem wpN :
    (∀ (c m F as fo fr e K X), Wp (methC c m F as fo fr e) K X = Wp (fo e) (fun d0 e => isIns c m d0 = true ∧ Wp (fr e) (fun ds e => Wp (F (d0 :: ds)) (fun d o => K d (backE (.sh :: as) o e)) fun cc fs o => X cc fs (backE (.sh :: as) o e)) X) X) ∧
    (∀ (f e K X), Wp (leafM f e) K X = Wp (f e) (fun d _ => (vOf d).isSome = true ∧ K d e) noX3) ∧
    (∀ (f e K X), Wp (leafB f e) K X = Wp (f e) (fun b _ => K b e) noX3) ∧
    (∀ (i gk fe e K X), Wp (setDM i gk fe e) K X = Wp (fe e) (fun d e => getK e[i]? fun l => oK ((gk e).bind keyD) fun k => setDK i K l k d e) X) ∧
    (∀ (i K ds k d e), setDK i K (.dK ds) k d e = (ds.length < lim ∧ K .nx (e.set i (.dK (putD ds k d))))) ∧
    (∀ (f e K X), Wp (enumM f e) K X = Wp (f e) (enK K) X) ∧
    (∀ K ds e, enK K (.lst ds) e = K (enumD ds) e) ∧ (∀ K ds e, enK K (.rol ds) e = K (enumD ds) e) ∧
    (∀ (f g e K X), Wp (stM f g e) K X = Wp (f e) (fun d e => Wp (g e) (fun i e => oK (gStep d i) fun xs => K (.lst xs) e) X) X) ∧
    (∀ (g tg body e K X), Wp (forDM g tg body e) K X = oK (g e) fun d => oK (keysD d) fun ks => Wp (forGo tg body ks e) K noX3) ∧
    (∀ (g own tg c f e K X), Wp (lcDM g own tg c f e) K X = oK (g e) fun d => oK (keysD d) fun ks => ks.length ≤ lim ∧ Wp (lcGo own tg c f ks (wipeE e own)) (fun ds e => K (.lst ds) e) noX3) ∧
    (∀ (kvs : List (Key × D)) P, oK (keysD (.dK kvs)) P = P (kvs.map fun kv => kD kv.1)) ∧
    (∀ (c F as fr e K X), Wp (makeM c F as fr e) K X = Wp (fr e) (fun ds e => Wp (F (.ins c [] :: ds)) (mkK as K e) (mkX as X e)) X) ∧
    (∀ as K e s o, mkK as K e .non (s :: o) = K s (backE as o e)) ∧
    (∀ as X e c fs s o, mkX as X e c fs (s :: o) = X c fs (backE as o e)) ∧
    (∀ (i cs f fe e K X), Wp (fldNM i cs f fe e) K X = Wp (fe e) (fun d e => getK e[i]? (fldK i cs f K d e)) X) ∧
    (∀ i cs f K d e c fs, fldK i cs f K d e (.ins c fs) = ((c ∈ cs ∧ fs.lookup f = none ∧ fs.length < 900) ∧ K .nx (e.set i (.ins c (fs ++ [(f, d)]))))) ∧
    (∀ (i c f ks j gk fe e K X), Wp (putOM i c f ks j gk fe e) K X = Wp (fe e) (fun d e => getK e[i]? fun o => oK ((gk e).bind keyD) fun k => putOK i c f ks j K d e o k) X) ∧
    (∀ (i c f ks gs gk fe e K X), Wp (putPM i c f ks gs gk fe e) K X = Wp (fe e) (fun d e => getK e[i]? fun o => oK (gs e) fun p => oK ((gk e).bind keyD) fun k => putPK i c f ks K d e o p k) X) ∧
    (∀ (c fs fr e K X), Wp (raiseM c fs fr e) K X = Wp (fr e) (fun ds e => (ds.length = fs.length ∧ fs.length ≤ 9) ∧ X c (fs.zip ds).reverse e) X) ∧
    (∀ (all fb hs e K X), Wp (tryM all fb hs e) K X = Wp (fb e) K fun c fs e => all.contains c = true ∧ Wp (handM hs c fs e) K X) ∧
    (∀ c fs e K X, Wp (handM [] c fs e) K X = X c fs e) ∧
    (∀ h r c fs e K X, Wp (handM (h :: r) c fs e) K X = if h.cs.contains c = true then Wp (h.f fs e) (aK K) noX3 else Wp (handM r c fs e) K X) ∧
    (∀ K e, aK K .nx e = K .nx e) ∧ (∀ K d e, aK K (.rt d) e = K (.rt d) e) ∧
    (∀ (T g i as fr e K X), Wp (meth2M T g i as fr e) K X = getK e[i]? fun d0 => tyD T d0 = true ∧ Wp (fr e) (fun ds e => getK e[i]? fun d1 => oK (g (d1 :: ds)) (m2K as K i e)) X) ∧
    (∀ as K i e d o os, m2K as K i e (d, o :: os) = K d (backE as os (e.set i o))) := by
  with_unfolding_all
    refine ⟨?_, ?_, ?_, ?_, fun _ _ _ _ _ _ => rfl, ?_, fun _ _ _ => rfl, fun _ _ _ => rfl, ?_, ?_, ?_, fun _ _ => rfl, ?_, fun _ _ _ _ _ => rfl, fun _ _ _ _ _ _ _ => rfl, ?_, fun _ _ _ _ _ _ _ _ => rfl, ?_, ?_, ?_, ?_, fun _ _ _ _ _ => rfl, ?_, fun _ _ => rfl, fun _ _ _ => rfl, ?_, fun _ _ _ _ _ _ _ => rfl⟩
    · intro c m F as fo fr e K X; unfold methC; rw [Wp.bind]; congr 1; funext d0 e; by_cases h : isIns c m d0 = true
      · simp only [h, if_true, true_and]; rw [Wp.bind]; congr 1; funext ds e; cases F (d0 :: ds) <;> rfl
      · simp [h, Wp]
    · intro f e K X; unfold leafM; cases f e with
      | ok d e1 => by_cases h : (vOf d).isSome = true <;> simp [h, Wp]
      | ex c fs e1 => rfl
      | stuck => rfl
    · intro f e K X; unfold leafB; cases f e <;> rfl
    · intro i gk fe e K X; unfold setDM; rw [Wp.bind]; congr 1; funext d e; cases e[i]? with
      | none => rfl
      | some l =>
        cases (gk e).bind keyD with
        | none => cases l <;> rfl
        | some k =>
          cases l <;> try rfl
          rename_i ds
          show Wp (if ds.length < lim then _ else _) K X = _
          unfold getK oK setDK
          by_cases h : ds.length < lim <;> simp [h, Wp]
    · intro f e K X; unfold enumM; rw [Wp.bind]; congr 1; funext d e; cases d <;> rfl
    · intro f g e K X; unfold stM; rw [Wp.bind]; congr 1; funext d e; rw [Wp.bind]; congr 1; funext i e; cases gStep d i <;> rfl
    · intro g tg body e K X; unfold forDM forM' dkM; rw [Wp.noX, Wp.bind]; cases g e with
      | none => rfl
      | some d => simp only [oK]; cases keysD d <;> rfl
    · intro g own tg c f e K X; unfold lcDM lcM dkM; rw [Wp.noX, Wp.bind]; cases g e with
      | none => rfl
      | some d =>
        simp only [oK]; cases keysD d with
        | none => rfl
        | some ks =>
          simp only [Wp]
          by_cases h : ks.length ≤ lim
          · simp only [h, if_true, true_and]
            exact Wp.bind _ _ _ _
          · simp only [h, if_false, false_and]; rfl
    · intro c F as fr e K X; unfold makeM; rw [Wp.bind]; congr 1; funext ds e
      cases F (.ins c [] :: ds) with
      | ok d o => cases d <;> cases o <;> rfl
      | ex c fs o => cases o <;> rfl
      | stuck => rfl
    · intro i cs f fe e K X; unfold fldNM; rw [Wp.bind]; congr 1; funext d e; cases e[i]? with
      | none => rfl
      | some o =>
        cases o <;> try rfl
        rename_i c fs
        show Wp (if _ then _ else _) K X = _
        unfold getK fldK
        by_cases h : c ∈ cs ∧ fs.lookup f = none ∧ fs.length < 900
        · rw [if_pos h]; exact propext ⟨fun z => ⟨h, z⟩, fun z => z.2⟩
        · rw [if_neg h]; exact propext ⟨fun z => z.elim, fun z => h z.1⟩
    · intro i c f ks j gk fe e K X; unfold putOM; rw [Wp.bind]; congr 1; funext d e; cases e[i]? with
      | none => rfl
      | some o =>
        cases (gk e).bind keyD with
        | none => cases o <;> rfl
        | some k =>
          cases o <;> try rfl
          rename_i c' fs
          unfold getK
          simp only [oK, putOK]
          cases fs.lookup f with
          | none => rfl
          | some df =>
            cases df <;> try rfl
            rename_i ds
            show Wp (if _ then _ else _) K X = _
            by_cases h : c' = c ∧ fkOf ks fs f = some (some (j + 1)) ∧ getDk ds k = none ∧ ds.length < lim
            · rw [if_pos h]; exact propext ⟨fun z => ⟨h, z⟩, fun z => z.2⟩
            · rw [if_neg h]; exact propext ⟨fun z => z.elim, fun z => h z.1⟩
    · intro i c f ks gs gk fe e K X; unfold putPM; rw [Wp.bind]; congr 1; funext d e; cases e[i]? with
      | none => rfl
      | some o =>
        cases gs e with
        | none => cases o <;> rfl
        | some p =>
        cases (gk e).bind keyD with
        | none => cases o <;> rfl
        | some k =>
          cases o <;> try rfl
          rename_i c' fs
          unfold getK
          simp only [oK, putPK]
          cases fs.lookup f with
          | none => rfl
          | some df =>
            simp only
            cases putP p k d df with
            | none => cases lenP p df <;> rfl
            | some df' =>
              cases lenP p df with
              | none => rfl
              | some l =>
                show Wp (if _ then _ else _) K X = _
                by_cases h : c' = c ∧ fkOf ks fs f = some (some p.length) ∧ l < lim
                · rw [if_pos h]; exact propext ⟨fun z => ⟨h, z⟩, fun z => z.2⟩
                · rw [if_neg h]; exact propext ⟨fun z => z.elim, fun z => h z.1⟩
    · intro c fs fr e K X; unfold raiseM; rw [Wp.bind]; congr 1; funext ds e
      by_cases h : ds.length = fs.length ∧ fs.length ≤ 9
      · rw [if_pos h]; exact propext ⟨fun z => ⟨h, z⟩, fun z => z.2⟩
      · rw [if_neg h]; exact propext ⟨fun z => z.elim, fun z => h z.1⟩
    · intro all fb hs e K X; unfold tryM; cases fb e with
      | ok a e => rfl
      | stuck => rfl
      | ex c fs e =>
        show Wp (if _ then _ else _) K X = _
        by_cases h : all.contains c = true
        · rw [if_pos h]; exact propext ⟨fun z => ⟨h, z⟩, fun z => z.2⟩
        · rw [if_neg h]; exact propext ⟨fun z => z.elim, fun z => h z.1⟩
    · intro h r c fs e K X
      show Wp (if _ then _ else _) K X = _
      by_cases hc : h.cs.contains c = true
      · rw [if_pos hc, if_pos hc]
        cases h.f fs e with
        | ok fl e => cases fl <;> rfl
        | ex c fs e => rfl
        | stuck => rfl
      · rw [if_neg hc, if_neg hc]
    · intro T g i as fr e K X; unfold meth2M; cases e[i]? with
      | none => rfl
      | some d0 =>
        show Wp (if _ then _ else _) K X = _
        unfold getK
        by_cases h : tyD T d0 = true
        · simp only [h, if_true, true_and]; rw [Wp.bind]; congr 1; funext ds e; cases e[i]? with
          | none => rfl
          | some d1 =>
            simp only
            cases g (d1 :: ds) with
            | none => rfl
            | some p => obtain ⟨d, o⟩ := p; cases o <;> rfl
        · simp [h, Wp]
end Rm
namespace Rm
open PySem PySem.Spec L2
mutual
/-- plain data down to a depth; truths and whole numbers not both -/
def nzD (m : Bool) : Nat → D → Bool
  | _, .non => true
  | _, .bl _ => m
  | _, .int _ => !m
  | _, .str x => PyData.strOk x
  | 0, _ => false
  | n + 1, .lst xs => nzL m n xs
  | n + 1, .tup xs => nzL m n xs
  | _ + 1, _ => false
def nzL (m : Bool) (n : Nat) : List D → Bool
  | [] => true
  | x :: xs => nzD m n x && nzL m n xs
end
mutual
theorem nz_toP {m : Bool} : ∀ {n : Nat} {d : D}, nzD m n d = true → ∃ p, toP d = some p ∧ PyData.canLay0 p = true ∧ PyData.depth p ≤ n
  | n, .non, _ => ⟨.none, by simp only [toP], by simp only [PyData.canLay0], by simp only [PyData.depth]; omega⟩
  | n, .bl b, _ => ⟨.bool b, by simp only [toP], by simp only [PyData.canLay0], by simp only [PyData.depth]; omega⟩
  | n, .int i, _ => ⟨.int i, by simp only [toP], by simp only [PyData.canLay0], by simp only [PyData.depth]; omega⟩
  | n, .str x, h => ⟨.str x, by simp only [toP], by cases n <;> simpa only [nzD, PyData.canLay0] using h, by simp only [PyData.depth]; omega⟩
  | n + 1, .lst xs, h => by
    have h : nzL m n xs = true := by simpa only [nzD] using h
    obtain ⟨ps, e, c, l⟩ := nz_toPs h
    exact ⟨.list ps, by simp only [toP, e, Option.map], by simpa only [PyData.canLay0] using c, by simp only [PyData.depth]; omega⟩
  | n + 1, .tup xs, h => by
    have h : nzL m n xs = true := by simpa only [nzD] using h
    obtain ⟨ps, e, c, l⟩ := nz_toPs h
    exact ⟨.tuple ps, by simp only [toP, e, Option.map], by simpa only [PyData.canLay0] using c, by simp only [PyData.depth]; omega⟩
  | 0, .lst _, h | 0, .tup _, h | 0, .dK _, h | 0, .dT _, h | 0, .ins _ _, h | 0, .fn _, h | 0, .rol _, h | 0, .ty _, h | 0, .cls _, h | 0, .tok _ _, h => by simp [nzD] at h
  | _ + 1, .dK _, h | _ + 1, .dT _, h | _ + 1, .ins _ _, h | _ + 1, .fn _, h | _ + 1, .rol _, h | _ + 1, .ty _, h | _ + 1, .cls _, h | _ + 1, .tok _ _, h => by simp [nzD] at h
theorem nz_toPs {m : Bool} {n : Nat} : ∀ {ds : List D}, nzL m n ds = true → ∃ ps, toPs ds = some ps ∧ PyData.canLayAll0 ps = true ∧ PyData.depthAll ps ≤ n
  | [], _ => ⟨[], by simp only [toPs], by simp only [PyData.canLayAll0], by simp only [PyData.depthAll]; omega⟩
  | d :: ds, h => by
    have h : nzD m n d = true ∧ nzL m n ds = true := by simpa only [nzL, Bool.and_eq_true] using h
    obtain ⟨p, e, c, l⟩ := nz_toP h.1
    obtain ⟨ps, e2, c2, l2⟩ := nz_toPs h.2
    exact ⟨p :: ps, by simp only [toPs, e, e2], by simp only [PyData.canLayAll0, c, c2, Bool.and_self], by simp only [PyData.depthAll]; omega⟩
end
mutual
theorem nz_eqv {m : Bool} : ∀ {n : Nat} {x y : D} {p q : PyData}, nzD m n x = true → nzD m n y = true → toP x = some p → toP y = some q → (PyData.eqv p q = true ↔ x = y)
  | n, .non, y, p, q, hx, hy, ep, eq => by
    simp only [toP] at ep; cases ep
    cases y <;> simp only [toP, Option.some.injEq, Option.map_eq_some_iff, reduceCtorEq] at eq <;> first | (subst eq; simp [PyData.eqv]) | (obtain ⟨_, _, rfl⟩ := eq; simp [PyData.eqv])
  | n, .bl b, y, p, q, hx, hy, ep, eq => by
    simp only [toP] at ep; cases ep
    have hm : m = true := by cases n <;> simpa only [nzD] using hx
    subst hm
    cases y <;> simp only [toP, Option.some.injEq, Option.map_eq_some_iff, reduceCtorEq] at eq
    case int => cases n <;> simp [nzD] at hy
    all_goals first | (subst eq; simp [PyData.eqv]) | (obtain ⟨_, _, rfl⟩ := eq; simp [PyData.eqv])
  | n, .int i, y, p, q, hx, hy, ep, eq => by
    simp only [toP] at ep; cases ep
    have hm : m = false := by cases n <;> simpa [nzD] using hx
    subst hm
    cases y <;> simp only [toP, Option.some.injEq, Option.map_eq_some_iff, reduceCtorEq] at eq
    case bl => cases n <;> simp [nzD] at hy
    all_goals first | (subst eq; simp [PyData.eqv]) | (obtain ⟨_, _, rfl⟩ := eq; simp [PyData.eqv])
  | n, .str x, y, p, q, hx, hy, ep, eq => by
    simp only [toP] at ep; cases ep
    cases y <;> simp only [toP, Option.some.injEq, Option.map_eq_some_iff, reduceCtorEq] at eq <;> first | (subst eq; simp [PyData.eqv]) | (obtain ⟨_, _, rfl⟩ := eq; simp [PyData.eqv])
  | n + 1, .lst xs, y, p, q, hx, hy, ep, eq => by
    have hx : nzL m n xs = true := by simpa only [nzD] using hx
    simp only [toP, Option.map_eq_some_iff] at ep
    obtain ⟨ps, e1, rfl⟩ := ep
    cases y <;> simp only [toP, Option.some.injEq, Option.map_eq_some_iff, reduceCtorEq] at eq
    case lst ys =>
      have hy : nzL m n ys = true := by simpa only [nzD] using hy
      obtain ⟨qs, e2, rfl⟩ := eq
      simp only [PyData.eqv, D.lst.injEq]
      exact nz_eqvs hx hy e1 e2
    all_goals first | (subst eq; simp [PyData.eqv]) | (obtain ⟨_, _, rfl⟩ := eq; simp [PyData.eqv])
  | n + 1, .tup xs, y, p, q, hx, hy, ep, eq => by
    have hx : nzL m n xs = true := by simpa only [nzD] using hx
    simp only [toP, Option.map_eq_some_iff] at ep
    obtain ⟨ps, e1, rfl⟩ := ep
    cases y <;> simp only [toP, Option.some.injEq, Option.map_eq_some_iff, reduceCtorEq] at eq
    case tup ys =>
      have hy : nzL m n ys = true := by simpa only [nzD] using hy
      obtain ⟨qs, e2, rfl⟩ := eq
      simp only [PyData.eqv, D.tup.injEq]
      exact nz_eqvs hx hy e1 e2
    all_goals first | (subst eq; simp [PyData.eqv]) | (obtain ⟨_, _, rfl⟩ := eq; simp [PyData.eqv])
  | 0, .lst _, _, _, _, h, _, _, _ | 0, .tup _, _, _, _, h, _, _, _ | 0, .dK _, _, _, _, h, _, _, _ | 0, .dT _, _, _, _, h, _, _, _ | 0, .ins _ _, _, _, _, h, _, _, _ | 0, .fn _, _, _, _, h, _, _, _ | 0, .rol _, _, _, _, h, _, _, _ | 0, .ty _, _, _, _, h, _, _, _ | 0, .cls _, _, _, _, h, _, _, _ | 0, .tok _ _, _, _, _, h, _, _, _ => by simp [nzD] at h
  | _ + 1, .dK _, _, _, _, h, _, _, _ | _ + 1, .dT _, _, _, _, h, _, _, _ | _ + 1, .ins _ _, _, _, _, h, _, _, _ | _ + 1, .fn _, _, _, _, h, _, _, _ | _ + 1, .rol _, _, _, _, h, _, _, _ | _ + 1, .ty _, _, _, _, h, _, _, _ | _ + 1, .cls _, _, _, _, h, _, _, _ | _ + 1, .tok _ _, _, _, _, h, _, _, _ => by simp [nzD] at h
theorem nz_eqvs {m : Bool} {n : Nat} : ∀ {xs ys : List D} {ps qs : List PyData}, nzL m n xs = true → nzL m n ys = true → toPs xs = some ps → toPs ys = some qs → (PyData.eqvAll ps qs = true ↔ xs = ys)
  | [], [], ps, qs, _, _, e1, e2 => by simp only [toPs] at e1 e2; cases e1; cases e2; simp [PyData.eqvAll]
  | [], y :: ys, ps, qs, _, hy, e1, e2 => by
    have hy : nzD m n y = true ∧ nzL m n ys = true := by simpa only [nzL, Bool.and_eq_true] using hy
    obtain ⟨p, e3, _⟩ := nz_toP hy.1
    obtain ⟨ps', e4, _⟩ := nz_toPs hy.2
    simp only [toPs, e3, e4] at e1 e2; cases e1; cases e2; simp [PyData.eqvAll]
  | x :: xs, [], ps, qs, hx, _, e1, e2 => by
    have hx : nzD m n x = true ∧ nzL m n xs = true := by simpa only [nzL, Bool.and_eq_true] using hx
    obtain ⟨p, e3, _⟩ := nz_toP hx.1
    obtain ⟨ps', e4, _⟩ := nz_toPs hx.2
    simp only [toPs, e3, e4] at e1 e2; cases e1; cases e2; simp [PyData.eqvAll]
  | x :: xs, y :: ys, ps, qs, hx, hy, e1, e2 => by
    have hx : nzD m n x = true ∧ nzL m n xs = true := by simpa only [nzL, Bool.and_eq_true] using hx
    have hy : nzD m n y = true ∧ nzL m n ys = true := by simpa only [nzL, Bool.and_eq_true] using hy
    obtain ⟨p, e3, _⟩ := nz_toP hx.1
    obtain ⟨ps', e4, _⟩ := nz_toPs hx.2
    obtain ⟨q, e5, _⟩ := nz_toP hy.1
    obtain ⟨qs', e6, _⟩ := nz_toPs hy.2
    simp only [toPs, e3, e4, e5, e6] at e1 e2; cases e1; cases e2
    simp only [PyData.eqvAll, Bool.and_eq_true, List.cons.injEq]
    rw [nz_eqv hx.1 hy.1 e3 e5, nz_eqvs hx.2 hy.2 e4 e6]
end
theorem nz_shaped {m : Bool} {n : Nat} {d : D} {p} (hn : n ≤ 64) (h : nzD m n d = true) (e : toP d = some p) : SeqAt.shaped p = true := by
  obtain ⟨p', e', c, l⟩ := nz_toP h
  rw [e] at e'; cases e'
  unfold SeqAt.shaped
  rw [c, Bool.true_and]
  exact decide_eq_true (by omega)
theorem eqD_nz {m : Bool} {x y : D} {P : Bool → Prop} (hx : nzD m 64 x = true) (hy : nzD m 64 y = true) (h1 : x = y → P true) (h0 : x ≠ y → P false) : oK (eqD x y) P := by
  with_unfolding_all
    obtain ⟨p, ep, _⟩ := nz_toP hx
    obtain ⟨q, eq, _⟩ := nz_toP hy
    have k := nz_eqv hx hy ep eq
    unfold eqD
    rw [ep, eq]
    show oK (if _ then _ else _) P
    rw [if_pos ⟨nz_shaped (Nat.le_refl _) hx ep, nz_shaped (Nat.le_refl _) hy eq⟩]
    show P (PyData.eqv p q)
    cases e : PyData.eqv p q with
    | true => exact h1 (k.mp e)
    | false => exact h0 fun z => by rw [k.mpr z] at e; cases e
theorem nzL_mem {m : Bool} {n : Nat} : ∀ {ds : List D}, nzL m n ds = true ↔ ∀ d ∈ ds, nzD m n d = true
  | [] => by simp [nzL]
  | d :: ds => by simp only [nzL, Bool.and_eq_true, List.forall_mem_cons, nzL_mem]
theorem toPs_map : ∀ {ds : List D} {ps}, toPs ds = some ps → ps.length = ds.length ∧ ∀ i (h : i < ds.length) (h2 : i < ps.length), toP ds[i] = some ps[i]
  | [], ps, e => by simp only [toPs] at e; cases e; exact ⟨rfl, fun i h => by simp at h⟩
  | d :: ds, ps, e => by
    simp only [toPs] at e
    split at e
    · rename_i p ps' e1 e2
      cases e
      obtain ⟨l, k⟩ := toPs_map e2
      refine ⟨by simp [l], fun i h h2 => ?_⟩
      cases i with
      | zero => exact e1
      | succ i => exact k i (by simpa using h) (by simpa using h2)
    · cases e
theorem inD_nz {m : Bool} {x : D} {ys : List D} {P : Bool → Prop} (hx : nzD m 63 x = true) (hy : nzL m 63 ys = true) (h1 : x ∈ ys → P true) (h0 : x ∉ ys → P false) : oK (inD x (.lst ys)) P := by
  with_unfolding_all
    obtain ⟨p, ep, _⟩ := nz_toP hx
    obtain ⟨ps, eps, c, l⟩ := nz_toPs hy
    show oK (match toP x, toPs ys with
      | some p, some ps => if SeqAt.shaped p = true ∧ SeqAt.shaped (.list ps) = true then some (ps.any fun z => PyData.eqv z p) else none
      | _, _ => none) P
    rw [ep, eps]
    show oK (if _ then _ else _) P
    rw [if_pos ⟨nz_shaped (by omega) hx ep, by
      unfold SeqAt.shaped
      simp only [PyData.canLay0, c, Bool.true_and, PyData.depth]
      exact decide_eq_true (by omega)⟩]
    show P (ps.any _)
    have key : (ps.any fun z => PyData.eqv z p) = true ↔ x ∈ ys := by
      obtain ⟨l2, k⟩ := toPs_map eps
      rw [List.any_eq_true]
      constructor
      · rintro ⟨z, mz, ez⟩
        obtain ⟨i, hi, e⟩ := List.getElem_of_mem mz
        have hi2 : i < ys.length := by rw [← l2]; exact hi
        have := k i hi2 hi
        rw [e] at this
        have q := (nz_eqv (nzL_mem.mp hy _ (List.getElem_mem hi2)) hx this ep).mp ez
        rw [← q]; exact List.getElem_mem hi2
      · intro mx
        obtain ⟨i, hi, e⟩ := List.getElem_of_mem mx
        have hi2 : i < ps.length := by rw [l2]; exact hi
        refine ⟨ps[i], List.getElem_mem hi2, ?_⟩
        exact (nz_eqv (nzL_mem.mp hy _ (List.getElem_mem hi)) hx (k i hi hi2) ep).mpr e
    cases e : ps.any fun z => PyData.eqv z p with
    | true => exact h1 (key.mp e)
    | false => exact h0 fun z => by rw [key.mpr z] at e; cases e
theorem wpP :
    (∀ (x : Str) kvs P, oK (gIn2 [.str x, .dK kvs]) P = P (.bl (getDk kvs (.inr x)).isSome)) ∧ (∀ (x : Str) kvs P, oK (gNotIn2 [.str x, .dK kvs]) P = P (.bl (!(getDk kvs (.inr x)).isSome))) ∧
    (∀ x ys P, oK (gIn2 [x, .lst ys]) P = oK (inD x (.lst ys)) fun b => P (.bl b)) ∧ (∀ x ys P, oK (gNotIn2 [x, .lst ys]) P = oK (inD x (.lst ys)) fun b => P (.bl (!b))) ∧
    (∀ (x z : Str) P, oK (gIn2 [.str x, .str z]) P = P (.bl (strIn x z))) ∧ (∀ (x z : Str) P, oK (gNotIn2 [.str x, .str z]) P = P (.bl (!strIn x z))) ∧
    (∀ kvs (x : Str) P, oK (gSub [.dK kvs, .str x]) P = oK (getDk kvs (.inr x)) P) ∧
    (∀ (xs : List D) (i : Int) P, oK (gSub [.lst xs, .int i]) P = oK (atI xs i) P) ∧ (∀ (xs : List D) (i : Int) P, oK (gSub [.rol xs, .int i]) P = oK (atI xs i) P) ∧ (∀ (xs : List D) (i : Int) P, oK (gSub [.tup xs, .int i]) P = oK (atI xs i) P) ∧
    (∀ (z : Str) (i : Int) P, oK (gSub [.str z, .int i]) P = (z.length ≤ lim ∧ oK (atI z.cps.toList i) fun c => P (chD c))) ∧
    (∀ (xs : List D) (i : Int) P, oK (gSubO [.lst xs, .int i]) P = oK (atI xs i) P) ∧ (∀ kvs (x : Str) P, oK (gSubO [.dK kvs, .str x]) P = oK (getDk kvs (.inr x)) P) ∧
    (∀ kvs P, oK (gLen2 [.dK kvs]) P = P (.int kvs.length)) ∧ (∀ xs P, oK (gLen2 [.lst xs]) P = P (.int xs.length)) ∧ (∀ xs P, oK (gLen2 [.rol xs]) P = P (.int xs.length)) ∧ (∀ xs P, oK (gLen2 [.tup xs]) P = P (.int xs.length)) ∧
    (∀ (x : Str) P, oK (gLen2 [.str x]) P = (x.length ≤ lim ∧ P (.int x.length))) ∧
    (∀ cs x c P, oK (gIsi2 cs [x, c]) P = oK (tcD x) fun t => oK (clD c) fun u => oK (isB cs t u) fun b => P (.bl b)) ∧
    (∀ c f fs P, oK (gFld [c] f [.ins c fs]) P = oK (fs.lookup f) P) ∧
    (∀ kvs P, oK (nl gKeys [.dK kvs]) P = P (.lst (kvs.map fun kv => kD kv.1))) ∧
    (∀ xs ys P, oK (nl gCat [.lst xs, .lst ys]) P = (xs.length + ys.length ≤ lim ∧ P (.lst (xs ++ ys)))) ∧
    (∀ xs P, oK (nl gList [.lst xs]) P = P (.lst xs)) ∧ (∀ xs P, oK (nl gList [.tup xs]) P = P (.lst xs)) ∧
    (∀ xs P, oK (gTuple [.lst xs]) P = P (.tup xs)) ∧
    (∀ i P, oK (gInt [.int i]) P = P (.int i)) ∧ (∀ b P, oK (gInt [.bl b]) P = P (.int (if b then 1 else 0))) ∧
    (∀ xs P, oK (gSum [.lst xs]) P = oK (intsD xs) fun ns => P (.int ns.sum)) ∧
    (∀ lo hi xs P, oK (gSlL lo hi (.lst xs)) P = P (.lst (cutD xs lo hi))) := by
  with_unfolding_all
    refine ⟨?_, ?_, ?_, ?_, ?_, ?_, ?_, ?_, ?_, ?_, ?_, ?_, ?_, ?_, ?_, ?_, ?_, ?_, ?_, ?_, ?_, ?_, ?_, ?_, ?_, ?_, ?_, ?_, ?_⟩ <;> intros <;> try rfl
    · rename_i x ys P; show oK ((inD x (.lst ys)).map D.bl) P = _; cases inD x (.lst ys) <;> rfl
    · rename_i x ys P; show oK ((inD x (.lst ys)).map fun b => D.bl (!b)) P = _; cases inD x (.lst ys) <;> rfl
    · rename_i z i P; show oK (gIx [.str z, .int i]) P = _; unfold gIx; by_cases h : z.length ≤ lim
      · simp only [h, if_true, true_and]; cases atI z.cps.toList i <;> rfl
      · simp [h, oK]
    · rename_i x P; show oK (gLen [.str x]) P = _; unfold gLen; by_cases h : x.length ≤ lim <;> simp [h, oK]
    · rename_i cs x c P; unfold gIsi2; simp only; cases tcD x with
      | none => rfl
      | some t => simp only [Option.bind_some, oK]; cases clD c with
        | none => rfl
        | some u => simp only [Option.bind_some]; cases isB cs t u <;> rfl
    · rename_i c f fs P; unfold gFld; simp
    · rename_i xs ys P; unfold nl gCat; by_cases h : xs.length + ys.length ≤ lim <;> simp [h, oK]
    · rename_i xs P; show oK ((intsD xs).map fun ns => D.int ns.sum) P = _; cases intsD xs <;> rfl
/-- classes of data -/
theorem wpQ : (∀ x, tcD (.str x) = some (.inl "str")) ∧ (∀ x, tcD (.int x) = some (.inl "int")) ∧ (∀ x, tcD (.bl x) = some (.inl "bool")) ∧ (∀ x, tcD (.lst x) = some (.inl "list")) ∧ (∀ x, tcD (.rol x) = some (.inl "list")) ∧ (∀ x, tcD (.tup x) = some (.inl "tuple")) ∧ (∀ x, tcD (.dK x) = some (.inl "dict")) ∧ tcD .non = some (.inl "NoneType") ∧ (∀ c f, tcD (.ins c f) = some (.inr c)) ∧
    (∀ n, clD (.ty n) = some (.inl n)) ∧ (∀ c, clD (.cls c) = some (.inr c)) ∧
    (∀ cs, isB cs (.inl "str") (.inl "str") = some true) ∧ (∀ cs, isB cs (.inl "tuple") (.inl "tuple") = some true) ∧ (∀ cs, isB cs (.inl "list") (.inl "list") = some true) ∧ (∀ cs, isB cs (.inl "dict") (.inl "dict") = some true) ∧ (∀ cs, isB cs (.inl "int") (.inl "int") = some true) ∧ (∀ cs, isB cs (.inl "bool") (.inl "int") = some true) ∧ (∀ cs, isB cs (.inl "bool") (.inl "bool") = some true) ∧ (∀ cs, isB cs (.inl "int") (.inl "bool") = some false) := by
  refine ⟨fun _ => rfl, fun _ => rfl, fun _ => rfl, fun _ => rfl, fun _ => rfl, fun _ => rfl, fun _ => rfl, rfl, fun _ _ => rfl, fun _ => rfl, fun _ => rfl, ?_, ?_, ?_, ?_, ?_, ?_, ?_, ?_⟩ <;> intro cs <;> rfl
theorem wpW :
    (∀ as K xs d e, pK gApp as K [.lst xs, d] e = (xs.length < lim ∧ K .non (backE as [.lst (xs ++ [d]), d] e))) ∧
    (∀ as K xs e, pK (wrG gRev) as K [.lst xs] e = K .non (backE as [.lst xs.reverse] e)) ∧
    (∀ as K xs e, pK (wrG gClear) as K [.lst xs] e = K .non (backE as [.lst []] e)) ∧
    (∀ as K xs ys e, pK (wrG gExt) as K [.lst xs, .lst ys] e = (xs.length + ys.length ≤ lim ∧ K .non (backE as [.lst (xs ++ ys), .lst ys] e))) ∧
    (∀ xs d P, oK (gApp [.lst xs, d]) P = (xs.length < lim ∧ P (.non, [.lst (xs ++ [d]), d]))) := by
  with_unfolding_all
    refine ⟨?_, ?_, ?_, ?_, ?_⟩ <;> intros
    · rename_i as K xs d e; unfold pK gApp; by_cases h : xs.length < lim <;> simp [h, oK]
    · rfl
    · rfl
    · rename_i as K xs ys e; unfold pK wrG gExt; by_cases h : xs.length + ys.length ≤ lim <;> simp [h, oK]
    · rename_i xs d P; unfold gApp; by_cases h : xs.length < lim <;> simp [h, oK]
/-- a pure comprehension -/
theorem lc_pure {α β : Type} {own : List Nat} {tg : D → List D → Option (List D)} {c : M Bool} {f : M D} {K : List D → List D → Prop} {X : KX} {e0 : List D} (enc : α → D) (p : α → Bool) (g : α → β) (enc' : β → D) {L : List α}
    (step : ∀ x ∈ L, oK (tg (enc x) e0) fun e => Wp (c e) (fun b e => b = p x ∧ (if b = true then Wp (f e) (fun d e => d = enc' (g x) ∧ wipeE e own = e0) noX3 else wipeE e own = e0)) noX3)
    (fin : K (((L.filter p).map g).map enc') e0) : Wp (lcGo own tg c f (L.map enc) e0) K X := by
  with_unfolding_all
    refine lc_inv (fun i acc e => e = e0 ∧ acc = (((L.take i).filter p).map g).map enc') ⟨rfl, rfl⟩ (fun i x acc e hx ⟨he, ha⟩ => ?_) (fun acc e ⟨he, ha⟩ => ?_)
    · subst he ha
      rw [List.getElem?_map] at hx
      cases el : L[i]? with
      | none => rw [el] at hx; cases hx
      | some y =>
        rw [el] at hx; cases hx
        have hi : i < L.length := (List.getElem?_eq_some_iff.mp el).1
        have st := step y (List.mem_of_getElem? el)
        have tk : L.take (i + 1) = L.take i ++ [y] := by
          rw [List.take_succ, el]; rfl
        cases et : tg (enc y) e with
        | none => rw [et] at st; exact st.elim
        | some e1 =>
          rw [et] at st
          refine Wp.mono (show Wp (c e1) _ _ from st) (fun b e2 z => ?_) fun _ _ _ z => z
          obtain ⟨rfl, z⟩ := z
          by_cases hp : p y = true
          · rw [if_pos hp] at z ⊢
            refine Wp.mono (show Wp (f e2) _ _ from z) (fun d e3 z => ?_) fun _ _ _ z => z
            obtain ⟨rfl, z⟩ := z
            refine ⟨z, ?_⟩
            rw [tk, List.filter_append, List.map_append, List.map_append]
            simp [hp]
          · rw [if_neg hp] at z ⊢
            refine ⟨z, ?_⟩
            rw [tk, List.filter_append, List.map_append, List.map_append]
            simp [hp]
    · subst he ha
      rw [List.length_map, List.take_length]
      exact fin
end Rm
namespace Rm
open PySem PySem.Spec L2
/-- a loop over what is listed, by its items -/
theorem for_list {α : Type} {tg : D → List D → Option (List D)} {body : M Fl} {K : Fl → List D → Prop} {X : KX} (enc : α → D) {L : List α} {e : List D} (I : Nat → List D → Prop) (h0 : I 0 e)
    (step : ∀ (i : Nat) (x : α) e, L[i]? = some x → I i e → oK (tg (enc x) e) fun e => Wp (body e) (fun fl e => match fl with | .nx => I (i + 1) e | .ct => I (i + 1) e | .bk => K .nx e | .rt d => K (.rt d) e) X)
    (fin : ∀ e, I L.length e → K .nx e) : Wp (forGo tg body (L.map enc) e) K X := by
  with_unfolding_all
    refine for_inv I h0 (fun i x e hx hI => ?_) fun e hI => fin e (by rwa [List.length_map] at hI)
    rw [List.getElem?_map] at hx
    cases el : L[i]? with
    | none => rw [el] at hx; cases hx
    | some y => rw [el] at hx; cases hx; exact step i y e el hI
end Rm
namespace Rm
open PySem PySem.Spec L2
def slK (i : Nat) (d : D) (l h : Option Int) (K : D → List D → Prop) (e : List D) : Prop := match d with | .lst xs => K (.lst (cutD xs l h)) (e.set i (.lst xs)) | _ => False
def tmK (as : List Ak) (K : D → List D → Prop) (e : List D) (p : D × List D) : Prop := match p with | (d, _ :: os) => K d (backE as os e) | _ => False
def apK (i : Nat) (fe : M D) (e : List D) (K : D → List D → Prop) (X : KX) (l : D) : Prop := match l with | .lst ds => Wp (fe e) (fun d e => (ds.length < lim ∧ isL d = true) ∧ K .non (e.set i (.lst (ds ++ [d])))) X | _ => False
def clK (i : Nat) (e : List D) (K : D → List D → Prop) (l : D) : Prop := match l with | .lst _ => K .non (e.set i (.lst [])) | _ => False
def foK (i x : Nat) (fb : M Fl) (e : List D) (K : Fl → List D → Prop) (l : D) : Prop := match l with | .lst ds => ds.all isL = true ∧ Wp (forOGo x fb ds [] e) (fun ds' e' => K .nx (e'.set i (.lst ds'))) noX3 | _ => False
def nxO (K : Fl → List D → Prop) (fl : Fl) (e : List D) : Prop := match fl with | .nx => K .nx e | _ => False
def fiK (i : Nat) (g : D → List D → Option (List D)) (fb : M Fl) (e : List D) (K : Fl → List D → Prop) (ds : List D) (d : D) : Prop := match d with | .lst us => ds.all isL = true ∧ Wp (forGo g fb us e) (fun fl e' => nxO (fun fl e' => K fl (e'.set i (.lst ds))) fl e') noX3 | _ => False
def fiK0 (i : Nat) (k : Int) (g : D → List D → Option (List D)) (fb : M Fl) (e : List D) (K : Fl → List D → Prop) (l : D) : Prop := match l with | .lst ds => oK (atI ds k) (fiK i g fb e K ds) | _ => False
theorem wpX :
    (∀ (i fr e K X), Wp (aConsL i fr e) K X = Wp (fr e) (fun ds e => getK e[i]? fun d => K (d :: ds) e) X) ∧
    (∀ (i lo hi e K X), Wp (slOM i lo hi e) K X = getK e[i]? fun d => Wp (lo e) (fun l e => Wp (hi e) (fun h e => slK i d l h K e) X) X) ∧
    (∀ i xs l h K e, slK i (.lst xs) l h K e = K (.lst (cutD xs l h)) (e.set i (.lst xs))) ∧
    (∀ (T g as fo fr e K X), Wp (tmpM T g as fo fr e) K X = Wp (fo e) (fun d0 e => tyD T d0 = true ∧ Wp (fr e) (fun ds e => oK (g (d0 :: ds)) (tmK as K e)) X) X) ∧
    (∀ as K e d o os, tmK as K e (d, o :: os) = K d (backE as os e)) ∧
    (∀ (i fe e K X), Wp (appOM i fe e) K X = getK e[i]? (apK i fe e K X)) ∧
    (∀ i fe e K X ds, apK i fe e K X (.lst ds) = Wp (fe e) (fun d e => (ds.length < lim ∧ isL d = true) ∧ K .non (e.set i (.lst (ds ++ [d])))) X) ∧
    (∀ (i e K X), Wp (clrOM i e) K X = getK e[i]? (clK i e K)) ∧
    (∀ i e K ds, clK i e K (.lst ds) = K .non (e.set i (.lst []))) ∧
    (∀ (i x fb e K X), Wp (forOM i x fb e) K X = getK e[i]? (foK i x fb e K)) ∧
    (∀ i x fb e K ds, foK i x fb e K (.lst ds) = (ds.all isL = true ∧ Wp (forOGo x fb ds [] e) (fun ds' e' => K .nx (e'.set i (.lst ds'))) noX3)) ∧
    (∀ (i k g fb e K X), Wp (forIM i k g fb e) K X = getK e[i]? (fiK0 i k g fb e K)) ∧
    (∀ i k g fb e K ds, fiK0 i k g fb e K (.lst ds) = oK (atI ds k) (fiK i g fb e K ds)) ∧
    (∀ i g fb e K ds us, fiK i g fb e K ds (.lst us) = (ds.all isL = true ∧ Wp (forGo g fb us e) (fun fl e' => nxO (fun fl e' => K fl (e'.set i (.lst ds))) fl e') noX3)) ∧
    (∀ K e, nxO K .nx e = K .nx e) := by
  with_unfolding_all
    refine ⟨?_, ?_, fun _ _ _ _ _ _ => rfl, ?_, fun _ _ _ _ _ _ => rfl, ?_, fun _ _ _ _ _ _ => rfl, ?_, fun _ _ _ _ => rfl, ?_, fun _ _ _ _ _ _ => rfl, ?_, fun _ _ _ _ _ _ _ => rfl, fun _ _ _ _ _ _ _ => rfl, fun _ _ => rfl⟩
    · intro i fr e K X; unfold aConsL; rw [Wp.bind]; congr 1; funext ds e; cases e[i]? <;> rfl
    · intro i lo hi e K X; unfold slOM vr; cases e[i]? with
      | none => rfl
      | some d =>
        show Wp ((lo e).bind _) K X = Wp (lo e) _ X
        rw [Wp.bind]; congr 1; funext l e; rw [Wp.bind]; congr 1; funext h e; cases d <;> rfl
    · intro T g as fo fr e K X; unfold tmpM; rw [Wp.bind]; congr 1; funext d0 e; by_cases h : tyD T d0 = true
      · simp only [h, if_true, true_and]; rw [Wp.bind]; congr 1; funext ds e; cases g (d0 :: ds) with
        | none => rfl
        | some p => obtain ⟨d, os⟩ := p; cases os <;> rfl
      · simp [h, Wp]
    · intro i fe e K X; unfold appOM; cases e[i]? with
      | none => rfl
      | some l =>
        cases l <;> try rfl
        rename_i ds
        show Wp ((fe e).bind _) K X = Wp (fe e) _ X
        rw [Wp.bind]; congr 1; funext d e
        by_cases h : ds.length < lim ∧ isL d = true
        · rw [if_pos h]; exact propext ⟨fun z => ⟨h, z⟩, fun z => z.2⟩
        · rw [if_neg h]; exact propext ⟨fun z => z.elim, fun z => h z.1⟩
    · intro i e K X; unfold clrOM; cases e[i]? with
      | none => rfl
      | some l => cases l <;> rfl
    · intro i x fb e K X; unfold forOM; cases e[i]? with
      | none => rfl
      | some l =>
        cases l <;> try rfl
        rename_i ds
        show Wp (if ds.all isL = true then _ else _) K X = (ds.all isL = true ∧ _)
        by_cases h : ds.all isL = true
        · rw [if_pos h]
          refine propext ⟨fun z => ⟨h, ?_⟩, fun z => ?_⟩
          · cases eo : forOGo x fb ds [] e with
            | ok a e => rw [eo] at z; exact z
            | ex c fs e => rw [eo] at z; exact z
            | stuck => rw [eo] at z; exact z
          · have z := z.2
            cases eo : forOGo x fb ds [] e with
            | ok a e => rw [eo] at z; exact z
            | ex c fs e => rw [eo] at z; exact z.elim
            | stuck => rw [eo] at z; exact z
        · rw [if_neg h]; exact propext ⟨fun z => z.elim, fun z => h z.1⟩
    · intro i k g fb e K X; unfold forIM; cases e[i]? with
      | none => rfl
      | some l =>
        cases l <;> try rfl
        rename_i ds
        unfold getK fiK0
        simp only
        cases atI ds k with
        | none => rfl
        | some d =>
          cases d <;> try rfl
          rename_i us
          show Wp (if ds.all isL = true then _ else _) K X = (ds.all isL = true ∧ _)
          by_cases h : ds.all isL = true
          · rw [if_pos h]
            refine propext ⟨fun z => ⟨h, ?_⟩, fun z => ?_⟩
            · cases eo : forGo g fb us e with
              | ok a e => rw [eo] at z; cases a <;> exact z
              | ex c fs e => rw [eo] at z; exact z
              | stuck => rw [eo] at z; exact z
            · have z := z.2
              cases eo : forGo g fb us e with
              | ok a e => rw [eo] at z; cases a <;> exact z
              | ex c fs e => rw [eo] at z; exact z.elim
              | stuck => rw [eo] at z; exact z
          · rw [if_neg h]; exact propext ⟨fun z => z.elim, fun z => h z.1⟩
end Rm
namespace Rm
open PySem PySem.Spec L2
def voK (K : D → List D → Prop) (e : List D) (d : D) : Prop := match d with | .lst ds => ttL ds = true ∧ K (.lst ds) e | _ => False
theorem wpY :
    (∀ (g tg body e K X), Wp (forIT g tg body e) K X = oK (g e) fun d => oK (itemsD d) fun ks => Wp (forGo tg body ks e) K noX3) ∧
    (∀ (g own tg c f e K X), Wp (lcIT g own tg c f e) K X = oK (g e) fun d => oK (itemsD d) fun ks => ks.length ≤ lim ∧ Wp (lcGo own tg c f ks (wipeE e own)) (fun ds e => K (.lst ds) e) noX3) ∧
    (∀ (kvs : List (Key × D)) P, oK (itemsD (.dK kvs)) P = P (kvs.map fun kv => .tup [kD kv.1, kv.2])) ∧
    (∀ (f e K X), Wp (viewOM f e) K X = Wp (f e) (fun d _ => voK K e d) noX3) ∧ (∀ K e ds, voK K e (.lst ds) = (ttL ds = true ∧ K (.lst ds) e)) ∧
    (∀ (f e K X), Wp (viewTM f e) K X = Wp (f e) (fun d _ => ttD d = true ∧ K d e) noX3) := by
  with_unfolding_all
    refine ⟨?_, ?_, fun _ _ => rfl, ?_, fun _ _ _ => rfl, ?_⟩
    · intro g tg body e K X; unfold forIT forM' itM; rw [Wp.noX, Wp.bind]; cases g e with
      | none => rfl
      | some d => simp only [oK]; cases itemsD d <;> rfl
    · intro g own tg c f e K X; unfold lcIT lcM itM; rw [Wp.noX, Wp.bind]; cases g e with
      | none => rfl
      | some d =>
        simp only [oK]; cases itemsD d with
        | none => rfl
        | some ks =>
          simp only [Wp]
          by_cases h : ks.length ≤ lim
          · simp only [h, if_true, true_and]
            exact Wp.bind _ _ _ _
          · simp only [h, if_false, false_and]; rfl
    · intro f e K X; unfold viewOM; cases f e with
      | ok d e1 =>
        cases d <;> try rfl
        rename_i ds
        show Wp (if ttL ds = true then Out.ok (D.lst ds) e else .stuck) K X = (ttL ds = true ∧ K (.lst ds) e)
        by_cases h : ttL ds = true
        · rw [if_pos h]; exact propext ⟨fun z => ⟨h, z⟩, fun z => z.2⟩
        · rw [if_neg h]; exact propext ⟨fun z => z.elim, fun z => h z.1⟩
      | ex c fs e1 => rfl
      | stuck => rfl
    · intro f e K X; unfold viewTM; cases f e with
      | ok d e1 =>
        show Wp (if ttD d = true then Out.ok d e else .stuck) K X = (ttD d = true ∧ K d e)
        by_cases h : ttD d = true
        · rw [if_pos h]; exact propext ⟨fun z => ⟨h, z⟩, fun z => z.2⟩
        · rw [if_neg h]; exact propext ⟨fun z => z.elim, fun z => h z.1⟩
      | ex c fs e1 => rfl
      | stuck => rfl
end Rm
namespace Rm
open PySem PySem.Spec L2
def kgK (kvs : List (Str × Int)) (K : D → List D → Prop) (d d2 : D) (e : List D) : Prop := match d with | .str z => K (match kvs.lookup z with | some k => .int k | none => d2) e | _ => False
theorem wpV :
    (∀ (kvs fe ff e K X), Wp (kgetM kvs fe ff e) K X = Wp (fe e) (fun d e => Wp (ff e) (fun d2 e => kgK kvs K d d2 e) X) X) ∧
    (∀ kvs K z d2 e, kgK kvs K (.str z) d2 e = K (match kvs.lookup z with | some k => .int k | none => d2) e) ∧
    (∀ (i a b fe e K X), Wp (swapM i a b fe e) K X = Wp (fe e) (fun d e => oK (swapR i a b d e) fun e => K .nx e) X) ∧
    (∀ a b P, oK (gStarts [.str a, .str b]) P = P (.bl (Txt.startswith a b))) := by
  with_unfolding_all
    refine ⟨?_, fun _ _ _ _ _ => rfl, ?_, fun _ _ _ => rfl⟩
    · intro kvs fe ff e K X; unfold kgetM; rw [Wp.bind]; congr 1; funext d e; rw [Wp.bind]; congr 1; funext d2 e
      cases d <;> rfl
    · intro i a b fe e K X; unfold swapM; rw [Wp.bind]; congr 1; funext d e
      cases swapR i a b d e <;> rfl
theorem inT_strs {x : Str} {l : List Str} {P : D → Prop} (hx : PyData.strOk x = true) (hl : ∀ y ∈ l, PyData.strOk y = true) (k : P (.bl (decide (x ∈ l)))) : oK (gIn2 [.str x, .tup (l.map .str)]) P := by
  have nx : nzD false 63 (.str x) = true := by simp only [nzD, hx]
  have nl : nzL false 63 (l.map D.str) = true := nzL_mem.mpr fun d hd => by obtain ⟨y, my, rfl⟩ := List.mem_map.mp hd; simp only [nzD, hl y my]
  have fl : (l.map D.str).all flatD = true := List.all_eq_true.mpr fun d hd => by obtain ⟨y, _, rfl⟩ := List.mem_map.mp hd; rfl
  obtain ⟨p, ep, _⟩ := nz_toP nx
  obtain ⟨ps, eps, c, lw⟩ := nz_toPs nl
  obtain ⟨l2, kk⟩ := toPs_map eps
  have key : (ps.any fun z => PyData.eqv z p) = decide (x ∈ l) := by
    rw [Bool.eq_iff_iff, decide_eq_true_eq, List.any_eq_true]
    constructor
    · rintro ⟨z, mz, ez⟩
      obtain ⟨i, hi, e⟩ := List.getElem_of_mem mz
      have hi2 : i < (l.map D.str).length := by rw [← l2]; exact hi
      have := kk i hi2 hi
      rw [e] at this
      have q := (nz_eqv (nzL_mem.mp nl _ (List.getElem_mem hi2)) nx this ep).mp ez
      rw [List.getElem_map] at q
      rw [← D.str.inj q]
      exact List.getElem_mem _
    · intro mx
      obtain ⟨i, hi, e⟩ := List.getElem_of_mem (List.mem_map.mpr ⟨x, mx, rfl⟩ : D.str x ∈ l.map D.str)
      have hi2 : i < ps.length := by rw [l2]; exact hi
      exact ⟨ps[i], List.getElem_mem hi2, (nz_eqv (nzL_mem.mp nl _ (List.getElem_mem hi)) nx (kk i hi hi2) ep).mpr e⟩
  have e : gIn2 [.str x, .tup (l.map .str)] = some (.bl (decide (x ∈ l))) := by
    show (if flatD (.str x) = true ∧ (l.map D.str).all flatD = true then match toP (.str x), toPs (l.map D.str) with | some p, some ps => some (ps.any fun z => PyData.eqv z p) | _, _ => none else none).map D.bl = _
    rw [if_pos ⟨rfl, fl⟩, ep, eps]
    simp only [key]
    rfl
  rw [e]
  exact k
end Rm
namespace Rm
open PySem PySem.Spec L2
def orK (fb : M D) (K : D → List D → Prop) (X : KX) (d : D) (e : List D) : Prop := oK (truD d) fun b => if b = true then K d e else Wp (fb e) K X
def anK (fb : M D) (K : D → List D → Prop) (X : KX) (d : D) (e : List D) : Prop := oK (truD d) fun b => if b = true then Wp (fb e) K X else K d e
def vaK (i : Nat) (e : List D) (K : Fl → List D → Prop) (d : D) : Prop := match d with | .lst ds => ttL ds = true ∧ K .nx (e.set i (.lst ds)) | _ => False
def nyK (P : List D → Prop) (fl : Fl) (e : List D) : Prop := match fl with | .nx => P e | _ => False
def tkK (n : Nat) (e : List D) (K : D → List D → Prop) (d : D) : Prop := match d with | .tup ds => getK ds[n]? fun d => K d e | _ => False
def roK (K : D → List D → Prop) (d : D) (e : List D) : Prop := match d with | .lst ds => K (.rol ds) e | .rol ds => K (.rol ds) e | _ => False
theorem wpU :
    (∀ (fa fb e K X), Wp (orM fa fb e) K X = Wp (fa e) (orK fb K X) X) ∧
    (∀ (fa fb e K X), Wp (andM fa fb e) K X = Wp (fa e) (anK fb K X) X) ∧
    (∀ fb K X e, orK fb K X .non e = Wp (fb e) K X) ∧
    (∀ fb K X x xs e, orK fb K X (.lst (x :: xs)) e = K (.lst (x :: xs)) e) ∧
    (∀ fb K X e, orK fb K X (.lst []) e = Wp (fb e) K X) ∧
    (∀ fb K X x xs e, orK fb K X (.tup (x :: xs)) e = K (.tup (x :: xs)) e) ∧
    (∀ xs ys P, oK (wrG gExt [.lst xs, .lst ys]) P = (xs.length + ys.length ≤ lim ∧ P (.non, [.lst (xs ++ ys), .lst ys]))) ∧
    (∀ (i f e K X), Wp (viewAM i f e) K X = Wp (f e) (nyK fun e' => getK e'[i]? (vaK i e K)) noX3) ∧
    (∀ P e, nyK P .nx e = P e) ∧
    (∀ i e K ds, vaK i e K (.lst ds) = (ttL ds = true ∧ K .nx (e.set i (.lst ds)))) ∧
    (∀ (i n e K X), Wp (takeM i n e) K X = getK e[i]? (tkK n e K)) ∧
    (∀ n e K ds, tkK n e K (.tup ds) = getK ds[n]? fun d => K d e) ∧
    (∀ (f e K X), Wp (rolM f e) K X = Wp (f e) (roK K) X) ∧
    (∀ K ds e, roK K (.lst ds) e = K (.rol ds) e) ∧
    (∀ K ds e, roK K (.rol ds) e = K (.rol ds) e) ∧
    (∀ (a : Addr) d d' P, oK (gEqT [.lst [.tok a d], .lst [.tok a d']]) P = P (.bl true)) ∧
    (∀ n P, oK (nl rngL1 [.int n]) P = ((-(lim : Int) ≤ n ∧ n ≤ lim) ∧ P (.lst (rngD 0 n.toNat)))) ∧
    (∀ xs P, oK (nl gRevL [.lst xs]) P = P (.lst xs.reverse)) ∧
    (∀ xs P, oK (gNeL0 [.lst xs, .lst []]) P = P (.bl (!xs.isEmpty))) ∧
    (∀ xs P, oK (gEqL0 [.lst xs, .lst []]) P = P (.bl xs.isEmpty)) ∧
    (∀ xs P, oK (gEqL0 [.rol xs, .lst []]) P = P (.bl xs.isEmpty)) := by
  with_unfolding_all
    refine ⟨?_, ?_, fun _ _ _ _ => rfl, fun _ _ _ _ _ _ => rfl, fun _ _ _ _ => rfl, fun _ _ _ _ _ _ => rfl, ?_, ?_, fun _ _ => rfl, fun _ _ _ _ => rfl, ?_, fun _ _ _ _ => rfl, ?_, fun _ _ _ => rfl, fun _ _ _ => rfl, ?_, ?_, fun _ _ => rfl, fun _ _ => rfl, fun _ _ => rfl, fun _ _ => rfl⟩
    · intro fa fb e K X; unfold orM; rw [Wp.bind]; congr 1; funext d e; unfold orK; cases truD d with
      | none => rfl
      | some b => cases b <;> rfl
    · intro fa fb e K X; unfold andM; rw [Wp.bind]; congr 1; funext d e; unfold anK; cases truD d with
      | none => rfl
      | some b => cases b <;> rfl
    · intro xs ys P
      unfold wrG gExt
      by_cases h : xs.length + ys.length ≤ lim <;> simp [h, oK]
    · intro i f e K X
      unfold viewAM
      cases f e with
      | stuck => rfl
      | ex c fs e1 => rfl
      | ok fl e1 =>
        cases fl with
        | nx =>
          show Wp (match e1[i]? with | some (.lst ds) => if ttL ds = true then Out.ok Fl.nx (e.set i (.lst ds)) else .stuck | _ => .stuck) K X = getK e1[i]? (vaK i e K)
          cases e1[i]? with
          | none => rfl
          | some d =>
            cases d <;> try rfl
            rename_i ds
            show Wp (if ttL ds = true then Out.ok Fl.nx (e.set i (.lst ds)) else .stuck) K X = (ttL ds = true ∧ K .nx (e.set i (.lst ds)))
            by_cases h : ttL ds = true
            · rw [if_pos h]; exact propext ⟨fun z => ⟨h, z⟩, fun z => z.2⟩
            · rw [if_neg h]; exact propext ⟨fun z => z.elim, fun z => h z.1⟩
        | _ => rfl
    · intro i n e K X
      unfold takeM
      cases e[i]? with
      | none => rfl
      | some d =>
        cases d <;> try rfl
        rename_i ds
        show Wp (match ds[n]? with | some d => Out.ok d e | none => .stuck) K X = getK ds[n]? fun d => K d e
        cases ds[n]? <;> rfl
    · intro f e K X; unfold rolM; rw [Wp.bind]; congr 1; funext d e; cases d <;> rfl
    · intro a d d' P
      show oK (if a = a then some (D.bl true) else none) P = _
      rw [if_pos rfl]; rfl
    · intro n P
      show oK ((if -(lim : Int) ≤ n ∧ n ≤ lim then some (rngD 0 n.toNat) else none).map D.lst) P = _
      by_cases h : -(lim : Int) ≤ n ∧ n ≤ lim
      · rw [if_pos h]; exact propext ⟨fun z => ⟨h, z⟩, fun z => z.2⟩
      · rw [if_neg h]; exact propext ⟨fun z => z.elim, fun z => h z.1⟩
end Rm
namespace Rm
open PySem PySem.Spec L2
def dosK (i : Nat) (K : Fl → List D → Prop) (d : D) (e : List D) (k : Key) (l : D) : Prop := match l with | .dK ds => ds.length < lim ∧ getDk ds k = none ∧ K .nx (e.set i (.dK (ds ++ [(k, d)]))) | _ => False
def apdK (i : Nat) (K : D → List D → Prop) (d : D) (e : List D) (k : Key) (ds : List (Key × D)) : Prop := oK (appAt k d ds) fun ds' => K .non (e.set i (.dK ds'))
def akdK (i : Nat) (fe : M D) (K : D → List D → Prop) (X : KX) (e : List D) (k : Key) (l : D) : Prop := match l with
  | .dK ds => ((ds.map (·.2)).all isL = true ∧ (keyAt k ds).isSome = true) ∧ Wp (fe e) (fun d e => apdK i K d e k ds) X
  | _ => False
theorem wpH :
    (∀ (f e K X), Wp (dispM f e) K X = Wp (f e) (fun l e => (l.map (·.1)).Nodup ∧ K (.dK l) e) X) ∧
    (∀ (fk fv fr e K X), Wp (pCons fk fv fr e) K X = Wp (fk e) (fun k e => Wp (fv e) (fun d e => oK (keyD k) fun k => Wp (fr e) (fun r e => K ((k, d) :: r) e) X) X) X) ∧
    (∀ (e K X), Wp (pNil e) K X = K [] e) ∧
    (∀ (i gk fe e K X), Wp (setDO i gk fe e) K X = Wp (fe e) (fun d e => getK e[i]? fun l => oK ((gk e).bind keyD) fun k => dosK i K d e k l) X) ∧
    (∀ (i K d e k ds), dosK i K d e k (.dK ds) = (ds.length < lim ∧ getDk ds k = none ∧ K .nx (e.set i (.dK (ds ++ [(k, d)]))))) ∧
    (∀ (i n gs gk fe e K X), Wp (setPM i n gs gk fe e) K X = Wp (fe e) (fun d e => getK e[i]? fun df => oK (gs e) fun p => oK ((gk e).bind keyD) fun k => oK (putP p k d df) fun df' => oK (lenP p df) fun l => (p.length = n ∧ l < lim) ∧ K .nx (e.set i df')) X) ∧
    (∀ (i gk fe e K X), Wp (appKM i gk fe e) K X = getK e[i]? fun l => oK ((gk e).bind keyD) fun k => akdK i fe K X e k l) ∧
    (∀ (i fe K X e k ds), akdK i fe K X e k (.dK ds) = (((ds.map (·.2)).all isL = true ∧ (keyAt k ds).isSome = true) ∧ Wp (fe e) (fun d e => apdK i K d e k ds) X)) ∧
    (∀ xs P, oK (nk gDictP [.lst xs]) P = (xs.length ≤ lim ∧ oK (pairsD xs) fun l => P (.dK (mergeD [] l)))) ∧
    (∀ kvs P, oK (nk gDictD [.dK kvs]) P = P (.dK kvs)) ∧
    (∀ n g ds e P, oK (tNL n g (.lst ds) e) P = (ds.length = n ∧ oK (g ds e) P)) ∧
    (∀ xs P, oK (gMinL [.lst xs]) P = oK (intsD xs) fun ns => oK (minL ns) fun m => P (.int m)) ∧
    (∀ xs P, oK (gMaxL [.lst xs]) P = oK (intsD xs) fun ns => oK (maxL ns) fun m => P (.int m)) ∧
    (∀ xs P, oK (gAllL [.lst xs]) P = oK (boolsD xs) fun ns => P (.bl (ns.all id))) ∧
    (∀ xs i d P, oK (wrG gIns [.lst xs, .int i, d]) P = (((inLim i = true ∧ 0 ≤ i) ∧ xs.length < lim) ∧ P (.non, [.lst (xs.take i.toNat ++ [d] ++ xs.drop i.toNat), .int i, d]))) := by
  with_unfolding_all
    refine ⟨?_, ?_, fun _ _ _ => rfl, ?_, fun _ _ _ _ _ _ => rfl, ?_, ?_, fun _ _ _ _ _ _ _ => rfl, ?_, fun _ _ => rfl, ?_, ?_, ?_, ?_, ?_⟩
    · intro f e K X; unfold dispM; rw [Wp.bind]; congr 1; funext l e
      by_cases h : (l.map (·.1)).Nodup
      · rw [if_pos h]; exact propext ⟨fun z => ⟨h, z⟩, fun z => z.2⟩
      · rw [if_neg h]; exact propext ⟨fun z => z.elim, fun z => h z.1⟩
    · intro fk fv fr e K X; unfold pCons; rw [Wp.bind]; congr 1; funext k e; rw [Wp.bind]; congr 1; funext d e
      cases keyD k with
      | none => rfl
      | some k =>
        show Wp ((fr e).bind _) K X = Wp (fr e) _ X
        rw [Wp.bind]; rfl
    · intro i gk fe e K X; unfold setDO; rw [Wp.bind]; congr 1; funext d e
      cases e[i]? with
      | none => rfl
      | some l =>
        cases (gk e).bind keyD with
        | none => cases l <;> rfl
        | some k =>
          cases l <;> try rfl
          rename_i ds
          show Wp (if ds.length < lim ∧ getDk ds k = none then Out.ok Fl.nx (e.set i (.dK (ds ++ [(k, d)]))) else .stuck) K X = (ds.length < lim ∧ getDk ds k = none ∧ K .nx (e.set i (.dK (ds ++ [(k, d)]))))
          by_cases h : ds.length < lim ∧ getDk ds k = none
          · rw [if_pos h]; exact propext ⟨fun z => ⟨h.1, h.2, z⟩, fun z => z.2.2⟩
          · rw [if_neg h]; exact propext ⟨fun z => z.elim, fun z => h ⟨z.1, z.2.1⟩⟩
    · intro i n gs gk fe e K X; unfold setPM; rw [Wp.bind]; congr 1; funext d e
      cases e[i]? with
      | none => rfl
      | some df =>
        cases gs e with
        | none => rfl
        | some p =>
          cases (gk e).bind keyD with
          | none => rfl
          | some k =>
            show Wp (match putP p k d df, lenP p df with | some df', some l => if p.length = n ∧ l < lim then Out.ok Fl.nx (e.set i df') else .stuck | _, _ => .stuck) K X = oK (putP p k d df) fun df' => oK (lenP p df) fun l => (p.length = n ∧ l < lim) ∧ K .nx (e.set i df')
            cases putP p k d df with
            | none => rfl
            | some df' =>
              cases lenP p df with
              | none => rfl
              | some l =>
                show Wp (if p.length = n ∧ l < lim then Out.ok Fl.nx (e.set i df') else .stuck) K X = ((p.length = n ∧ l < lim) ∧ K .nx (e.set i df'))
                by_cases h : p.length = n ∧ l < lim
                · rw [if_pos h]; exact propext ⟨fun z => ⟨h, z⟩, fun z => z.2⟩
                · rw [if_neg h]; exact propext ⟨fun z => z.elim, fun z => h z.1⟩
    · intro i gk fe e K X; unfold appKM
      cases e[i]? with
      | none => rfl
      | some l =>
        cases (gk e).bind keyD with
        | none => cases l <;> rfl
        | some k =>
          cases l <;> try rfl
          rename_i ds
          show Wp (if (ds.map (·.2)).all isL = true ∧ (keyAt k ds).isSome = true then (fe e).bind fun d e => (match appAt k d ds with | some ds' => (Out.ok D.non (e.set i (.dK ds')) : Out D) | none => .stuck) else .stuck) K X = (((ds.map (·.2)).all isL = true ∧ (keyAt k ds).isSome = true) ∧ Wp (fe e) (fun d e => apdK i K d e k ds) X)
          by_cases h : (ds.map (·.2)).all isL = true ∧ (keyAt k ds).isSome = true
          · rw [if_pos h, Wp.bind]
            have : Wp (fe e) (fun d e => Wp (match appAt k d ds with | some ds' => (Out.ok D.non (e.set i (.dK ds')) : Out D) | none => .stuck) K X) X = Wp (fe e) (fun d e => apdK i K d e k ds) X := by
              congr 1; funext d e; unfold apdK; cases appAt k d ds <;> rfl
            rw [this]
            exact propext ⟨fun z => ⟨h, z⟩, fun z => z.2⟩
          · rw [if_neg h]; exact propext ⟨fun z => z.elim, fun z => h z.1⟩
    · intro xs P
      show oK ((if xs.length ≤ lim then (pairsD xs).map (mergeD []) else none).map D.dK) P = _
      by_cases h : xs.length ≤ lim
      · rw [if_pos h]
        cases pairsD xs with
        | none => exact propext ⟨fun z => z.elim, fun z => z.2.elim⟩
        | some l => exact propext ⟨fun z => ⟨h, z⟩, fun z => z.2⟩
      · rw [if_neg h]; exact propext ⟨fun z => z.elim, fun z => h z.1⟩
    · intro n g ds e P
      show oK (if ds.length = n then g ds e else none) P = _
      by_cases h : ds.length = n
      · rw [if_pos h]; exact propext ⟨fun z => ⟨h, z⟩, fun z => z.2⟩
      · rw [if_neg h]; exact propext ⟨fun z => z.elim, fun z => h z.1⟩
    · intro xs P
      show oK ((intsD xs).bind fun ns => (minL ns).map D.int) P = _
      cases intsD xs with
      | none => rfl
      | some ns =>
        show oK ((minL ns).map D.int) P = oK (minL ns) fun m => P (.int m)
        cases minL ns <;> rfl
    · intro xs P
      show oK ((intsD xs).bind fun ns => (maxL ns).map D.int) P = _
      cases intsD xs with
      | none => rfl
      | some ns =>
        show oK ((maxL ns).map D.int) P = oK (maxL ns) fun m => P (.int m)
        cases maxL ns <;> rfl
    · intro xs P
      show oK ((boolsD xs).map fun bs => D.bl (bs.all id)) P = _
      cases boolsD xs <;> rfl
    · intro xs i d P
      show oK ((if (inLim i = true ∧ 0 ≤ i) ∧ xs.length < lim then some (D.non, xs.take i.toNat ++ [d] ++ xs.drop i.toNat) else none).map fun p => (p.1, D.lst p.2 :: [D.int i, d])) P = _
      by_cases h : (inLim i = true ∧ 0 ≤ i) ∧ xs.length < lim
      · rw [if_pos h]; exact propext ⟨fun z => ⟨h, z⟩, fun z => z.2⟩
      · rw [if_neg h]; exact propext ⟨fun z => z.elim, fun z => h z.1⟩
/-- xs.pop(i), i within -/
theorem popAt_wp {xs : List D} {i : Nat} {P : D × List D → Prop} (hi : i < xs.length) (hl : xs.length ≤ lim) (k : P (xs[i], [.lst (xs.eraseIdx i), .int (i : Int)])) : oK (wrG gPopAt [.lst xs, .int (i : Int)]) P := by
  have h1 : inLim (i : Int) = true := by unfold inLim; rw [decide_eq_true_eq]; have e : (lim : Int) = 1000000 := rfl; have e2 : lim = 1000000 := rfl; omega
  have h2 : seqIndex? (i : Int) xs.length = some i := by
    have : ixN xs.length (i : Int) = some i := by unfold ixN; rw [if_pos (by omega), if_pos (by omega)]; simp
    exact (ixN_seq this).1
  have e : wrG gPopAt [.lst xs, .int (i : Int)] = some (xs[i], [.lst (xs.eraseIdx i), .int (i : Int)]) := by
    unfold wrG gPopAt
    simp only [h1, if_true, h2, Option.bind_some, List.getElem?_eq_getElem hi, Option.map_some]
  rw [e]
  exact k
end Rm
namespace Rm
open PySem PySem.Spec L2
theorem wpL : (∀ (i : Nat) (e : List D) (K : D → List D → Prop) (X : KX), Wp (vrU i e) K X = getK e[i]? fun d => K (utD d) e) ∧ (∀ (a : Addr) (d : D), utD (.tok a d) = d) := by
  refine ⟨fun i e K X => ?_, fun _ _ => rfl⟩
  unfold vrU
  cases e[i]? <;> with_unfolding_all rfl
end Rm
namespace RP
open PySem PySem.Spec L2 Rm
open SX (S join_S S_cat S_tl S_len)
variable {clt : ClT}
theorem box_w {x : Int} {K X} (k : ∀ d', Bx3 0 d' → K d' [.int x]) : Wp (F_l_box clt [.int x]) K X := box_wp k
theorem cell_w {ns : List Int} {i : Nat} {K X} (hi : i < 2 ^ 40) (k : ∀ x : Int, K (.int x) [scr ns, .int i]) : Wp (F_l_cell clt [scr ns, .int i]) K X := by
  unfold F_l_cell b_l_cell
  unfold scr at k ⊢
  try simp only [wipeE, Option.isSome_none, Option.isSome_some, Option.bind_some, ↓wpF, List.replicate, List.cons_append, List.nil_append, List.append_nil, ↓wpS, ↓wpN, ↓wpE, wpB, List.set_cons_zero, List.set_cons_succ, ↓wpO, ↓wpP, ↓wpW, ↓wpR, ↓wpD, ↓wpC, wpT, wpQ, true_and, wpA, ↓wpI, decide_eq_true_eq, Bool.not_true, Bool.not_false, if_true, Bool.false_eq_true, if_false, List.take_succ_cons, List.take_zero]
  by_cases h : i < ns.length
  · rw [if_pos (by simpa using h), atI_lt (by simpa using h)]
    simpa using k _
  · rw [if_neg (by simpa using h)]
    exact ⟨.inl (by decide), k _⟩
abbrev cd (x : Str) : List Nat := x.cps.toList
def az : Str := ("abcdefghijklmnopqrstuvwxyz" : Str)
theorem az_cd : cd az = (List.range 26).map (97 + ·) := by decide +kernel
theorem az_get {i : Nat} (h : i < (cd az).length) : (cd az)[i] = 97 + i := by
  have e := az_cd
  have : (cd az)[i]? = some (97 + i) := by
    rw [e, List.getElem?_map]
    have hi : i < 26 := by rw [e] at h; simpa using h
    rw [List.getElem?_range hi]; rfl
  rw [List.getElem?_eq_getElem h] at this
  exact Option.some.inj this
theorem az_len : (cd az).length = 26 := by rw [az_cd]; simp
theorem cd_cat (x y : Str) : cd (x ++ y) = cd x ++ cd y := by
  have e : x ++ y = S (cd x ++ cd y) := S_cat (cd x) (cd y)
  rw [e]
theorem cd_len (x : Str) : (cd x).length = x.length := by simp [Str.length]
theorem cd_S (l : List Nat) : cd (S l) = l := rfl
theorem cd_ch (c : Nat) : cd (⟨#[c]⟩ : Str) = [c] := rfl
theorem cd_cut (z : Str) (lo hi : Option Int) : cd (cutS z lo hi) = ((cd z).drop (HT.sIx z.length 0 lo)).take (HT.sIx z.length z.length hi - HT.sIx z.length 0 lo) := rfl
theorem sIx_nat {n d i : Nat} : HT.sIx n d (some (i : Int)) = min i n := by
  show (if (i : Int) < 0 then ((i : Int) + (n : Int)).toNat else min (i : Int).toNat n) = _
  rw [if_neg (by omega)]; simp
theorem sIx_none {n d : Nat} : HT.sIx n d none = d := rfl
theorem cd_take (z : Str) (i : Nat) : cd (cutS z none (some (i : Int))) = (cd z).take i := by
  rw [cd_cut, sIx_none, sIx_nat, List.drop_zero, Nat.sub_zero, ← cd_len]
  by_cases h : i ≤ (cd z).length
  · rw [Nat.min_eq_left h]
  · rw [Nat.min_eq_right (by omega), List.take_of_length_le (Nat.le_refl _), List.take_of_length_le (by omega)]
/-- a good name -/
structure Nm (x : Str) : Prop where
  pos : 1 ≤ x.length
  le : x.length ≤ 6
  az : ∀ c ∈ cd x, 97 ≤ c ∧ c ≤ 122
theorem Nm.pl {x : Str} (h : Nm x) : Pl x := fun c m => by have := h.az c m; omega
theorem Nm.ok {x : Str} (h : Nm x) : PyData.strOk x = true := by
  have := h.pl.ok
  simpa only [PyData.canLay0] using this
theorem nz_str {m n} {x : Str} (h : Nm x) : nzD m n (.str x) = true := by cases n <;> simp only [nzD, h.ok]
theorem nz_strs {m n} {ns : List Str} (h : ∀ x ∈ ns, Nm x) : nzL m n (ns.map .str) = true := nzL_mem.mpr fun d hd => by
  obtain ⟨x, mx, rfl⟩ := List.mem_map.mp hd
  exact nz_str (h x mx)
/-- good names, none twice -/
structure GN (ns : List Str) : Prop where
  nd : ns.Nodup
  ok : ∀ x ∈ ns, Nm x
theorem rng_map {n : Nat} : rngD 0 n = (List.range n).map fun (k : Nat) => D.int (k : Int) := by
  unfold rngD
  refine List.map_congr_left fun k _ => ?_
  simp
theorem nodup_map {α β : Type} {f : α → β} : ∀ {l : List α}, l.Nodup → (∀ a ∈ l, ∀ b ∈ l, f a = f b → a = b) → (l.map f).Nodup
  | [], _, _ => .nil
  | a :: l, h, i => by
    rw [List.nodup_cons] at h
    rw [List.map_cons, List.nodup_cons]
    refine ⟨fun m => ?_, nodup_map h.2 fun x hx y hy => i x (List.mem_cons_of_mem _ hx) y (List.mem_cons_of_mem _ hy)⟩
    obtain ⟨b, mb, e⟩ := List.mem_map.mp m
    have := i b (List.mem_cons_of_mem _ mb) a (List.mem_cons_self ..) e
    subst this
    exact h.1 mb
/-- the invariant of drawing names -/
structure NI (mode at_ first : Nat) (i : Nat) (ns : List Str) : Prop where
  len : ns.length = i
  gn : GN ns
  m1 : mode = 1 → ∀ x ∈ ns, ∃ j < i, (cd x)[at_]? = some (97 + (first + 7 * j) % 26)
  m2 : mode = 2 → i ≤ 6 → ∀ x ∈ ns, 7 ≤ x.length + i
theorem NI.snoc {mode at_ first i ns x} (h : NI mode at_ first i ns) (ok : Nm x) (nx : x ∉ ns) (h1 : mode = 1 → (cd x)[at_]? = some (97 + (first + 7 * i) % 26)) (h2 : mode = 2 → i < 6 → x.length + i = 6) : NI mode at_ first (i + 1) (ns ++ [x]) := by
  refine ⟨by simp [h.len], ⟨?_, ?_⟩, ?_, ?_⟩
  · rw [List.nodup_append]
    exact ⟨h.gn.nd, by simp, fun a ha b hb => by
      rw [List.mem_singleton] at hb
      rintro rfl
      exact nx (hb ▸ ha)⟩
  · intro y m
    rcases List.mem_append.mp m with m | m
    · exact h.gn.ok y m
    · rw [List.mem_singleton.mp m]; exact ok
  · intro e y m
    rcases List.mem_append.mp m with m | m
    · obtain ⟨j, hj, q⟩ := h.m1 e y m
      exact ⟨j, by omega, q⟩
    · rw [List.mem_singleton.mp m]
      exact ⟨i, by omega, h1 e⟩
  · intro e l y m
    rcases List.mem_append.mp m with m | m
    · have := h.m2 e (by omega) y m; omega
    · rw [List.mem_singleton.mp m]
      have := h2 e (by omega); omega
theorem List.Subset.nodup_length_le {α : Type} [DecidableEq α] : ∀ {a b : List α}, a.Nodup → (∀ x ∈ a, x ∈ b) → a.length ≤ b.length
  | [], b, _, _ => by simp
  | x :: a, b, h, s => by
    rw [List.nodup_cons] at h
    have m : x ∈ b := s x (by simp)
    have := List.Subset.nodup_length_le (a := a) (b := b.erase x) h.2 fun y my => by
      have ne : y ≠ x := fun z => h.1 (z ▸ my)
      exact (List.mem_erase_of_ne ne).mpr (s y (List.mem_cons_of_mem _ my))
    rw [List.length_erase_of_mem m] at this
    have := List.length_pos_of_mem m
    simp only [List.length_cons]
    omega
end RP
namespace RP
open PySem PySem.Spec L2 Rm
open SX (S join_S S_cat S_tl S_len)
variable {clt : ClT}
def kvs (ns : List Str) (g : Str → D) : List (Key × D) := ns.map fun x => (Sum.inr x, g x)
theorem getDk_map {g : Str → D} {x : Str} : ∀ {ns : List Str}, getDk (kvs ns g) (.inr x) = if x ∈ ns then some (g x) else none
  | [] => rfl
  | y :: ns => by
    have ih := getDk_map (g := g) (x := x) (ns := ns)
    unfold getDk kvs at ih ⊢
    rw [List.map_cons, List.find?_cons]
    by_cases e : y = x
    · subst e; simp
    · have : decide ((Sum.inr y : Key) = Sum.inr x) = false := by simpa using e
      simp only [this]
      rw [ih]
      simp [Ne.symm e]
def num (ns : List Str) : List (Key × D) := kvs ns fun x => .int (ns.idxOf x : Nat)
theorem keys_kvs {ns : List Str} {g} : (kvs ns g).map (fun kv => kD kv.1) = ns.map D.str := by
  unfold kvs; rw [List.map_map]; rfl
def ahd (ns : List Str) (f : Str → List Str) (x : Str) : List Str := ns.filter fun y => decide (y ∈ f x)
def tiesOf (ns : List Str) (f : Str → List Str) : List (Str × Str) := ns.flatMap fun x => (ahd ns f x).map fun y => (x, y)
structure WebOk (ns : List Str) (f : Str → List Str) : Prop where
  tot : (tiesOf ns f).length ≤ 40
  gn : GN ns
  le : ns.length ≤ 12
  sub : ∀ x ∈ ns, ∀ t ∈ f x, t ∈ ns ∧ t ≠ x
  fnd : ∀ x ∈ ns, (f x).Nodup
inductive Path {α : Type} (A : α → α → Prop) : α → α → Prop
  | refl (a) : Path A a a
  | snoc {a b c} : Path A a b → A b c → Path A a c
theorem Path.one {α} {A : α → α → Prop} {a b : α} (h : A a b) : Path A a b := .snoc (.refl a) h
theorem Path.trans {α} {A : α → α → Prop} {a b c : α} (h : Path A a b) (h2 : Path A b c) : Path A a c := by
  induction h2 with
  | refl => exact h
  | snoc _ e ih => exact .snoc ih e
theorem Path.cons {α} {A : α → α → Prop} {a b c : α} (h : A a b) (h2 : Path A b c) : Path A a c := (Path.one h).trans h2
theorem Path.mono {α} {A B : α → α → Prop} {a b : α} (h : Path A a b) (f : ∀ x y, A x y → B x y) : Path B a b := by
  induction h with
  | refl => exact .refl _
  | snoc _ e ih => exact .snoc ih (f _ _ e)
/-- with so many steps -/
inductive Walk {α : Type} (A : α → α → Prop) : Nat → α → α → Prop
  | refl (a) : Walk A 0 a a
  | snoc {n a b c} : Walk A n a b → A b c → Walk A (n + 1) a c
theorem Walk.path {α} {A : α → α → Prop} {n} {a b : α} (h : Walk A n a b) : Path A a b := by
  induction h with
  | refl => exact .refl _
  | snoc _ e ih => exact .snoc ih e
theorem Path.walk {α} {A : α → α → Prop} {a b : α} (h : Path A a b) : ∃ n, Walk A n a b := by
  induction h with
  | refl => exact ⟨0, .refl _⟩
  | snoc _ e ih => obtain ⟨n, w⟩ := ih; exact ⟨_, .snoc w e⟩
/-- ties of a web -/
def adj (ns : List Str) (f : Str → List Str) (x y : Str) : Prop := x ∈ ns ∧ y ∈ f x
theorem Path.mem {ns f x y} (w : WebOk ns f) (h : x ∈ ns) (p : Path (adj ns f) x y) : y ∈ ns := by
  induction p with
  | refl => exact h
  | snoc _ e ih => exact (w.sub _ e.1 _ e.2).1
/-- what far_from has found: names with their distances, `at_` of them looked at -/
structure Far (ns : List Str) (f : Str → List Str) (s : Str) (L : List (Str × Nat)) (at_ : Nat) : Prop where
  nd : (L.map (·.1)).Nodup
  mem : ∀ p ∈ L, p.1 ∈ ns
  fst : L[0]? = some (s, 0)
  wk : ∀ p ∈ L, Walk (adj ns f) p.2 s p.1
  le : at_ ≤ L.length
  sorted : ∀ (i j : Nat) (a b : Str × Nat), i ≤ j → L[i]? = some a → L[j]? = some b → a.2 ≤ b.2
  span : ∀ (i : Nat) (a b : Str × Nat), at_ ≤ i → L[at_]? = some a → L[i]? = some b → b.2 ≤ a.2 + 1
  done : ∀ (i : Nat) (a : Str × Nat) (y : Str), i < at_ → L[i]? = some a → adj ns f a.1 y → ∃ q ∈ L, q.1 = y ∧ q.2 ≤ a.2 + 1
theorem Far.near {ns f s L at_ here da} (F : Far ns f s L at_) (ha : L[at_]? = some (here, da)) {q} (m : q ∈ L) : q.2 ≤ da + 1 := by
  obtain ⟨i, hi, e⟩ := List.getElem_of_mem m
  have e' : L[i]? = some q := by rw [List.getElem?_eq_getElem hi, e]
  by_cases l : at_ ≤ i
  · exact F.span i _ q l ha e'
  · have := F.sorted i at_ q _ (by omega) e' ha
    simp only at this; omega
theorem Far.next {ns f s L at_ here da} (F : Far ns f s L at_) (ha : L[at_]? = some (here, da)) (d : ∀ y, adj ns f here y → ∃ q ∈ L, q.1 = y) : Far ns f s L (at_ + 1) := by
  have hl : at_ < L.length := (List.getElem?_eq_some_iff.mp ha).1
  refine ⟨F.nd, F.mem, F.fst, F.wk, hl, F.sorted, fun i a b l hi hj => ?_, fun i a y l hi hy => ?_⟩
  · have h1 := F.near ha (List.mem_of_getElem? hj)
    have h2 := F.sorted at_ (at_ + 1) _ a (by omega) ha hi
    simp only at h2; omega
  · by_cases q : i < at_
    · exact F.done i a y q hi hy
    · have : i = at_ := by omega
      subst this
      rw [ha] at hi; cases hi
      obtain ⟨q, mq, e⟩ := d y hy
      exact ⟨q, mq, e, F.near ha mq⟩
/-- all that is found, at the end -/
structure FarEnd (ns : List Str) (f : Str → List Str) (s : Str) (L : List (Str × Nat)) : Prop where
  nd : (L.map (·.1)).Nodup
  wk : ∀ p ∈ L, Walk (adj ns f) p.2 s p.1
  all : ∀ m y, Walk (adj ns f) m s y → ∃ q ∈ L, q.1 = y ∧ q.2 ≤ m
theorem Far.hits {ns f s L at_} (F : Far ns f s L at_) (h : L.length ≤ at_) {m a y} (wk : Walk (adj ns f) m a y) : a = s → ∃ q ∈ L, q.1 = y ∧ q.2 ≤ m := by
  induction wk with
  | refl a => rintro rfl; exact ⟨_, List.mem_of_getElem? F.fst, rfl, Nat.le_refl _⟩
  | snoc w e ih =>
    intro ea
    obtain ⟨q, mq, e1, e2⟩ := ih ea
    obtain ⟨i, hi, e3⟩ := List.getElem_of_mem mq
    subst e1
    obtain ⟨r, mr, e4, e5⟩ := F.done i q _ (by omega) (by rw [List.getElem?_eq_getElem hi, e3]) e
    exact ⟨r, mr, e4, by omega⟩
theorem Far.fin {ns f s L at_} (F : Far ns f s L at_) (h : L.length ≤ at_) : FarEnd ns f s L := ⟨F.nd, F.wk, fun _ _ wk => F.hits h wk rfl⟩
theorem FarEnd.mem {ns f s L} (F : FarEnd ns f s L) {y} : y ∈ L.map (·.1) ↔ Path (adj ns f) s y := by
  constructor
  · intro m
    obtain ⟨p, mp, rfl⟩ := List.mem_map.mp m
    exact (F.wk p mp).path
  · intro p
    obtain ⟨n, w⟩ := p.walk
    obtain ⟨q, mq, e, _⟩ := F.all n y w
    exact List.mem_map.mpr ⟨q, mq, e⟩
def farK (L : List (Str × Nat)) : List (Key × D) := L.map fun p => (Sum.inr p.1, .int (p.2 : Int))
theorem getDk_far {x : Str} : ∀ {L : List (Str × Nat)}, (x ∉ L.map (·.1) → getDk (farK L) (.inr x) = none) ∧ ∀ d, (L.map (·.1)).Nodup → (x, d) ∈ L → getDk (farK L) (.inr x) = some (.int (d : Int))
  | [] => ⟨fun _ => rfl, fun d _ m => nomatch m⟩
  | (y, c) :: L => by
    have ih := getDk_far (x := x) (L := L)
    unfold getDk farK at ih ⊢
    simp only [List.map_cons, List.find?_cons]
    by_cases e : y = x
    · subst e
      refine ⟨fun h => absurd (by simp) h, fun d nd m => ?_⟩
      simp only [decide_true, Option.map_some]
      rcases List.mem_cons.mp m with m | m
      · cases m; rfl
      · simp only [List.map_cons, List.nodup_cons] at nd
        exact absurd (List.mem_map.mpr ⟨_, m, rfl⟩) nd.1
    · have : decide ((Sum.inr y : Key) = Sum.inr x) = false := by simpa using e
      simp only [this]
      refine ⟨fun h => ih.1 fun z => h (List.mem_cons_of_mem _ z), fun d nd m => ih.2 d (by simp only [List.map_cons, List.nodup_cons] at nd; exact nd.2) ?_⟩
      rcases List.mem_cons.mp m with m | m
      · cases m; exact absurd rfl e
      · exact m
theorem putD_new {ds : List (Key × D)} {k : Key} {d : D} (h : getDk ds k = none) : putD ds k d = ds ++ [(k, d)] := by
  unfold putD
  rw [if_neg]
  intro z
  obtain ⟨kv, m, e⟩ := List.any_eq_true.mp z
  unfold getDk at h
  rw [Option.map_eq_none_iff, List.find?_eq_none] at h
  exact h kv m e
end RP
namespace RP
open PySem PySem.Spec L2 Rm
open SX (S join_S S_cat S_tl S_len)
variable {clt : ClT}
theorem in_az (c : Nat) : strIn ⟨#[c]⟩ ("abcdefghijklmnopqrstuvwxyz" : Str) = decide (97 ≤ c ∧ c ≤ 122) := by
  unfold strIn
  rw [PySem.StrLaws.found_one]
  have e : ("abcdefghijklmnopqrstuvwxyz" : Str).cps.toList = (List.range 26).map (97 + ·) := by decide +kernel
  rw [e]
  apply decide_eq_decide.mpr
  simp only [List.mem_map, List.mem_range]
  constructor
  · rintro ⟨i, hi, rfl⟩; omega
  · intro h; exact ⟨c - 97, by omega, by omega⟩
theorem isname_w {x : Str} {K X} (h : Nm x) (k : K (.bl true) [.str x]) : Wp (F_is_name clt [.str x]) K X := by
  unfold F_is_name b_is_name
  have hlim : lim = 1000000 := rfl
  have h1 := h.pos
  have h6 := h.le
  have hl : x.length ≤ lim := by omega
  try simp only [wipeE, Option.isSome_none, Option.isSome_some, Option.bind_some, ↓wpF, List.replicate, List.cons_append, List.nil_append, List.append_nil, ↓wpS, ↓wpN, ↓wpE, wpB, List.set_cons_zero, List.set_cons_succ, ↓wpO, ↓wpP, ↓wpW, ↓wpR, ↓wpD, ↓wpC, wpT, wpQ, true_and, wpA, ↓wpI, decide_eq_true_eq, Bool.not_true, Bool.not_false, if_true, Bool.false_eq_true, if_false, List.take_succ_cons, List.take_zero]
  refine ⟨hl, ?_⟩
  rw [if_pos (by omega)]
  try simp only [wipeE, Option.isSome_none, Option.isSome_some, Option.bind_some, ↓wpF, List.replicate, List.cons_append, List.nil_append, List.append_nil, ↓wpS, ↓wpN, ↓wpE, wpB, List.set_cons_zero, List.set_cons_succ, ↓wpO, ↓wpP, ↓wpW, ↓wpR, ↓wpD, ↓wpC, wpT, wpQ, true_and, wpA, ↓wpI, decide_eq_true_eq, Bool.not_true, Bool.not_false, if_true, Bool.false_eq_true, if_false, List.take_succ_cons, List.take_zero]
  rw [if_neg (by simp; omega)]
  try simp only [wipeE, Option.isSome_none, Option.isSome_some, Option.bind_some, ↓wpF, List.replicate, List.cons_append, List.nil_append, List.append_nil, ↓wpS, ↓wpN, ↓wpE, wpB, List.set_cons_zero, List.set_cons_succ, ↓wpO, ↓wpP, ↓wpW, ↓wpR, ↓wpD, ↓wpC, wpT, wpQ, true_and, wpA, ↓wpI, decide_eq_true_eq, Bool.not_true, Bool.not_false, if_true, Bool.false_eq_true, if_false, List.take_succ_cons, List.take_zero]
  refine ⟨by rw [List.length_map]; show (cd x).length ≤ lim; rw [cd_len]; exact hl, ?_⟩
  refine lc_pure chD (fun _ => false) id chD (fun c hc => ?_) ?_
  · simp only [chD, wipeE, Option.isSome_none, Option.isSome_some, Option.bind_some, ↓wpF, List.replicate, List.cons_append, List.nil_append, List.append_nil, ↓wpS, ↓wpN, ↓wpE, wpB, List.set_cons_zero, List.set_cons_succ, ↓wpO, ↓wpP, ↓wpW, ↓wpR, ↓wpD, ↓wpC, wpT, wpQ, true_and, wpA, ↓wpI, decide_eq_true_eq, Bool.not_true, Bool.not_false, if_true, Bool.false_eq_true, if_false, List.take_succ_cons, List.take_zero]
    rw [in_az]
    have := h.az c hc
    have e : decide (97 ≤ c ∧ c ≤ 122) = true := decide_eq_true this
    rw [e]
    simp
  · rw [show ∀ l : List Nat, l.filter (fun _ => false) = [] from fun l => by simp]
    try simp only [wipeE, Option.isSome_none, Option.isSome_some, Option.bind_some, ↓wpF, List.replicate, List.cons_append, List.nil_append, List.append_nil, ↓wpS, ↓wpN, ↓wpE, wpB, List.set_cons_zero, List.set_cons_succ, ↓wpO, ↓wpP, ↓wpW, ↓wpR, ↓wpD, ↓wpC, wpT, wpQ, true_and, wpA, ↓wpI, decide_eq_true_eq, Bool.not_true, Bool.not_false, if_true, Bool.false_eq_true, if_false, List.take_succ_cons, List.take_zero]
    refine ⟨by simp, ?_⟩
    refine eqD_nz (m := false) rfl rfl (fun _ => ?_) (fun q => absurd rfl q)
    try simp only [wipeE, Option.isSome_none, Option.isSome_some, Option.bind_some, ↓wpF, List.replicate, List.cons_append, List.nil_append, List.append_nil, ↓wpS, ↓wpN, ↓wpE, wpB, List.set_cons_zero, List.set_cons_succ, ↓wpO, ↓wpP, ↓wpW, ↓wpR, ↓wpD, ↓wpC, wpT, wpQ, true_and, wpA, ↓wpI, decide_eq_true_eq, Bool.not_true, Bool.not_false, if_true, Bool.false_eq_true, if_false, List.take_succ_cons, List.take_zero]
    exact k
/-- a list or a tuple -/
def SeqD (N : D) (xs : List D) : Prop := N = .lst xs ∨ N = .tup xs
theorem listed_w {N xs K X} (h : SeqD N xs) (k : K (.bl true) [N]) : Wp (F_is_listed clt [N]) K X := by
  unfold F_is_listed b_is_listed
  try simp only [wipeE, Option.isSome_none, Option.isSome_some, Option.bind_some, ↓wpF, List.replicate, List.cons_append, List.nil_append, List.append_nil, ↓wpS, ↓wpN, ↓wpE, wpB, List.set_cons_zero, List.set_cons_succ, ↓wpO, ↓wpP, ↓wpW, ↓wpR, ↓wpD, ↓wpC, wpT, wpQ, true_and, wpA, ↓wpI, decide_eq_true_eq, Bool.not_true, Bool.not_false, if_true, Bool.false_eq_true, if_false, List.take_succ_cons, List.take_zero]
  have e : gIsiT2 clt [N, .ty "list", .ty "tuple"] = some (.bl true) := by
    unfold gIsiT2
    simp only
    rw [if_pos ⟨Nat.le_of_ble_eq_true rfl, by simp⟩]
    rcases h with rfl | rfl <;> rfl
  rw [e]
  exact k
theorem seq_len {N xs P} (h : SeqD N xs) : oK (gLen2 [N]) P = P (.int xs.length) := by rcases h with rfl | rfl <;> rfl
theorem seq_list {N xs K e} (h : SeqD N xs) : listK K N e = K xs e := by rcases h with rfl | rfl <;> rfl
theorem fresh_w {x : Str} {kv : List (Key × D)} {K X} (h : Nm x) (nn : getDk kv (.inr x) = none) (k : K .non [.str x, .dK kv]) : Wp (F_need_fresh_vso clt [.str x, .dK kv]) K X := by
  unfold F_need_fresh_vso b_need_fresh_vso
  try simp only [wipeE, Option.isSome_none, Option.isSome_some, Option.bind_some, ↓wpF, List.replicate, List.cons_append, List.nil_append, List.append_nil, ↓wpS, ↓wpN, ↓wpE, wpB, List.set_cons_zero, List.set_cons_succ, ↓wpO, ↓wpP, ↓wpW, ↓wpR, ↓wpD, ↓wpC, wpT, wpQ, true_and, wpA, ↓wpI, decide_eq_true_eq, Bool.not_true, Bool.not_false, if_true, Bool.false_eq_true, if_false, List.take_succ_cons, List.take_zero]
  refine isname_w h ?_
  try simp only [wipeE, Option.isSome_none, Option.isSome_some, Option.bind_some, ↓wpF, List.replicate, List.cons_append, List.nil_append, List.append_nil, ↓wpS, ↓wpN, ↓wpE, wpB, List.set_cons_zero, List.set_cons_succ, ↓wpO, ↓wpP, ↓wpW, ↓wpR, ↓wpD, ↓wpC, wpT, wpQ, true_and, wpA, ↓wpI, decide_eq_true_eq, Bool.not_true, Bool.not_false, if_true, Bool.false_eq_true, if_false, List.take_succ_cons, List.take_zero]
  rw [nn]
  try simp only [wipeE, Option.isSome_none, Option.isSome_some, Option.bind_some, ↓wpF, List.replicate, List.cons_append, List.nil_append, List.append_nil, ↓wpS, ↓wpN, ↓wpE, wpB, List.set_cons_zero, List.set_cons_succ, ↓wpO, ↓wpP, ↓wpW, ↓wpR, ↓wpD, ↓wpC, wpT, wpQ, true_and, wpA, ↓wpI, decide_eq_true_eq, Bool.not_true, Bool.not_false, if_true, Bool.false_eq_true, if_false, List.take_succ_cons, List.take_zero]
  exact k
theorem kvs_snoc {ns : List Str} {g} {x} : kvs (ns ++ [x]) g = kvs ns g ++ [(.inr x, g x)] := by unfold kvs; simp
theorem idxOf_nd {ns : List Str} (h : ns.Nodup) {i : Nat} {x : Str} (e : ns[i]? = some x) : ns.idxOf x = i := by
  obtain ⟨hi, rfl⟩ := List.getElem?_eq_some_iff.mp e
  exact h.idxOf_getElem i hi
theorem take_snoc {α} {L : List α} {i : Nat} {x : α} (e : L[i]? = some x) : L.take (i + 1) = L.take i ++ [x] := by rw [List.take_succ, e]; rfl
theorem not_take {α} {L : List α} (h : L.Nodup) {i : Nat} {x : α} (e : L[i]? = some x) : x ∉ L.take i := by
  have hs : (L.take (i + 1)).Nodup := h.sublist (List.take_sublist _ _)
  rw [take_snoc e, List.nodup_append] at hs
  intro m
  exact hs.2.2 x m x (by simp) rfl
theorem goodnames_w {N} {ns : List Str} {K X} (h : SeqD N (ns.map .str)) (g : GN ns) (l : ns.length ≤ 12) (k : K (.dK (num ns)) [N]) : Wp (F_good_names clt [N]) K X := by
  unfold F_good_names b_good_names
  have hlim : lim = 1000000 := rfl
  try simp only [wipeE, Option.isSome_none, Option.isSome_some, Option.bind_some, ↓wpF, List.replicate, List.cons_append, List.nil_append, List.append_nil, ↓wpS, ↓wpN, ↓wpE, wpB, List.set_cons_zero, List.set_cons_succ, ↓wpO, ↓wpP, ↓wpW, ↓wpR, ↓wpD, ↓wpC, wpT, wpQ, true_and, wpA, ↓wpI, decide_eq_true_eq, Bool.not_true, Bool.not_false, if_true, Bool.false_eq_true, if_false, List.take_succ_cons, List.take_zero]
  refine listed_w h ?_
  simp only [seq_len h, wipeE, Option.isSome_none, Option.isSome_some, Option.bind_some, ↓wpF, List.replicate, List.cons_append, List.nil_append, List.append_nil, ↓wpS, ↓wpN, ↓wpE, wpB, List.set_cons_zero, List.set_cons_succ, ↓wpO, ↓wpP, ↓wpW, ↓wpR, ↓wpD, ↓wpC, wpT, wpQ, true_and, wpA, ↓wpI, decide_eq_true_eq, Bool.not_true, Bool.not_false, if_true, Bool.false_eq_true, if_false, List.take_succ_cons, List.take_zero]
  rw [if_neg (by rw [List.length_map]; omega)]
  simp only [seq_list h, wipeE, Option.isSome_none, Option.isSome_some, Option.bind_some, ↓wpF, List.replicate, List.cons_append, List.nil_append, List.append_nil, ↓wpS, ↓wpN, ↓wpE, wpB, List.set_cons_zero, List.set_cons_succ, ↓wpO, ↓wpP, ↓wpW, ↓wpR, ↓wpD, ↓wpC, wpT, wpQ, true_and, wpA, ↓wpI, decide_eq_true_eq, Bool.not_true, Bool.not_false, if_true, Bool.false_eq_true, if_false, List.take_succ_cons, List.take_zero]
  refine for_list D.str (fun i e => ∃ y, e = [N, .dK (kvs (ns.take i) fun x => .int (ns.idxOf x : Nat)), y]) ⟨_, rfl⟩ ?_ ?_
  · rintro i x e hx ⟨y, rfl⟩
    have hi := (List.getElem?_eq_some_iff.mp hx).1
    have nn : getDk (kvs (ns.take i) fun x => .int (ns.idxOf x : Nat)) (.inr x) = none := by rw [getDk_map, if_neg (not_take g.nd hx)]
    try simp only [wipeE, Option.isSome_none, Option.isSome_some, Option.bind_some, ↓wpF, List.replicate, List.cons_append, List.nil_append, List.append_nil, ↓wpS, ↓wpN, ↓wpE, wpB, List.set_cons_zero, List.set_cons_succ, ↓wpO, ↓wpP, ↓wpW, ↓wpR, ↓wpD, ↓wpC, wpT, wpQ, true_and, wpA, ↓wpI, decide_eq_true_eq, Bool.not_true, Bool.not_false, if_true, Bool.false_eq_true, if_false, List.take_succ_cons, List.take_zero]
    refine fresh_w (g.ok x (List.mem_of_getElem? hx)) nn ?_
    try simp only [wipeE, Option.isSome_none, Option.isSome_some, Option.bind_some, ↓wpF, List.replicate, List.cons_append, List.nil_append, List.append_nil, ↓wpS, ↓wpN, ↓wpE, wpB, List.set_cons_zero, List.set_cons_succ, ↓wpO, ↓wpP, ↓wpW, ↓wpR, ↓wpD, ↓wpC, wpT, wpQ, true_and, wpA, ↓wpI, decide_eq_true_eq, Bool.not_true, Bool.not_false, if_true, Bool.false_eq_true, if_false, List.take_succ_cons, List.take_zero]
    refine ⟨by unfold kvs; rw [List.length_map, List.length_take]; omega, .str x, ?_⟩
    rw [putD_new nn, take_snoc hx, kvs_snoc, idxOf_nd g.nd hx]
    unfold kvs
    simp [Nat.min_eq_left (Nat.le_of_lt hi)]
  · rintro e ⟨y, rfl⟩
    rw [List.take_length]
    try simp only [wipeE, Option.isSome_none, Option.isSome_some, Option.bind_some, ↓wpF, List.replicate, List.cons_append, List.nil_append, List.append_nil, ↓wpS, ↓wpN, ↓wpE, wpB, List.set_cons_zero, List.set_cons_succ, ↓wpO, ↓wpP, ↓wpW, ↓wpR, ↓wpD, ↓wpC, wpT, wpQ, true_and, wpA, ↓wpI, decide_eq_true_eq, Bool.not_true, Bool.not_false, if_true, Bool.false_eq_true, if_false, List.take_succ_cons, List.take_zero]
    exact k
structure TiesOk (ns : List Str) (ts : List (Str × Str)) : Prop where
  sub : ∀ p ∈ ts, p.1 ∈ ns ∧ p.2 ∈ ns ∧ p.1 ≠ p.2
  nd : ts.Nodup
  le : ts.length ≤ 40
def leadOf (ts : List (Str × Str)) (x : Str) : List Str := (ts.filter fun p => decide (p.1 = x)).map (·.2)
theorem mem_lead {ts x y} : y ∈ leadOf ts x ↔ (x, y) ∈ ts := by
  unfold leadOf
  simp only [List.mem_map, List.mem_filter, decide_eq_true_eq]
  constructor
  · rintro ⟨p, ⟨m, rfl⟩, rfl⟩; exact m
  · intro m; exact ⟨_, ⟨m, rfl⟩, rfl⟩
theorem mem_ties {ns f} {p : Str × Str} : p ∈ tiesOf ns f ↔ p.1 ∈ ns ∧ p.2 ∈ ns ∧ p.2 ∈ f p.1 := by
  unfold tiesOf ahd
  simp only [List.mem_flatMap, List.mem_map, List.mem_filter, decide_eq_true_eq]
  constructor
  · rintro ⟨x, mx, y, ⟨my, h⟩, rfl⟩; exact ⟨mx, my, h⟩
  · rintro ⟨h1, h2, h3⟩; exact ⟨p.1, h1, p.2, ⟨h2, h3⟩, rfl⟩
theorem nodup_flat {α β} {f : α → List β} : ∀ {l : List α}, l.Nodup → (∀ a ∈ l, (f a).Nodup) → (∀ a ∈ l, ∀ b ∈ l, ∀ z, z ∈ f a → z ∈ f b → a = b) → (l.flatMap f).Nodup
  | [], _, _, _ => .nil
  | a :: l, h, h1, h2 => by
    rw [List.nodup_cons] at h
    rw [List.flatMap_cons, List.nodup_append]
    refine ⟨h1 a (by simp), nodup_flat h.2 (fun b m => h1 b (List.mem_cons_of_mem _ m)) (fun b mb c mc => h2 b (List.mem_cons_of_mem _ mb) c (List.mem_cons_of_mem _ mc)), fun x mx y my => ?_⟩
    rintro rfl
    obtain ⟨b, mb, e⟩ := List.mem_flatMap.mp my
    have := h2 a (by simp) b (List.mem_cons_of_mem _ mb) x mx e
    subst this
    exact h.1 mb
theorem ties_nd {ns f} (h : ns.Nodup) : (tiesOf ns f).Nodup := by
  refine nodup_flat h (fun a _ => nodup_map (h.sublist List.filter_sublist) fun x _ y _ e => by cases e; rfl) fun a _ b _ z ha hb => ?_
  obtain ⟨_, _, rfl⟩ := List.mem_map.mp ha
  obtain ⟨_, _, e⟩ := List.mem_map.mp hb
  cases e; rfl
theorem web_of {ns ts} (g : GN ns) (l : ns.length ≤ 12) (t : TiesOk ns ts) : WebOk ns (leadOf ts) := by
  refine ⟨?_, g, l, fun x hx y m => ?_, fun x hx => ?_⟩
  · have := List.Subset.nodup_length_le (ties_nd (f := leadOf ts) g.nd) (b := ts) fun p m => by
      obtain ⟨_, _, h⟩ := mem_ties.mp m
      exact mem_lead.mp h
    have := t.le
    omega
  · have := t.sub _ (mem_lead.mp m)
    exact ⟨this.2.1, Ne.symm this.2.2⟩
  · refine nodup_map (t.nd.sublist List.filter_sublist) fun p mp q mq e => ?_
    have h1 := (List.mem_filter.mp mp).2
    have h2 := (List.mem_filter.mp mq).2
    simp only [decide_eq_true_eq] at h1 h2
    exact Prod.ext (h1.trans h2.symm) e
def swp (p : Str × Str) : Str × Str := (p.2, p.1)
open Classical in
/-- some places, in order -/
noncomputable def some_ (ns : List Str) (P : Str → Prop) : List Str := ns.filter fun y => decide (P y)
end RP
namespace RP
open PySem PySem.Spec L2 Rm
open SX (S join_S S_cat S_tl S_len)
variable {clt : ClT}
/-- the k-th mask of some -/
def rw_ (ms : List Nat) (k : Nat) : Nat := ms.getD k 0
/-- how many bits there are -/
def popc (n m : Nat) : Nat := ((List.range n).filter m.testBit).length
def totB (n : Nat) (ms : List Nat) : Nat := (ms.map (popc n)).sum
/-- masks of ties -/
structure RowsOk (n : Nat) (ms : List Nat) : Prop where
  len : ms.length = n
  sub : ∀ i q, (rw_ ms i).testBit q = true → i < n ∧ q < n ∧ q ≠ i
  tot : totB n ms ≤ 40
end RP
namespace RP
open PySem PySem.Spec L2 Rm
open SX (S join_S S_cat S_tl S_len)
variable {clt : ClT}
/-- the k-th name of some -/
def nm (ns : List Str) (k : Nat) : Str := ns.getD k ⟨#[]⟩
theorem nm_get {ns : List Str} {k : Nat} (h : k < ns.length) : ns[k]? = some (nm ns k) := by unfold nm; rw [List.getD_eq_getElem?_getD, List.getElem?_eq_getElem h]; rfl
theorem nm_mem {ns : List Str} {k : Nat} (h : k < ns.length) : nm ns k ∈ ns := List.mem_of_getElem? (nm_get h)
theorem nm_inj {ns : List Str} (nd : ns.Nodup) {i j : Nat} (hi : i < ns.length) (hj : j < ns.length) (e : nm ns i = nm ns j) : i = j := by
  have := idxOf_nd nd (nm_get hi)
  rw [e, idxOf_nd nd (nm_get hj)] at this
  exact this.symm
theorem nm_of {ns : List Str} {x : Str} (h : x ∈ ns) : ∃ i < ns.length, nm ns i = x := by
  obtain ⟨i, hi, e⟩ := List.getElem_of_mem h
  refine ⟨i, hi, ?_⟩
  have := nm_get hi
  rw [List.getElem?_eq_getElem hi, e] at this
  exact (Option.some.inj this).symm
theorem rw_maps {ms : List Nat} : (List.range ms.length).map (rw_ ms) = ms := by
  refine List.ext_getElem? fun i => ?_
  rw [List.getElem?_map]
  by_cases h : i < ms.length
  · rw [List.getElem?_range h, List.getElem?_eq_getElem h]
    unfold rw_
    show some (ms.getD i 0) = _
    rw [List.getD_eq_getElem?_getD, List.getElem?_eq_getElem h]; rfl
  · rw [List.getElem?_eq_none (by simp; omega), List.getElem?_eq_none (by omega)]; rfl
def tieR (ns : List Str) (ms : List Nat) (k : Nat) : List (Str × Str) := ((List.range ms.length).filter (rw_ ms k).testBit).map fun j => (nm ns k, nm ns j)
def tieL (ns : List Str) (ms : List Nat) (i : Nat) : List (Str × Str) := (List.range i).flatMap (tieR ns ms)
theorem tieL_succ {ns ms i} : tieL ns ms (i + 1) = tieL ns ms i ++ tieR ns ms i := by unfold tieL; rw [List.range_succ, List.flatMap_append, List.flatMap_singleton]
theorem tieL_tot {ns ms} : (tieL ns ms ms.length).length = totB ms.length ms := by
  have : ∀ i, (tieL ns ms i).length = ((List.range i).map fun k => popc ms.length (rw_ ms k)).sum := fun i => by
    induction i with
    | zero => rfl
    | succ i ih =>
      rw [tieL_succ, List.length_append, ih, List.range_succ, List.map_append, List.sum_append]
      unfold tieR popc
      simp
  rw [this]
  unfold totB
  conv => rhs; rw [← rw_maps (ms := ms)]
  rw [List.map_map, rw_maps]
  rfl
theorem mem_tieL {ns ms} {p : Str × Str} : p ∈ tieL ns ms ms.length ↔ ∃ i < ms.length, ∃ j < ms.length, (rw_ ms i).testBit j = true ∧ p = (nm ns i, nm ns j) := by
  unfold tieL tieR
  simp only [List.mem_flatMap, List.mem_map, List.mem_filter, List.mem_range]
  constructor
  · rintro ⟨i, hi, j, ⟨hj, hb⟩, rfl⟩; exact ⟨i, hi, j, hj, hb, rfl⟩
  · rintro ⟨i, hi, j, hj, hb, rfl⟩; exact ⟨i, hi, j, ⟨hj, hb⟩, rfl⟩
theorem tieL_ok {ns ms} (g : GN ns) (R : RowsOk ns.length ms) : TiesOk ns (tieL ns ms ms.length) := by
  have rl := R.len
  refine ⟨fun p m => ?_, ?_, by rw [tieL_tot, rl]; exact R.tot⟩
  · obtain ⟨i, hi, j, hj, hb, rfl⟩ := mem_tieL.mp m
    obtain ⟨a, b, c⟩ := R.sub i j hb
    exact ⟨nm_mem a, nm_mem b, fun e => c (nm_inj g.nd a b e).symm⟩
  · unfold tieL
    refine nodup_flat List.nodup_range (fun i hi => ?_) fun i hi j hj z hz hz' => ?_
    · unfold tieR
      refine nodup_map (List.nodup_range.sublist List.filter_sublist) fun a ha b hb e => ?_
      have ha := List.mem_range.mp (List.mem_filter.mp ha).1
      have hb := List.mem_range.mp (List.mem_filter.mp hb).1
      exact nm_inj g.nd (by omega) (by omega) (congrArg (·.2) e)
    · unfold tieR at hz hz'
      obtain ⟨_, _, rfl⟩ := List.mem_map.mp hz
      obtain ⟨_, _, e⟩ := List.mem_map.mp hz'
      have hi := List.mem_range.mp hi
      have hj := List.mem_range.mp hj
      exact (nm_inj g.nd (by omega) (by omega) (congrArg (·.1) e)).symm
end RP
namespace RP
open PySem PySem.Spec L2 Rm
open SX (S join_S S_cat S_tl S_len)
variable {clt : ClT}
def War (B : Nat → Nat → Prop) : Nat → Nat → Nat → Prop
  | 0, i, j => i = j ∨ B i j
  | k + 1, i, j => War B k i j ∨ (War B k i k ∧ War B k k j)
theorem War.z {B i j} : War B 0 i j ↔ (i = j ∨ B i j) := Iff.rfl
theorem War.s {B k i j} : War B (k + 1) i j ↔ (War B k i j ∨ (War B k i k ∧ War B k k j)) := Iff.rfl
theorem War.mono {B k i j} (h : War B 0 i j) : War B k i j := by
  induction k with
  | zero => exact h
  | succ k ih => exact .inl ih
theorem War.trans {B} : ∀ {k i m j}, m < k → War B k i m → War B k m j → War B k i j
  | 0, _, _, _, h, _, _ => absurd h (by omega)
  | k + 1, i, m, j, h, h1, h2 => by
    by_cases e : m = k
    · subst e
      have a : War B m i m := h1.elim id (·.1)
      have b : War B m m j := h2.elim id (·.2)
      exact .inr ⟨a, b⟩
    · have h' : m < k := by omega
      rcases h1 with h1 | ⟨h1, h1'⟩
      · rcases h2 with h2 | ⟨h2, h2'⟩
        · exact .inl (War.trans h' h1 h2)
        · exact .inr ⟨War.trans h' h1 h2, h2'⟩
      · rcases h2 with h2 | ⟨h2, h2'⟩
        · exact .inr ⟨h1, War.trans h' h1' h2⟩
        · exact .inr ⟨h1, h2'⟩
theorem War.path {B k i j} (h : War B k i j) : Path B i j := by
  induction k generalizing i j with
  | zero =>
    rcases h with rfl | h
    · exact .refl _
    · exact .one h
  | succ k ih =>
    rcases h with h | ⟨h, h'⟩
    · exact ih h
    · exact (ih h).trans (ih h')
theorem War.of {B : Nat → Nat → Prop} {n i j} (hB : ∀ a b, B a b → a < n) (p : Path B i j) : War B n i j := by
  induction p with
  | refl => exact War.mono (.inl rfl)
  | snoc p e ih => exact War.trans (hB _ _ e) ih (War.mono (.inr e))
theorem War.iff {B : Nat → Nat → Prop} {n i j} (hB : ∀ a b, B a b → a < n) : War B n i j ↔ Path B i j := ⟨War.path, War.of hB⟩
/-- B by bits -/
def bt (ms : List Nat) (i j : Nat) : Prop := (rw_ ms i).testBit j = true
end RP
namespace RP
open PySem PySem.Spec L2 Rm
open SX (S join_S S_cat S_tl S_len)
variable {clt : ClT}
structure Kt where
  ns : List Str
  ts : List (Str × Str)
  ms : List Nat
  cs : List Nat
  ps : List (Nat × Nat)
structure KtOk (q : Kt) : Prop where
  gn : GN q.ns
  le : q.ns.length ≤ 12
  ro : RowsOk q.ns.length q.ms
  pm : q.ts.Perm (tieL q.ns q.ms q.ms.length)
  cl : q.cs.length = q.ns.length
  cp : ∀ i < q.ns.length, ∀ j, bt q.cs i j ↔ Path (bt q.ms) i j
  pb : ∀ p ∈ q.ps, p.1 < q.ns.length ∧ p.2 < q.ns.length
  pl : q.ps.length ≤ 32
namespace KtOk
variable {q : Kt}
theorem ties (g : KtOk q) : TiesOk q.ns q.ts := by
  have t := tieL_ok g.gn g.ro
  exact ⟨fun p m => t.sub p (g.pm.mem_iff.mp m), g.pm.nodup_iff.mpr t.nd, by rw [g.pm.length_eq]; exact t.le⟩
theorem web (g : KtOk q) : WebOk q.ns (leadOf q.ts) := web_of g.gn g.le g.ties
theorem adj_idx (g : KtOk q) {i j : Nat} (hi : i < q.ns.length) (hj : j < q.ns.length) : adj q.ns (leadOf q.ts) (nm q.ns i) (nm q.ns j) ↔ bt q.ms i j := by
  have rl := g.ro.len
  unfold adj
  rw [mem_lead, g.pm.mem_iff, mem_tieL]
  constructor
  · rintro ⟨_, a, ha, b, hb, h, e⟩
    have e1 := nm_inj g.gn.nd hi (by omega) (congrArg (·.1) e)
    have e2 := nm_inj g.gn.nd hj (by omega) (congrArg (·.2) e)
    subst e1 e2
    exact h
  · intro h
    exact ⟨nm_mem hi, i, by omega, j, by omega, h, rfl⟩
end KtOk
end RP
namespace RP
open PySem PySem.Spec L2 Rm
open SX (S join_S S_cat S_tl S_len)
variable {clt : ClT}
section
variable {α : Type} {A : α → α → Prop} {a b c : α} {n d d' : Nat}
theorem Walk.uncons {a c : α} : ∀ {n}, Walk A (n + 1) a c → ∃ b, A a b ∧ Walk A n b c
  | 0, .snoc (.refl _) e => ⟨c, e, .refl _⟩
  | n + 1, .snoc w e => by
    obtain ⟨b, h1, h2⟩ := Walk.uncons w
    exact ⟨b, h1, .snoc h2 e⟩
theorem Walk.cons (h : A a b) (w : Walk A n b c) : Walk A (n + 1) a c := by
  induction w with
  | refl => exact .snoc (.refl _) h
  | snoc _ e ih => exact .snoc (ih h) e
theorem Walk.mono {B : α → α → Prop} (h : Walk A n a b) (f : ∀ x y, A x y → B x y) : Walk B n a b := by
  induction h with
  | refl => exact .refl _
  | snoc _ e ih => exact .snoc ih (f _ _ e)
def Ds (A : α → α → Prop) (a b : α) (d : Nat) : Prop := Walk A d a b ∧ ∀ m, Walk A m a b → d ≤ m
theorem Ds.uniq (h : Ds A a b d) (h' : Ds A a b d') : d = d' := Nat.le_antisymm (h.2 _ h'.1) (h'.2 _ h.1)
theorem Ds.path (h : Ds A a b d) : Path A a b := h.1.path
theorem Ds.ofW : ∀ {n}, Walk A n a b → ∃ d, d ≤ n ∧ Ds A a b d := fun {n} => by
  induction n using Nat.strongRecOn with
  | _ n ih =>
    intro w
    by_cases h : ∃ m, m < n ∧ Walk A m a b
    · obtain ⟨m, l, w'⟩ := h
      obtain ⟨d, l2, q⟩ := ih m l w'
      exact ⟨d, by omega, q⟩
    · exact ⟨n, Nat.le_refl _, w, fun m wm => Nat.le_of_not_lt fun l => h ⟨m, l, wm⟩⟩
theorem Ds.of (p : Path A a b) : ∃ d, Ds A a b d := by
  obtain ⟨n, w⟩ := p.walk
  obtain ⟨d, _, q⟩ := Ds.ofW w
  exact ⟨d, q⟩
theorem Ds.zero : Ds A a a 0 := ⟨.refl _, fun _ _ => Nat.zero_le _⟩
theorem Ds.eq0 (h : Ds A a b 0) : a = b := by
  have w := h.1
  cases w
  rfl
theorem Ds.pred (h : Ds A a c (d + 1)) : ∃ b, Ds A a b d ∧ A b c := by
  obtain ⟨w, m⟩ := h
  cases w with
  | snoc w e => exact ⟨_, ⟨w, fun k wk => by have := m _ (.snoc wk e); omega⟩, e⟩
theorem Ds.next (h : Ds A a c (d + 1)) : ∃ b, A a b ∧ Ds A b c d := by
  obtain ⟨b, e, w⟩ := h.1.uncons
  exact ⟨b, e, w, fun k wk => by have := h.2 _ (.cons e wk); omega⟩
theorem Ds.down {k : Nat} (h : Ds A a c d) (l : k ≤ d) : ∃ b, Ds A a b k := by
  induction d generalizing c with
  | zero => exact ⟨c, by rw [Nat.le_zero.mp l]; exact h⟩
  | succ d ih =>
    by_cases e : k = d + 1
    · subst e; exact ⟨c, h⟩
    · obtain ⟨b, hb, _⟩ := h.pred
      exact ih hb (by omega)
end
theorem Ds.lt {B : Nat → Nat → Prop} {n a b d : Nat} (hB : ∀ x y, B x y → y < n) (ha : a < n) (h : Ds B a b d) : d < n := by
  have : ∀ d b, Ds B a b d → ∃ l : List Nat, l.length = d + 1 ∧ l.Nodup ∧ ∀ x ∈ l, x < n ∧ ∃ k, k ≤ d ∧ Ds B a x k := by
    intro d
    induction d with
    | zero =>
      intro b h
      have := h.eq0
      subst this
      exact ⟨[a], rfl, by simp, fun x m => by rw [List.mem_singleton.mp m]; exact ⟨ha, 0, Nat.le_refl _, h⟩⟩
    | succ d ih =>
      intro b h
      obtain ⟨c, hc, e⟩ := h.pred
      obtain ⟨l, h1, h2, h3⟩ := ih c hc
      refine ⟨b :: l, by simp [h1], List.nodup_cons.mpr ⟨fun m => ?_, h2⟩, fun x m => ?_⟩
      · obtain ⟨_, k, l1, q⟩ := h3 b m
        have := q.uniq h
        omega
      · rcases List.mem_cons.mp m with rfl | m
        · exact ⟨hB _ _ e, d + 1, Nat.le_refl _, h⟩
        · obtain ⟨p, k, l1, q⟩ := h3 x m
          exact ⟨p, k, by omega, q⟩
  obtain ⟨l, h1, h2, h3⟩ := this d b h
  have := List.Subset.nodup_length_le h2 (b := List.range n) fun x m => List.mem_range.mpr (h3 x m).1
  rw [List.length_range] at this
  omega
/-- a distance told as a whole number -/
def FD {α : Type} (A : α → α → Prop) (a b : α) (v : Int) : Prop := (v = -1 ∧ ¬ Path A a b) ∨ ∃ d : Nat, v = (d : Int) ∧ Ds A a b d
theorem FD.uniq {α : Type} {A : α → α → Prop} {a b : α} {v v' : Int} (h : FD A a b v) (h' : FD A a b v') : v = v' := by
  rcases h with ⟨rfl, h⟩ | ⟨d, rfl, h⟩ <;> rcases h' with ⟨rfl, h'⟩ | ⟨d', rfl, h'⟩
  · rfl
  · exact absurd h'.path h
  · exact absurd h.path h'
  · rw [h.uniq h']
end RP
namespace RP
open PySem PySem.Spec L2 Rm
open SX (S join_S S_cat S_tl S_len)
variable {clt : ClT}
def dgK (fe : M D) (K : D → List D → Prop) (X : KX) (d : D) (e : List D) : Prop := match d with
  | .dK kvs => Wp (fe e) (fun k e => oK (keyD k) fun kk => K ((getDk kvs kk).getD .non) e) X
  | _ => False
theorem wpG : (∀ (fo fe : M D) (e K X), Wp (dgetM fo fe e) K X = Wp (fo e) (dgK fe K X) X) ∧
    (∀ fe K X kvs e, dgK fe K X (.dK kvs) e = Wp (fe e) (fun k e => oK (keyD k) fun kk => K ((getDk kvs kk).getD .non) e) X) ∧
    (∀ x P, oK (gIsN [x, .non]) P = P (.bl (Rm.isNon x))) ∧ (∀ i P, oK (gReprI [.int i]) P = (i.natAbs.log2 < 1920 ∧ P (.str (toString i)))) ∧
    Rm.isNon .non = true ∧ (∀ i, Rm.isNon (.int i) = false) ∧ (∀ i, Rm.isNon (.lst i) = false) := by
  refine ⟨fun fo fe e K X => ?_, fun _ _ _ _ _ => rfl, fun _ _ => rfl, fun i P => ?_, rfl, fun _ => rfl, fun _ => rfl⟩
  · unfold dgetM
    rw [Wp.bind]
    congr 1
    funext d e
    cases d <;> try with_unfolding_all rfl
    show Wp ((fe e).bind _) K X = _
    rw [Wp.bind]
    show _ = Wp (fe e) _ X
    congr 1
    funext k e
    cases keyD k <;> with_unfolding_all rfl
  · unfold gReprI
    by_cases h : i.natAbs.log2 < 1920 <;> simp [h, oK]
structure Kw (ns : List Str) (ts : List (Str × Str)) (ms : List Nat) : Prop where
  gn : GN ns
  le : ns.length ≤ 12
  ro : RowsOk ns.length ms
  pm : ts.Perm (tieL ns ms ms.length)
namespace Kw
variable {ns : List Str} {ts : List (Str × Str)} {ms : List Nat}
theorem ties (g : Kw ns ts ms) : TiesOk ns ts := by
  have t := tieL_ok g.gn g.ro
  exact ⟨fun p m => t.sub p (g.pm.mem_iff.mp m), g.pm.nodup_iff.mpr t.nd, by rw [g.pm.length_eq]; exact t.le⟩
theorem web (g : Kw ns ts ms) : WebOk ns (leadOf ts) := web_of g.gn g.le g.ties
theorem adj_idx (g : Kw ns ts ms) {i j : Nat} (hi : i < ns.length) (hj : j < ns.length) : adj ns (leadOf ts) (nm ns i) (nm ns j) ↔ bt ms i j := by
  have rl := g.ro.len
  unfold adj
  rw [mem_lead, g.pm.mem_iff, mem_tieL]
  constructor
  · rintro ⟨_, a, ha, b, hb, h, e⟩
    have e1 := nm_inj g.gn.nd hi (by omega) (congrArg (·.1) e)
    have e2 := nm_inj g.gn.nd hj (by omega) (congrArg (·.2) e)
    subst e1 e2
    exact h
  · intro h
    exact ⟨nm_mem hi, i, by omega, j, by omega, h, rfl⟩
end Kw
theorem FarEnd.get {ns f s L} (F : FarEnd ns f s L) (y : Str) : (getDk (farK L) (.inr y) = none ∧ ¬ Path (adj ns f) s y) ∨ ∃ d : Nat, getDk (farK L) (.inr y) = some (.int (d : Int)) ∧ Ds (adj ns f) s y d := by
  by_cases h : y ∈ L.map (·.1)
  · obtain ⟨p, mp, rfl⟩ := List.mem_map.mp h
    refine .inr ⟨p.2, getDk_far.2 p.2 F.nd mp, F.wk p mp, fun m w => ?_⟩
    obtain ⟨q, mq, e, l⟩ := F.all m _ w
    have g1 := (getDk_far (x := p.1)).2 p.2 F.nd mp
    have g2 := (getDk_far (x := p.1)).2 q.2 F.nd (by rw [← e]; exact mq)
    rw [g1] at g2
    have e2 := D.int.inj (Option.some.inj g2)
    omega
  · exact .inl ⟨getDk_far.1 h, fun p => h (F.mem.mpr p)⟩
end RP
namespace RP
open PySem PySem.Spec L2 Rm
open SX (S join_S S_cat S_tl S_len)
variable {clt : ClT}
open Classical in
noncomputable def fdv (B : Nat → Nat → Prop) (a b : Nat) : Int := if h : Path B a b then ((Ds.of h).choose : Int) else -1
noncomputable def nxL (ms : List Nat) (c a : Nat) : List Nat := (List.range ms.length).filter fun k => (rw_ ms a).testBit k && decide (fdv (bt ms) k c = fdv (bt ms) a c - 1)
noncomputable def nx (ms : List Nat) (c a : Nat) : Nat := (nxL ms c a).headD 0
end RP
namespace RP
open PySem PySem.Spec L2 Rm
open SX (S join_S S_cat S_tl S_len)
variable {clt : ClT}
end RP
namespace RP
open PySem PySem.Spec L2 Rm
open SX (S join_S S_cat S_tl S_len)
variable {clt : ClT}
end RP
namespace RP
open PySem PySem.Spec L2 Rm
open SX (S join_S S_cat S_tl S_len)
variable {clt : ClT}
/-- its text may be told -/
def Rk (x : D) : Prop := ∃ p, toQ x = some p ∧ p.showable = true ∧ p.depth ≤ 50 ∧ p.shown.length ≤ 1100
end RP
namespace RP
open PySem PySem.Spec L2 Rm
open SX (S join_S S_cat S_tl S_len)
variable {clt : ClT}
end RP
namespace RP
open PySem PySem.Spec L2 Rm
variable {clt : ClT}
theorem getDk_cons {p : Key × D} {r : List (Key × D)} {k : Key} : getDk (p :: r) k = if p.1 = k then some p.2 else getDk r k := by
  unfold getDk
  by_cases e : p.1 = k
  · simp [e]
  · simp [e]
abbrev Rn (ns : List Str) (f : Str → List Str) (x y : Str) : Prop := Path (adj ns f) x y ∧ Path (adj ns f) y x
theorem Rn.symm {ns f x y} (h : Rn ns f x y) : Rn ns f y x := ⟨h.2, h.1⟩
theorem Rn.trans {ns f x y z} (h : Rn ns f x y) (k : Rn ns f y z) : Rn ns f x z := ⟨h.1.trans k.1, k.2.trans h.2⟩
theorem Rn.refl {ns f} (x) : Rn ns f x x := ⟨.refl _, .refl _⟩
noncomputable abbrev rnd (ns : List Str) (f : Str → List Str) (x : Str) : List Str := some_ ns (Rn ns f x)
theorem in_strs {x : Str} {L : List Str} {P : Bool → Prop} (hx : Nm x) (hL : ∀ y ∈ L, Nm y) (k : P (decide (x ∈ L))) : oK (inD (.str x) (.lst (L.map .str))) P := by
  refine inD_nz (m := false) (nz_str hx) (nz_strs hL) (fun h => ?_) (fun h => ?_)
  · have : x ∈ L := by
      obtain ⟨y, my, e⟩ := List.mem_map.mp h
      cases e; exact my
    rwa [decide_eq_true this] at k
  · have : x ∉ L := fun m => h (List.mem_map.mpr ⟨x, m, rfl⟩)
    rwa [decide_eq_false this] at k
/-- the first of its round -/
def hdK (ns : List Str) (f : Str → List Str) (k : Nat) : Prop := ∀ p < k, ¬ Rn ns f (nm ns p) (nm ns k)
end RP
namespace RP
open PySem PySem.Spec L2 Rm
variable {clt : ClT}
namespace KtOk
variable {q : Kt}
end KtOk
end RP
namespace RP
open PySem PySem.Spec L2 Rm
open SX (S join_S S_cat S_tl S_len)
variable {clt : ClT}
/-- the others of each place: names, a dozen at most -/
structure OsOk (ns : List Str) (g : Str → List Str) : Prop where
  gn : GN ns
  le : ns.length ≤ 12
  nm : ∀ x ∈ ns, ∀ y ∈ g x, Nm y
  ol : ∀ x ∈ ns, (g x).length ≤ 12
namespace OsOk
variable {ns : List Str} {g : Str → List Str}
end OsOk
end RP
namespace RP
open PySem PySem.Spec L2 Rm
open SX (S join_S S_cat S_tl S_len)
variable {clt : ClT}
namespace Kw
variable {ns : List Str} {ts : List (Str × Str)} {ms : List Nat}
end Kw
end RP
-- wp: XY
namespace RP
open PySem PySem.Spec L2 Rm
variable {clt : ClT}
theorem least_of {P : Nat → Prop} : ∀ k, P k → ∃ j, j ≤ k ∧ P j ∧ ∀ p < j, ¬ P p := by
  intro k
  induction k using Nat.strongRecOn with
  | _ k ih =>
    intro h
    by_cases c : ∃ p < k, P p
    · obtain ⟨p, hp, pp⟩ := c
      obtain ⟨j, hj, pj, mj⟩ := ih p hp pp
      exact ⟨j, by omega, pj, mj⟩
    · exact ⟨k, Nat.le_refl _, h, fun p hp pp => c ⟨p, hp, pp⟩⟩
noncomputable def hx (ns : List Str) (f : Str → List Str) (k : Nat) : Nat := (least_of (P := fun j => Rn ns f (nm ns j) (nm ns k)) k (Rn.refl _)).choose
section
variable {ns : List Str} {f : Str → List Str}
theorem hx_le (k : Nat) : hx ns f k ≤ k := (least_of (P := fun j => Rn ns f (nm ns j) (nm ns k)) k (Rn.refl _)).choose_spec.1
theorem hx_rn (k : Nat) : Rn ns f (nm ns (hx ns f k)) (nm ns k) := (least_of (P := fun j => Rn ns f (nm ns j) (nm ns k)) k (Rn.refl _)).choose_spec.2.1
theorem hx_min {k p : Nat} (h : p < hx ns f k) : ¬ Rn ns f (nm ns p) (nm ns k) := (least_of (P := fun j => Rn ns f (nm ns j) (nm ns k)) k (Rn.refl _)).choose_spec.2.2 p h
theorem hx_hd (k : Nat) : hdK ns f (hx ns f k) := fun p hp r => hx_min hp (r.trans (hx_rn k))
end
open Classical in
/-- the heads, in order -/
noncomputable def hsI (ns : List Str) (f : Str → List Str) (n : Nat) : List Nat := (List.range n).filter fun k => decide (hdK ns f k)
noncomputable abbrev hsL (ns : List Str) (f : Str → List Str) : List Str := (hsI ns f ns.length).map (nm ns)
/-- the head of a place -/
noncomputable def hd (ns : List Str) (f : Str → List Str) (x : Str) : Str := nm ns (hx ns f (ns.idxOf x))
section
variable {ns : List Str} {f : Str → List Str}
theorem mem_hsI {k n : Nat} : k ∈ hsI ns f n ↔ k < n ∧ hdK ns f k := by unfold hsI; simp
theorem idx_nm (w : WebOk ns f) {k : Nat} (hk : k < ns.length) : ns.idxOf (nm ns k) = k := idxOf_nd w.gn.nd (nm_get hk)
theorem hd_nm (w : WebOk ns f) {k : Nat} (hk : k < ns.length) : hd ns f (nm ns k) = nm ns (hx ns f k) := by unfold hd; rw [idx_nm w hk]
theorem hd_mem (w : WebOk ns f) {x : Str} (h : x ∈ ns) : hd ns f x ∈ hsL ns f := by
  obtain ⟨k, hk, rfl⟩ := nm_of h
  rw [hd_nm w hk]
  exact List.mem_map.mpr ⟨_, mem_hsI.mpr ⟨Nat.lt_of_le_of_lt (hx_le k) hk, hx_hd k⟩, rfl⟩
end
end RP
-- wp: XY
namespace RP
open PySem PySem.Spec L2 Rm
variable {clt : ClT} {ns : List Str} {f : Str → List Str}
noncomputable abbrev rl (ns : List Str) (f : Str → List Str) (x : Str) : D := .lst ((rnd ns f x).map .str)
structure DtOk (ns : List Str) (f : Str → List Str) (dt : List (Str × Str)) : Prop where
  nd : dt.Nodup
  iff : ∀ p, p ∈ dt ↔ p.1 ≠ p.2 ∧ ∃ q ∈ tiesOf ns f, hd ns f q.1 = p.1 ∧ hd ns f q.2 = p.2
  le : dt.length ≤ (tiesOf ns f).length
theorem DtOk.ties {dt} (w : WebOk ns f) (d : DtOk ns f dt) : TiesOk (hsL ns f) dt := ⟨fun p m => by
  obtain ⟨h1, q, mq, e1, e2⟩ := (d.iff p).mp m
  have := mem_ties.mp mq
  exact ⟨e1 ▸ hd_mem w this.1, e2 ▸ hd_mem w this.2.1, h1⟩, d.nd, by have := w.tot; have := d.le; omega⟩
end RP
-- wp: XY
namespace RP
open PySem PySem.Spec L2 Rm
variable {clt : ClT} {ns : List Str} {f : Str → List Str} {H : List (Key × D)} {dt : List (Str × Str)}
end RP
-- wp: XY
namespace RP
open PySem PySem.Spec L2 Rm
variable {clt : ClT} {ns : List Str} {f : Str → List Str}
end RP
-- wp: XY
namespace RP
open PySem PySem.Spec L2 Rm
variable {clt : ClT} {ns : List Str} {ts : List (Str × Str)} {ms : List Nat}
theorem adj_nm (g : Kw ns ts ms) {i j : Nat} (hi : i < ns.length) (hj : j < ns.length) : nm ns j ∈ leadOf ts (nm ns i) ↔ (rw_ ms i).testBit j = true := by
  have := g.adj_idx hi hj
  exact ⟨fun h => this.mp ⟨nm_mem hi, h⟩, fun h => (this.mpr h).2⟩
end RP
-- wp: XY
namespace RP
open PySem PySem.Spec L2 Rm
variable {clt : ClT} {ns : List Str} {ts : List (Str × Str)} {ms : List Nat}
end RP
-- wp: XY
namespace RP
open PySem PySem.Spec L2 Rm
variable {clt : ClT} {ns : List Str} {ts : List (Str × Str)} {ms : List Nat}
theorem pl_ok {z : Str} (h : Pl z) : PyData.strOk z = true := by simpa only [PyData.canLay0] using h.ok
end RP
-- wp: XYV
namespace RP
open PySem PySem.Spec L2 Rm
variable {clt : ClT}
theorem take54_w {n : Nat} {d : D} {m : Int} {K X} (h : Bx3 n d) (hn : n < 2 ^ 50) (h0 : 0 < m) (h1 : m < 2 ^ 200) (k : ∀ v d', 0 ≤ v → v < m → Bx3 (n + 1) d' → K (.int v) [d', .int m]) : Wp (F_l_take_k54 clt [d, .int m]) K X := by
  obtain ⟨a, b, c, rfl, ha, hb, hb2, hc, hcn⟩ := h
  have hn' : (n : Int) < 2 ^ 50 := by exact_mod_cast hn
  unfold F_l_take_k54 b_l_take_k54
  try simp only [↓wpV, ↓wpY, ↓wpX, wipeE, Option.isSome_none, Option.isSome_some, Option.bind_some, ↓wpF, List.replicate, List.cons_append, List.nil_append, List.append_nil, ↓wpS, ↓wpN, ↓wpE, wpB, List.set_cons_zero, List.set_cons_succ, ↓wpO, ↓wpP, ↓wpW, ↓wpR, ↓wpD, ↓wpC, wpT, wpQ, true_and, wpA, ↓wpI, decide_eq_true_eq, Bool.not_true, Bool.not_false, if_true, Bool.false_eq_true, if_false, List.take_succ_cons, List.take_zero]
  by_cases hp : 0 < a
  · rw [if_pos hp]
    exact ⟨h0, ⟨h0, h1⟩, k _ _ (Int.emod_nonneg _ (by omega)) (Int.emod_lt_of_pos _ h0) ⟨a / m, b, c, rfl, Int.ediv_nonneg (by omega) (by omega), hb, hb2, hc, by omega⟩⟩
  · rw [if_neg hp]
    generalize (b + 7919 * (c + 1) * (c + 1) + 104729 * (c + 1)) = q
    have q1 := Int.emod_nonneg q (show (2147483647 : Int) ≠ 0 by decide)
    have q2 := Int.emod_lt_of_pos q (show (0 : Int) < 2147483647 by decide)
    generalize q % 2147483647 = q0 at q1 q2
    generalize q0 ^ Int.toNat 5 = p
    have p1 := Int.emod_nonneg p (show (2147483647 : Int) ≠ 0 by decide)
    have p2 := Int.emod_lt_of_pos p (show (0 : Int) < 2147483647 by decide)
    generalize p % 2147483647 = p0 at p1 p2
    refine ⟨.inl (by decide), .inr (by omega), .inl (by decide), by decide, ⟨by decide, by decide, by omega⟩, by decide, .inl (by omega), .inl (by decide), by decide, by decide, h0, k _ _ (Int.emod_nonneg _ (by omega)) (Int.emod_lt_of_pos _ h0) ⟨a, b, c + 1, rfl, ha, hb, hb2, by omega, by omega⟩⟩
theorem takeM_w {n : Nat} {d : D} {m : Nat} {K X} (h : Bx3 n d) (hn : n < 2 ^ 50) (h0 : 0 < m) (h1 : m < 2 ^ 100) (k : ∀ (v : Nat) d', v < m → Bx3 (n + 1) d' → K (.int (v : Int)) [d', .int (m : Int)]) : Wp (F_l_take_k54 clt [d, .int (m : Int)]) K X :=
  take54_w h hn (by omega) (by
    have : (m : Int) < ((2 ^ 100 : Nat) : Int) := by exact_mod_cast h1
    refine Int.lt_trans this ?_
    decide +kernel) fun v d' a b hd => by
    obtain ⟨i, rfl⟩ := Int.eq_ofNat_of_zero_le a
    exact k i d' (by omega) hd
end RP
-- wp: XYV
namespace RP
open PySem PySem.Spec L2 Rm
variable {clt : ClT}
end RP
-- wp: XYV
namespace RP
open PySem PySem.Spec L2 Rm
open SX (S join_S S_cat S_tl S_len split_S)
variable {clt : ClT}
structure Ln (x : Str) : Prop where
  pl : Pl x
  le : x.length ≤ 4000
end RP
-- wp: XYV
namespace RP
open PySem PySem.Spec L2 Rm
open SX (S join_S S_cat S_tl S_len split_S)
variable {clt : ClT}
end RP
-- wp: XYV
namespace RP
open PySem PySem.Spec L2 Rm
open SX (S join_S S_cat S_tl S_len split_S)
variable {clt : ClT}
theorem rc_all : ∀ c < 128, ((PySem.Builtin.Str.reprChar 1114112 c).all fun d => decide (d < 1114112)) = true := by decide +kernel
theorem rc_ok {q c : Nat} (h : c < 128) : ∀ d ∈ PySem.Builtin.Str.reprChar q c, d < 1114112 := by
  intro d md
  by_cases e : (c == q || c == 92) = true
  · unfold PySem.Builtin.Str.reprChar at md
    rw [if_pos e] at md
    simp only [List.mem_cons, List.not_mem_nil, or_false] at md
    omega
  · have : PySem.Builtin.Str.reprChar q c = PySem.Builtin.Str.reprChar 1114112 c := by
      unfold PySem.Builtin.Str.reprChar
      have e2 : ¬ (c == 1114112 || c == 92) = true := by simp at e ⊢; omega
      rw [if_neg e, if_neg e2]
    rw [this] at md
    simpa using List.all_eq_true.mp (rc_all c h) d md
theorem fold_ok {q : Nat} : ∀ (l : List Nat) (acc : Array Nat), (∀ c ∈ l, c < 128) → (∀ d ∈ acc, d < 1114112) → ∀ d ∈ l.foldl (fun out c => out ++ (PySem.Builtin.Str.reprChar q c).toArray) acc, d < 1114112
  | [], acc, _, h => h
  | c :: l, acc, hl, h => by
    rw [List.foldl_cons]
    refine fold_ok l _ (fun c m => hl c (List.mem_cons_of_mem _ m)) fun d md => ?_
    rcases Array.mem_append.mp md with m | m
    · exact h d m
    · exact rc_ok (hl c (by simp)) d (by simpa using m)
theorem quote_ok (x : Str) : reprQuote x < 1114112 := by
  unfold reprQuote
  split <;> decide
theorem rep_strOk {x : Str} (h : Pl x) : PyData.strOk (reprText x) = true := by
  unfold PyData.strOk reprText
  rw [← Array.foldl_toList, Array.all_eq_true']
  intro d md
  rw [decide_eq_true_eq]
  rcases Array.mem_push.mp md with m | m
  · exact fold_ok _ _ (fun c mc => h c mc) (fun d md => by
      have : d = reprQuote x := by simpa using md
      rw [this]; exact quote_ok x) d m
  · rw [m]; exact quote_ok x
theorem grep_pl {x : Str} (h : Ln x) : gRepr [.str x] = some (.str (reprText x)) := by
  have hlim : lim = 1000000 := rfl
  have l4 := PySem.StrLaws.reprText_len x (fun c m => Nat.lt_trans (h.pl c m) (by decide))
  have := h.le
  simp only [gRepr, rpT, toQ, Option.bind_some]
  rw [if_pos ⟨by simp only [PyData.showable], by simp [PyData.depth], by simp only [PyData.shown]; omega⟩]
  simp only [PyData.shown]; rfl
end RP
-- wp: XYV
namespace RP
open PySem PySem.Spec L2 Rm
open SX (S join_S S_cat S_tl S_len split_S)
variable {clt : ClT}
theorem fold_mem : ∀ (l : List (Array Nat)) (acc : Array Nat), (∀ a ∈ l, ∀ c ∈ a, c < 128) → (∀ c ∈ acc, c < 128) → ∀ c ∈ l.foldl (· ++ ·) acc, c < 128
  | [], acc, _, h => h
  | a :: l, acc, hl, h => by
    rw [List.foldl_cons]
    refine fold_mem l _ (fun b m => hl b (List.mem_cons_of_mem _ m)) fun c mc => ?_
    rcases Array.mem_append.mp mc with m | m
    · exact h c m
    · exact hl a (by simp) c m
theorem Pl.mul {x : Str} (h : Pl x) (n : Int) : Pl (Txt.mul x n) := by
  unfold Txt.mul
  split
  · intro c m
    have : (Str.empty).cps.toList = [] := rfl
    rw [this] at m; cases m
  · split
    · exact h
    · intro c m
      refine fold_mem _ #[] (fun a ma c mc => ?_) (fun c mc => absurd mc (by simp)) c (by simpa using m)
      rw [(List.mem_replicate.mp ma).2] at mc
      exact h c (by simpa using mc)
end RP
-- wp: XYV
namespace RP
open PySem PySem.Spec L2 Rm
open SX (S join_S S_cat S_tl S_len split_S)
variable {clt : ClT}
@[irreducible] def mulT54 (z : Str) (n : Int) : Str := Txt.mul z n
@[irreducible] def gMul54 (l : List D) : Option D := gMulS l
end RP
-- wp: XYV
namespace RP
open PySem PySem.Spec L2 Rm
open SX (S join_S S_cat S_tl S_len split_S)
variable {clt : ClT}
end RP
-- wp: XYV
namespace RP
open PySem PySem.Spec L2 Rm
open SX (S join_S S_cat S_tl S_len split_S)
variable {clt : ClT}
abbrev wd54 : List Str := [("reach" : Str), ("web" : Str), ("tie" : Str), ("marks" : Str), ("ahead" : Str), ("behind" : Str), ("way" : Str), ("place" : Str), ("rule" : Str), ("a" : Str), ("ab" : Str), ("abc" : Str)]
end RP
-- wp: XYVU
namespace RP
open PySem PySem.Spec L2 Rm
variable {α : Type} {clt : ClT} {ns : List Str} {ts : List (Str × Str)} {ms : List Nat} {f : Str → List Str}
end RP
-- wp: XYVU
namespace RP
open PySem PySem.Spec L2 Rm
variable {clt : ClT} {ns : List Str} {ts : List (Str × Str)} {ms : List Nat} {f : Str → List Str}
end RP
-- wp: XYVU
namespace RP
open PySem PySem.Spec L2 Rm
variable {α : Type} {clt : ClT} {ns : List Str} {ts : List (Str × Str)} {ms : List Nat} {f : Str → List Str}
/-- rows that tell the ties -/
structure Rs (ns : List Str) (f : Str → List Str) (ms : List Nat) : Prop where
  w : WebOk ns f
  bit : ∀ i j, i < ns.length → j < ns.length → (nm ns j ∈ f (nm ns i) ↔ (rw_ ms i).testBit j = true)
theorem Kw.rs (g : Kw ns ts ms) : Rs ns (leadOf ts) ms := ⟨g.web, fun i j hi hj => adj_nm g hi hj⟩
end RP
-- wp: XYVU
namespace RP
open PySem PySem.Spec L2 Rm
variable {α : Type} {clt : ClT} {ns : List Str} {ts : List (Str × Str)} {ms : List Nat} {f : Str → List Str}
end RP
-- wp: XYVU
namespace RP
open PySem PySem.Spec L2 Rm
variable {α : Type} {clt : ClT} {ns : List Str} {ts : List (Str × Str)} {ms : List Nat} {f : Str → List Str}
end RP
-- wp: XYVU
namespace RP
open PySem PySem.Spec L2 Rm
variable {α : Type} {clt : ClT} {ns : List Str} {ts dt : List (Str × Str)} {ms : List Nat} {f g : Str → List Str}
end RP
-- wp: XYVU
namespace RP
open PySem PySem.Spec L2 Rm
variable {clt : ClT}
end RP
-- wp: XYV
namespace RP
open PySem PySem.Spec L2 Rm
open SX (S join_S S_cat S_tl S_len split_S)
variable {clt : ClT}
theorem wd54_nm : ∀ x ∈ wd54, Nm x := by
  have : wd54.all (fun x => decide (1 ≤ x.length) && (decide (x.length ≤ 6) && (cd x).all fun c => decide (97 ≤ c) && decide (c ≤ 122))) = true := by decide +kernel
  intro x m
  have h := List.all_eq_true.mp this x m
  simp only [Bool.and_eq_true, decide_eq_true_eq, List.all_eq_true] at h
  exact ⟨h.1, h.2.1, h.2.2⟩
theorem wd54_nd : wd54.Nodup := by decide +kernel
/-- the letter of the k-th name -/
def lt54 (first : Nat) (b : Int) (k : Nat) : Nat := (((first : Int) + 7 * b * (k : Int)) % 26).toNat
theorem lt54_lt (first : Nat) (b : Int) (k : Nat) : lt54 first b k < 26 := by unfold lt54; omega
theorem lt54_inj {first : Nat} {b : Int} (hb : b = 1 ∨ b = -1) {i j : Nat} (hi : i < 12) (hj : j < 12) (e : lt54 first b i = lt54 first b j) : i = j := by
  unfold lt54 at e
  rcases hb with rfl | rfl <;> omega
structure NJ (mode first : Nat) (b : Int) (i : Nat) (ns : List Str) : Prop where
  len : ns.length = i
  gn : GN ns
  m1 : mode = 1 → ∀ x ∈ ns, ∃ j < i, (cd x).getLast? = some (97 + lt54 first b j)
  m2 : mode = 2 → ∀ x ∈ ns, ∃ j < i, (cd x).head? = some (97 + lt54 first b j)
  m3 : mode ≠ 1 → mode ≠ 2 → ∀ x ∈ ns, (x.length ≤ 5 ∧ x.length ≤ i) ∨ (x.length = 6 ∧ ∃ j < i, 4 < j ∧ (cd x).getLast? = some (97 + lt54 first b j))
theorem NJ.snoc {mode first b i ns x} (h : NJ mode first b i ns) (ok : Nm x) (nx : x ∉ ns) (h1 : mode = 1 → (cd x).getLast? = some (97 + lt54 first b i)) (h2 : mode = 2 → (cd x).head? = some (97 + lt54 first b i))
    (h3 : mode ≠ 1 → mode ≠ 2 → (x.length ≤ 5 ∧ x.length ≤ i + 1) ∨ (x.length = 6 ∧ 4 < i ∧ (cd x).getLast? = some (97 + lt54 first b i))) : NJ mode first b (i + 1) (ns ++ [x]) := by
  refine ⟨by simp [h.len], ⟨?_, ?_⟩, ?_, ?_, ?_⟩
  · rw [List.nodup_append]
    exact ⟨h.gn.nd, by simp, fun a ha b hb => by
      rw [List.mem_singleton] at hb
      rintro rfl
      exact nx (hb ▸ ha)⟩
  · intro y m
    rcases List.mem_append.mp m with m | m
    · exact h.gn.ok y m
    · rw [List.mem_singleton.mp m]; exact ok
  · intro e y m
    rcases List.mem_append.mp m with m | m
    · obtain ⟨j, hj, q⟩ := h.m1 e y m
      exact ⟨j, by omega, q⟩
    · rw [List.mem_singleton.mp m]
      exact ⟨i, by omega, h1 e⟩
  · intro e y m
    rcases List.mem_append.mp m with m | m
    · obtain ⟨j, hj, q⟩ := h.m2 e y m
      exact ⟨j, by omega, q⟩
    · rw [List.mem_singleton.mp m]
      exact ⟨i, by omega, h2 e⟩
  · intro e e' y m
    rcases List.mem_append.mp m with m | m
    · rcases h.m3 e e' y m with ⟨p, q⟩ | ⟨p, j, hj, h4, q⟩
      · exact .inl ⟨p, by omega⟩
      · exact .inr ⟨p, j, by omega, h4, q⟩
    · rw [List.mem_singleton.mp m]
      rcases h3 e e' with p | ⟨p, h4, q⟩
      · exact .inl p
      · exact .inr ⟨p, i, by omega, h4, q⟩
theorem names_gn {n many : Nat} {d : D} {K X} (h : Bx3 n d) (hn : n < 2 ^ 45) (hm : many ≤ 12) (k : ∀ (ns : List Str) d', GN ns → ns.length = many → Bx3 (n + 30) d' → K (.lst (ns.map .str)) [d', .int many]) : Wp (F_l_names clt [d, .int many]) K X := by
  unfold F_l_names b_l_names
  have hlim : lim = 1000000 := rfl
  try simp only [↓wpV, ↓wpY, ↓wpX, wipeE, Option.isSome_none, Option.isSome_some, Option.bind_some, ↓wpF, List.replicate, List.cons_append, List.nil_append, List.append_nil, ↓wpS, ↓wpN, ↓wpE, wpB, List.set_cons_zero, List.set_cons_succ, ↓wpO, ↓wpP, ↓wpW, ↓wpR, ↓wpD, ↓wpC, wpT, wpQ, true_and, wpA, ↓wpI, decide_eq_true_eq, Bool.not_true, Bool.not_false, if_true, Bool.false_eq_true, if_false, List.take_succ_cons, List.take_zero]
  refine ⟨by simp [hlim], takeM_w (m := 4) h (by omega) (by decide) (by decide) fun mode d1 b1 h1 => ?_⟩
  try simp only [↓wpV, ↓wpY, ↓wpX, wipeE, Option.isSome_none, Option.isSome_some, Option.bind_some, ↓wpF, List.replicate, List.cons_append, List.nil_append, List.append_nil, ↓wpS, ↓wpN, ↓wpE, wpB, List.set_cons_zero, List.set_cons_succ, ↓wpO, ↓wpP, ↓wpW, ↓wpR, ↓wpD, ↓wpC, wpT, wpQ, true_and, wpA, ↓wpI, decide_eq_true_eq, Bool.not_true, Bool.not_false, if_true, Bool.false_eq_true, if_false, List.take_succ_cons, List.take_zero]
  refine takeM_w (m := 26) h1 (by omega) (by decide) (by decide) fun first d2 b2 h2 => ?_
  try simp only [↓wpV, ↓wpY, ↓wpX, wipeE, Option.isSome_none, Option.isSome_some, Option.bind_some, ↓wpF, List.replicate, List.cons_append, List.nil_append, List.append_nil, ↓wpS, ↓wpN, ↓wpE, wpB, List.set_cons_zero, List.set_cons_succ, ↓wpO, ↓wpP, ↓wpW, ↓wpR, ↓wpD, ↓wpC, wpT, wpQ, true_and, wpA, ↓wpI, decide_eq_true_eq, Bool.not_true, Bool.not_false, if_true, Bool.false_eq_true, if_false, List.take_succ_cons, List.take_zero]
  refine ⟨by simp [hlim], takeM_w (m := 2) h2 (by omega) (by decide) (by decide) fun tu d3 b3 h3 => ?_⟩
  have back : ∃ b : Int, (b = 1 ∨ b = -1) ∧ ∀ P : D → Prop, P (.int b) → oK (Rm.gSub [D.lst [D.int 1, D.int (-1)], .int (tu : Int)]) P := by
    have : tu = 0 ∨ tu = 1 := by omega
    rcases this with rfl | rfl
    · exact ⟨1, .inl rfl, fun P p => p⟩
    · exact ⟨-1, .inr rfl, fun P p => p⟩
  obtain ⟨b, hb, hB⟩ := back
  refine hB _ ?_
  try simp only [↓wpV, ↓wpY, ↓wpX, wipeE, Option.isSome_none, Option.isSome_some, Option.bind_some, ↓wpF, List.replicate, List.cons_append, List.nil_append, List.append_nil, ↓wpS, ↓wpN, ↓wpE, wpB, List.set_cons_zero, List.set_cons_succ, ↓wpO, ↓wpP, ↓wpW, ↓wpR, ↓wpD, ↓wpC, wpT, wpQ, true_and, wpA, ↓wpI, decide_eq_true_eq, Bool.not_true, Bool.not_false, if_true, Bool.false_eq_true, if_false, List.take_succ_cons, List.take_zero]
  have mI : (((mode : Nat) : Int) = 0) ↔ mode = 0 := by omega
  have rL : (rngD 0 (many : Int).toNat).length ≤ lim := by rw [rngD_len]; omega
  by_cases c0 : mode = 0
  · rw [if_pos (mI.mpr c0)]
    refine ⟨⟨by omega, by omega⟩, rL, ?_⟩
    rw [rng_map, Int.toNat_natCast]
    have wl : wd54.length = 12 := rfl
    refine lc_pure (fun k : Nat => D.int (k : Int)) (fun _ => true) (fun k => wd54.getD (((first + 5 * b * k) % 12).toNat) ⟨#[]⟩) D.str (fun k hk => ?_) ?_
    · have hk12 : k < 12 := by have := List.mem_range.mp hk; omega
      try simp only [↓wpV, ↓wpY, ↓wpX, wipeE, Option.isSome_none, Option.isSome_some, Option.bind_some, ↓wpF, List.replicate, List.cons_append, List.nil_append, List.append_nil, ↓wpS, ↓wpN, ↓wpE, wpB, List.set_cons_zero, List.set_cons_succ, ↓wpO, ↓wpP, ↓wpW, ↓wpR, ↓wpD, ↓wpC, wpT, wpQ, true_and, wpA, ↓wpI, decide_eq_true_eq, Bool.not_true, Bool.not_false, if_true, Bool.false_eq_true, if_false, List.take_succ_cons, List.take_zero]
      refine ⟨.inl (by decide), .inl (by rcases hb with rfl | rfl <;> decide), by decide, ?_⟩
      have q1 := Int.emod_nonneg ((first : Int) + 5 * b * (k : Int)) (show (12 : Int) ≠ 0 by decide)
      have q2 := Int.emod_lt_of_pos ((first : Int) + 5 * b * (k : Int)) (show (0 : Int) < 12 by decide)
      generalize ((first : Int) + 5 * b * (k : Int)) % 12 = q at q1 q2
      obtain ⟨j, rfl⟩ := Int.eq_ofNat_of_zero_le q1
      have lj : j < (wd54.map D.str).length := by rw [List.length_map]; show j < 12; omega
      refine (atI_lt (xs := wd54.map D.str) lj _).mpr ?_
      rw [Int.toNat_natCast, List.getElem_map, List.getD_eq_getElem?_getD, List.getElem?_eq_getElem (by rw [List.length_map] at lj; exact lj)]
      exact ⟨rfl, trivial⟩
    · rw [show ∀ l : List Nat, l.filter (fun _ => true) = l from fun l => by simp]
      have lt : ∀ a : Nat, ((first + 5 * b * a) % 12).toNat < wd54.length := fun a => by rw [wl]; omega
      have gd : ∀ a : Nat, wd54.getD (((first + 5 * b * a) % 12).toNat) ⟨#[]⟩ = wd54[((first + 5 * b * a) % 12).toNat]'(lt a) := fun a => by
        rw [List.getD_eq_getElem?_getD, List.getElem?_eq_getElem (lt a)]; rfl
      refine k _ d3 ⟨nodup_map List.nodup_range fun a ha c hc e => ?_, fun x m => ?_⟩ (by simp) (h3.mono (by omega))
      · have := List.mem_range.mp ha
        have := List.mem_range.mp hc
        rw [gd, gd] at e
        have := (List.getElem_inj wd54_nd).mp e
        rcases hb with rfl | rfl <;> omega
      · obtain ⟨a, ha, rfl⟩ := List.mem_map.mp m
        rw [gd]
        exact wd54_nm _ (List.getElem_mem _)
  · rw [if_neg (fun z => c0 (mI.mp z))]
    try simp only [↓wpV, ↓wpY, ↓wpX, wipeE, Option.isSome_none, Option.isSome_some, Option.bind_some, ↓wpF, List.replicate, List.cons_append, List.nil_append, List.append_nil, ↓wpS, ↓wpN, ↓wpE, wpB, List.set_cons_zero, List.set_cons_succ, ↓wpO, ↓wpP, ↓wpW, ↓wpR, ↓wpD, ↓wpC, wpT, wpQ, true_and, wpA, ↓wpI, decide_eq_true_eq, Bool.not_true, Bool.not_false, if_true, Bool.false_eq_true, if_false, List.take_succ_cons, List.take_zero]
    refine ⟨rfl, ⟨by omega, by omega⟩, by rw [rngD_len]; simp [hlim], ?_⟩
    refine lc_inv (fun i acc e => ∃ (cs : List Nat) (d' : D), acc = cs.map chD ∧ (cs.length = i ∧ ∀ c ∈ cs, 97 ≤ c ∧ c ≤ 122) ∧ Bx3 (n + 3 + i) d' ∧ e = [d', .int many, .str az, .lst (wd54.map .str), .int mode, .int first, .int b, .non, .non, .non, .non]) ⟨[], d3, rfl, ⟨rfl, fun _ m => nomatch m⟩, h3, rfl⟩ ?_ ?_
    · rintro i x acc e hx ⟨cs, d', rfl, ⟨hc, hp⟩, hb, rfl⟩
      obtain ⟨hi, rfl⟩ := rngD_get hx
      have hi5 : i < 5 := by simpa using hi
      try simp only [↓wpV, ↓wpY, ↓wpX, wipeE, Option.isSome_none, Option.isSome_some, Option.bind_some, ↓wpF, List.replicate, List.cons_append, List.nil_append, List.append_nil, ↓wpS, ↓wpN, ↓wpE, wpB, List.set_cons_zero, List.set_cons_succ, ↓wpO, ↓wpP, ↓wpW, ↓wpR, ↓wpD, ↓wpC, wpT, wpQ, true_and, wpA, ↓wpI, decide_eq_true_eq, Bool.not_true, Bool.not_false, if_true, Bool.false_eq_true, if_false, List.take_succ_cons, List.take_zero]
      refine takeM_w (m := 26) hb (by omega) (by decide) (by decide) fun v d5 b5 h5 => ?_
      try simp only [↓wpV, ↓wpY, ↓wpX, wipeE, Option.isSome_none, Option.isSome_some, Option.bind_some, ↓wpF, List.replicate, List.cons_append, List.nil_append, List.append_nil, ↓wpS, ↓wpN, ↓wpE, wpB, List.set_cons_zero, List.set_cons_succ, ↓wpO, ↓wpP, ↓wpW, ↓wpR, ↓wpD, ↓wpC, wpT, wpQ, true_and, wpA, ↓wpI, decide_eq_true_eq, Bool.not_true, Bool.not_false, if_true, Bool.false_eq_true, if_false, List.take_succ_cons, List.take_zero]
      have lv : v < az.cps.toList.length := by rw [show az.cps.toList.length = 26 from az_len]; omega
      rw [atI_lt lv]
      refine ⟨by decide +kernel, cs ++ [97 + v], d5, by rw [List.map_append]; simp only [List.map_cons, List.map_nil]; rw [show az.cps.toList[v] = 97 + v from az_get lv], ⟨by simp [hc], fun c m => ?_⟩, h5, rfl⟩
      rcases List.mem_append.mp m with m | m
      · exact hp c m
      · rw [List.mem_singleton.mp m]; omega
    · rintro acc e ⟨cs, d5, rfl, ⟨hc, hp⟩, hbx, rfl⟩
      rw [rngD_len] at hc hbx
      have hc5 : cs.length = 5 := by simpa using hc
      try simp only [↓wpV, ↓wpY, ↓wpX, wipeE, Option.isSome_none, Option.isSome_some, Option.bind_some, ↓wpF, List.replicate, List.cons_append, List.nil_append, List.append_nil, ↓wpS, ↓wpN, ↓wpE, wpB, List.set_cons_zero, List.set_cons_succ, ↓wpO, ↓wpP, ↓wpW, ↓wpR, ↓wpD, ↓wpC, wpT, wpQ, true_and, wpA, ↓wpI, decide_eq_true_eq, Bool.not_true, Bool.not_false, if_true, Bool.false_eq_true, if_false, List.take_succ_cons, List.take_zero]
      refine join_wp (by omega) ?_
      try simp only [↓wpV, ↓wpY, ↓wpX, wipeE, Option.isSome_none, Option.isSome_some, Option.bind_some, ↓wpF, List.replicate, List.cons_append, List.nil_append, List.append_nil, ↓wpS, ↓wpN, ↓wpE, wpB, List.set_cons_zero, List.set_cons_succ, ↓wpO, ↓wpP, ↓wpW, ↓wpR, ↓wpD, ↓wpC, wpT, wpQ, true_and, wpA, ↓wpI, decide_eq_true_eq, Bool.not_true, Bool.not_false, if_true, Bool.false_eq_true, if_false, List.take_succ_cons, List.take_zero]
      refine ⟨by simp, ⟨by omega, by omega⟩, ?_⟩
      rw [rng_map, Int.toNat_natCast]
      have h5 : Bx3 (n + 8) d5 := hbx.mono (by simp)
      refine for_inv (fun i e => ∃ (ns : List Str) (d' x y : D), NJ mode first b i ns ∧ Bx3 (n + 8 + i) d' ∧ e = [d', .int many, .str az, .lst (wd54.map .str), .int mode, .int first, .int b, .str (S cs), .lst (ns.map .str), x, y]) ⟨[], d5, .non, .non, ⟨rfl, ⟨.nil, fun _ m => (nomatch m)⟩, fun _ _ m => (nomatch m), fun _ _ m => (nomatch m), fun _ _ _ m => (nomatch m)⟩, h5, rfl⟩ ?_ ?_
      · rintro i v e hx ⟨ns, d', x, y, hJ, hI, rfl⟩
        rw [List.getElem?_map] at hx
        have hi : i < many := by
          by_cases h : i < many
          · exact h
          · rw [List.getElem?_eq_none (by simpa using h)] at hx; cases hx
        rw [List.getElem?_range hi] at hx
        cases hx
        try simp only [↓wpV, ↓wpY, ↓wpX, wipeE, Option.isSome_none, Option.isSome_some, Option.bind_some, ↓wpF, List.replicate, List.cons_append, List.nil_append, List.append_nil, ↓wpS, ↓wpN, ↓wpE, wpB, List.set_cons_zero, List.set_cons_succ, ↓wpO, ↓wpP, ↓wpW, ↓wpR, ↓wpD, ↓wpC, wpT, wpQ, true_and, wpA, ↓wpI, decide_eq_true_eq, Bool.not_true, Bool.not_false, if_true, Bool.false_eq_true, if_false, List.take_succ_cons, List.take_zero]
        refine ⟨.inl (by decide), .inl (by rcases hb with rfl | rfl <;> decide), by decide, ?_⟩
        have q1 := Int.emod_nonneg ((first : Int) + 7 * b * (i : Int)) (show (26 : Int) ≠ 0 by decide)
        have q2 := Int.emod_lt_of_pos ((first : Int) + 7 * b * (i : Int)) (show (0 : Int) < 26 by decide)
        have qe : ((first : Int) + 7 * b * (i : Int)) % 26 = ((lt54 first b i : Nat) : Int) := by unfold lt54; omega
        rw [qe]
        have jl := lt54_lt first b i
        generalize hj : lt54 first b i = j at jl
        have l26 : j < az.cps.toList.length := by rw [show az.cps.toList.length = 26 from az_len]; omega
        rw [atI_lt l26]
        have eg : az.cps.toList[j] = 97 + j := az_get l26
        rw [eg]
        have cS5 : (S cs).length = 5 := by rw [S_len]; exact hc5
        simp only [chD, ↓wpV, ↓wpY, ↓wpX, wipeE, Option.isSome_none, Option.isSome_some, Option.bind_some, ↓wpF, List.replicate, List.cons_append, List.nil_append, List.append_nil, ↓wpS, ↓wpN, ↓wpE, wpB, List.set_cons_zero, List.set_cons_succ, ↓wpO, ↓wpP, ↓wpW, ↓wpR, ↓wpD, ↓wpC, wpT, wpQ, true_and, wpA, ↓wpI, decide_eq_true_eq, Bool.not_true, Bool.not_false, if_true, Bool.false_eq_true, if_false, List.take_succ_cons, List.take_zero]
        have pS : ∀ c ∈ cd (S cs), 97 ≤ c ∧ c ≤ 122 := fun c m => by rw [cd_S] at m; exact hp c m
        have pC : ∀ i : Nat, ∀ c ∈ cd (cutS (S cs) none (some (i : Int))), 97 ≤ c ∧ c ≤ 122 := fun i c m => by
          rw [cd_take] at m; exact pS c (List.mem_of_mem_take m)
        have pj : ∀ c ∈ cd (⟨#[97 + j]⟩ : Str), 97 ≤ c ∧ c ≤ 122 := fun c m => by
          have : c = 97 + j := by simpa using m
          omega
        have lj : (⟨#[97 + j]⟩ : Str).length = 1 := rfl
        have ln : ∀ i : Nat, (cutS (S cs) none (some (i : Int))).length = min i 5 := fun i => by
          rw [← cd_len, cd_take, List.length_take, cd_S, hc5]
        have hlen : (ns.map D.str).length < lim := by rw [List.length_map, hJ.len]; omega
        have azl : az.length ≤ lim := by decide +kernel
        have pcat : ∀ {x y : Str}, (∀ c ∈ cd x, 97 ≤ c ∧ c ≤ 122) → (∀ c ∈ cd y, 97 ≤ c ∧ c ≤ 122) → ∀ c ∈ cd (x ++ y), 97 ≤ c ∧ c ≤ 122 := fun {x y} hx hy c m => by
          rw [cd_cat] at m
          exact (List.mem_append.mp m).elim (hx c) (hy c)
        have fin : ∀ {z : Str} {d'' : D}, NJ mode first b (i + 1) (ns ++ [z]) → Bx3 (n + 8 + (i + 1)) d'' → ∃ (ns_1 : List Str) (d' x y : D), NJ mode first b (i + 1) ns_1 ∧ Bx3 (n + 8 + (i + 1)) d' ∧ [d'', D.int (many : Int), D.str az, D.lst (wd54.map D.str), D.int (mode : Int), D.int (first : Int), D.int b, D.str (S cs), D.lst (ns.map D.str ++ [D.str z]), D.int (i : Int), D.str ⟨#[97 + j]⟩] = [d', D.int (many : Int), D.str az, D.lst (wd54.map D.str), D.int (mode : Int), D.int (first : Int), D.int b, D.str (S cs), D.lst (ns_1.map D.str), x, y] := fun {z d''} hz hd => ⟨ns ++ [z], d'', _, _, hz, hd, by rw [List.map_append]; rfl⟩
        refine ⟨azl, ?_⟩
        have m1 : (((mode : Nat) : Int) = 1) ↔ mode = 1 := by omega
        have m2 : (((mode : Nat) : Int) = 2) ↔ mode = 2 := by omega
        have i12 : i < 12 := by omega
        by_cases c1 : mode = 1
        · rw [if_pos (m1.mpr c1)]
          have e6 : ((i : Int) % 6) = ((i % 6 : Nat) : Int) := by omega
          rw [e6]
          have l1 := ln (i % 6)
          refine ⟨rfl, by decide, by omega, by omega, hlen, fin (hJ.snoc ⟨by rw [cat_len]; omega, by rw [cat_len]; omega, pcat (pC _) pj⟩ ?_ ?_ ?_ ?_) (hI.mono (by omega))⟩
          · intro m
            obtain ⟨j', hj', e⟩ := hJ.m1 c1 _ m
            rw [cd_cat, cd_ch, List.getLast?_append] at e
            have e : some (97 + j) = some (97 + lt54 first b j') := e
            have := lt54_inj (first := first) hb i12 (show j' < 12 by omega) (by have := Option.some.inj e; omega)
            omega
          · intro _; rw [cd_cat, cd_ch, List.getLast?_append, hj]; rfl
          · intro z; omega
          · intro z; exact absurd c1 z
        rw [if_neg (fun z => c1 (m1.mp z))]
        by_cases c2 : mode = 2
        · rw [if_pos (m2.mpr c2)]
          refine ⟨rfl, takeM_w (m := 6) hI (by omega) (by decide) (by decide) fun v d6 b6 h6 => ?_⟩
          try simp only [↓wpV, ↓wpY, ↓wpX, wipeE, Option.isSome_none, Option.isSome_some, Option.bind_some, ↓wpF, List.replicate, List.cons_append, List.nil_append, List.append_nil, ↓wpS, ↓wpN, ↓wpE, wpB, List.set_cons_zero, List.set_cons_succ, ↓wpO, ↓wpP, ↓wpW, ↓wpR, ↓wpD, ↓wpC, wpT, wpQ, true_and, wpA, ↓wpI, decide_eq_true_eq, Bool.not_true, Bool.not_false, if_true, Bool.false_eq_true, if_false, List.take_succ_cons, List.take_zero]
          have l1 := ln v
          refine ⟨by omega, by omega, hlen, fin (hJ.snoc ⟨by rw [cat_len]; omega, by rw [cat_len]; omega, pcat pj (pC _)⟩ ?_ ?_ ?_ ?_) h6⟩
          · intro m
            obtain ⟨j', hj', e⟩ := hJ.m2 c2 _ m
            rw [cd_cat, cd_ch] at e
            have e : some (97 + j) = some (97 + lt54 first b j') := e
            have := lt54_inj (first := first) hb i12 (show j' < 12 by omega) (by have := Option.some.inj e; omega)
            omega
          · intro z; omega
          · intro _; rw [cd_cat, cd_ch, hj]; rfl
          · intro _ z; exact absurd c2 z
        · rw [if_neg (fun z => c2 (m2.mp z))]
          refine ⟨rfl, by omega, by omega, by simp [hlim], ?_⟩
          by_cases c3 : 4 < (i : Int)
          · rw [if_pos c3]
            refine ⟨hlen, fin (hJ.snoc ⟨by rw [cat_len]; omega, by rw [cat_len]; omega, pcat pS pj⟩ ?_ ?_ ?_ ?_) (hI.mono (by omega))⟩
            · intro m
              rcases hJ.m3 c1 c2 _ m with ⟨p, _⟩ | ⟨_, j', hj', _, e⟩
              · rw [cat_len] at p; omega
              · rw [cd_cat, cd_ch, List.getLast?_append] at e
                have e : some (97 + j) = some (97 + lt54 first b j') := e
                have := lt54_inj (first := first) hb i12 (show j' < 12 by omega) (by have := Option.some.inj e; omega)
                omega
            · intro z; exact absurd z c1
            · intro z; exact absurd z c2
            · intro _ _
              exact .inr ⟨by rw [cat_len]; omega, by omega, by rw [cd_cat, cd_ch, List.getLast?_append, hj]; rfl⟩
          · rw [if_neg c3]
            have e1 : ((i : Int) + 1) = ((i + 1 : Nat) : Int) := by omega
            rw [e1]
            have l1 := ln (i + 1)
            refine ⟨hlen, fin (hJ.snoc ⟨by omega, by omega, pC _⟩ ?_ ?_ ?_ ?_) (hI.mono (by omega))⟩
            · intro m
              rcases hJ.m3 c1 c2 _ m with ⟨_, p⟩ | ⟨_, j', hj', h4, _⟩
              · omega
              · omega
            · intro z; exact absurd z c1
            · intro z; exact absurd z c2
            · intro _ _
              exact .inl ⟨by omega, by omega⟩
      · rintro e ⟨ns, d', x, y, hJ, hI, rfl⟩
        have lr : ((List.range many).map fun (k : Nat) => D.int (k : Int)).length = many := by simp
        rw [lr] at hJ hI
        try simp only [↓wpV, ↓wpY, ↓wpX, wipeE, Option.isSome_none, Option.isSome_some, Option.bind_some, ↓wpF, List.replicate, List.cons_append, List.nil_append, List.append_nil, ↓wpS, ↓wpN, ↓wpE, wpB, List.set_cons_zero, List.set_cons_succ, ↓wpO, ↓wpP, ↓wpW, ↓wpR, ↓wpD, ↓wpC, wpT, wpQ, true_and, wpA, ↓wpI, decide_eq_true_eq, Bool.not_true, Bool.not_false, if_true, Bool.false_eq_true, if_false, List.take_succ_cons, List.take_zero]
        exact k ns d' hJ.gn hJ.len (hI.mono (by omega))
end RP
-- wp: XYVUH
namespace RP
open PySem PySem.Spec L2 Rm
open SX (S join_S S_cat S_tl S_len split_S)
variable {clt : ClT}
def lsD (ns : List Str) (a : Str → List Str) : D := .dK (kvs ns fun x => .lst ((a x).map .str))
def tsD (ns : List Str) (a : Str → List Str) : D := .dK (kvs ns fun x => .tup ((a x).map .str))
def mkD (ns : List Str) (a b : Str → List Str) : D := .ins 20 [("called", .lst (ns.map .str)), ("sides", .dK [(.inr ("ahead" : Str), tsD ns a), (.inr ("behind" : Str), tsD ns b)])]
structure MkOk (ns : List Str) (a : Str → List Str) : Prop where
  nd : ∀ x ∈ ns, (a x).Nodup
  sub : ∀ x ∈ ns, ∀ m ∈ a x, m ∈ ns
theorem MkOk.len {ns a} (h : MkOk ns a) {x : Str} (m : x ∈ ns) : (a x).length ≤ ns.length := List.Subset.nodup_length_le (h.nd x m) (h.sub x m)
theorem eraseP {α : Type} : ∀ {l : List α} {i : Nat} (h : i < l.length), (l[i] :: l.eraseIdx i).Perm l
  | x :: l, 0, _ => .refl _
  | x :: l, i + 1, h => by
    simp only [List.getElem_cons_succ, List.eraseIdx_cons_succ]
    exact (List.Perm.swap _ _ _).trans (List.Perm.cons _ (eraseP (by simpa using h)))
theorem eraseM {α β : Type} (f : α → β) : ∀ (l : List α) (j : Nat), (l.map f).eraseIdx j = (l.eraseIdx j).map f
  | [], _ => rfl
  | x :: l, 0 => rfl
  | x :: l, j + 1 => by simp [eraseM f l j]
theorem some_w {n : Nat} {d : D} {ns : List Str} {K X} (h : Bx3 n d) (hn : n < 2 ^ 45) (g : GN ns) (l : ns.length ≤ 12) (k : ∀ (xs : List Str) d', xs.Nodup → (∀ x ∈ xs, x ∈ ns) → Bx3 (n + 20) d' → K (.lst (xs.map .str)) [d', .lst (ns.map .str)]) : Wp (F_l_some_k18 clt [d, .lst (ns.map .str)]) K X := by
  unfold F_l_some_k18 b_l_some_k18
  have hlim : lim = 1000000 := rfl
  try simp only [↓wpH, ↓wpU, ↓wpV, ↓wpY, ↓wpX, wipeE, Option.isSome_none, Option.isSome_some, Option.bind_some, ↓wpF, List.replicate, List.cons_append, List.nil_append, List.append_nil, ↓wpS, ↓wpN, ↓wpE, wpB, List.set_cons_zero, List.set_cons_succ, ↓wpO, ↓wpP, ↓wpW, ↓wpR, ↓wpD, ↓wpC, wpT, wpQ, true_and, wpA, ↓wpI, decide_eq_true_eq, Bool.not_true, Bool.not_false, if_true, Bool.false_eq_true, if_false, List.take_succ_cons, List.take_zero]
  refine ⟨by simp [hlim], takeM_w (m := 3) h (by omega) (by decide) (by decide) fun v d1 b1 h1 => ?_⟩
  have most : ∃ m : Nat, m ≤ ns.length ∧ ∀ P : D → Prop, P (.int (m : Int)) → oK (Rm.gSub [D.lst [D.int (min 2 (((ns.map D.str).length : Nat) : Int)), D.int (min 4 (((ns.map D.str).length : Nat) : Int)), D.int (((ns.map D.str).length : Nat) : Int)], .int (v : Int)]) P := by
    rw [List.length_map]
    have : v = 0 ∨ v = 1 ∨ v = 2 := by omega
    rcases this with rfl | rfl | rfl
    · refine ⟨min 2 ns.length, by omega, fun P p => ?_⟩
      have e : (min 2 ((ns.length : Nat) : Int)) = ((min 2 ns.length : Nat) : Int) := by omega
      rw [← e] at p; exact p
    · refine ⟨min 4 ns.length, by omega, fun P p => ?_⟩
      have e : (min 4 ((ns.length : Nat) : Int)) = ((min 4 ns.length : Nat) : Int) := by omega
      rw [← e] at p; exact p
    · exact ⟨ns.length, by omega, fun P p => p⟩
  obtain ⟨m, hm, hM⟩ := most
  refine hM _ ?_
  try simp only [↓wpH, ↓wpU, ↓wpV, ↓wpY, ↓wpX, wipeE, Option.isSome_none, Option.isSome_some, Option.bind_some, ↓wpF, List.replicate, List.cons_append, List.nil_append, List.append_nil, ↓wpS, ↓wpN, ↓wpE, wpB, List.set_cons_zero, List.set_cons_succ, ↓wpO, ↓wpP, ↓wpW, ↓wpR, ↓wpD, ↓wpC, wpT, wpQ, true_and, wpA, ↓wpI, decide_eq_true_eq, Bool.not_true, Bool.not_false, if_true, Bool.false_eq_true, if_false, List.take_succ_cons, List.take_zero]
  have e1 : ((m : Int) + 1) = ((m + 1 : Nat) : Int) := by omega
  rw [e1]
  refine ⟨by simp, takeM_w h1 (by omega) (by omega) (by have : (13 : Nat) < 2 ^ 100 := by decide
                                                        omega) fun r d2 b2 h2 => ?_⟩
  try simp only [↓wpH, ↓wpU, ↓wpV, ↓wpY, ↓wpX, wipeE, Option.isSome_none, Option.isSome_some, Option.bind_some, ↓wpF, List.replicate, List.cons_append, List.nil_append, List.append_nil, ↓wpS, ↓wpN, ↓wpE, wpB, List.set_cons_zero, List.set_cons_succ, ↓wpO, ↓wpP, ↓wpW, ↓wpR, ↓wpD, ↓wpC, wpT, wpQ, true_and, wpA, ↓wpI, decide_eq_true_eq, Bool.not_true, Bool.not_false, if_true, Bool.false_eq_true, if_false, List.take_succ_cons, List.take_zero]
  refine ⟨⟨by omega, by omega⟩, ?_⟩
  rw [rng_map, Int.toNat_natCast]
  refine for_inv (fun i e => ∃ (xs ys : List Str) (d' z : D), xs.length = i ∧ (xs ++ ys).Perm ns ∧ Bx3 (n + 2 + i) d' ∧ e = [d', .lst (ns.map .str), .int (m : Int), .lst (ys.map .str), .lst (xs.map .str), z]) ⟨[], ns, d2, .non, rfl, .refl _, h2, rfl⟩ ?_ ?_
  · rintro i v e hx ⟨xs, ys, d', z, hl, hp, hb, rfl⟩
    rw [List.getElem?_map] at hx
    have hi : i < r := by
      by_cases h : i < r
      · exact h
      · rw [List.getElem?_eq_none (by simpa using h)] at hx; cases hx
    rw [List.getElem?_range hi] at hx
    cases hx
    have ln := hp.length_eq
    rw [List.length_append] at ln
    try simp only [↓wpH, ↓wpU, ↓wpV, ↓wpY, ↓wpX, wipeE, Option.isSome_none, Option.isSome_some, Option.bind_some, ↓wpF, List.replicate, List.cons_append, List.nil_append, List.append_nil, ↓wpS, ↓wpN, ↓wpE, wpB, List.set_cons_zero, List.set_cons_succ, ↓wpO, ↓wpP, ↓wpW, ↓wpR, ↓wpD, ↓wpC, wpT, wpQ, true_and, wpA, ↓wpI, decide_eq_true_eq, Bool.not_true, Bool.not_false, if_true, Bool.false_eq_true, if_false, List.take_succ_cons, List.take_zero]
    rw [List.length_map]
    refine ⟨rfl, rfl, takeM_w hb (by omega) (by omega) (by have : (13 : Nat) < 2 ^ 100 := by decide
                                                           omega) fun j d3 b3 h3 => ?_⟩
    try simp only [↓wpH, ↓wpU, ↓wpV, ↓wpY, ↓wpX, wipeE, Option.isSome_none, Option.isSome_some, Option.bind_some, ↓wpF, List.replicate, List.cons_append, List.nil_append, List.append_nil, ↓wpS, ↓wpN, ↓wpE, wpB, List.set_cons_zero, List.set_cons_succ, ↓wpO, ↓wpP, ↓wpW, ↓wpR, ↓wpD, ↓wpC, wpT, wpQ, true_and, wpA, ↓wpI, decide_eq_true_eq, Bool.not_true, Bool.not_false, if_true, Bool.false_eq_true, if_false, List.take_succ_cons, List.take_zero]
    have hj : j < (ys.map D.str).length := by rw [List.length_map]; exact b3
    refine popAt_wp hj (by rw [List.length_map]; omega) ?_
    try simp only [↓wpH, ↓wpU, ↓wpV, ↓wpY, ↓wpX, wipeE, Option.isSome_none, Option.isSome_some, Option.bind_some, ↓wpF, List.replicate, List.cons_append, List.nil_append, List.append_nil, ↓wpS, ↓wpN, ↓wpE, wpB, List.set_cons_zero, List.set_cons_succ, ↓wpO, ↓wpP, ↓wpW, ↓wpR, ↓wpD, ↓wpC, wpT, wpQ, true_and, wpA, ↓wpI, decide_eq_true_eq, Bool.not_true, Bool.not_false, if_true, Bool.false_eq_true, if_false, List.take_succ_cons, List.take_zero]
    rw [List.getElem_map]
    refine ⟨by rw [List.length_map]; omega, xs ++ [ys[j]], ys.eraseIdx j, d3, .int (i : Int), by simp [hl], ?_, h3.mono (by omega), ?_⟩
    · refine List.Perm.trans ?_ hp
      rw [List.append_assoc]
      refine List.Perm.append_left _ ?_
      exact eraseP b3
    · rw [List.map_append]
      have : (ys.map D.str).eraseIdx j = (ys.eraseIdx j).map D.str := eraseM _ _ _
      rw [this]; rfl
  · rintro e ⟨xs, ys, d', z, hl, hp, hb, rfl⟩
    have lr : ((List.range r).map fun (k : Nat) => D.int (k : Int)).length = r := by simp
    rw [lr] at hl hb
    try simp only [↓wpH, ↓wpU, ↓wpV, ↓wpY, ↓wpX, wipeE, Option.isSome_none, Option.isSome_some, Option.bind_some, ↓wpF, List.replicate, List.cons_append, List.nil_append, List.append_nil, ↓wpS, ↓wpN, ↓wpE, wpB, List.set_cons_zero, List.set_cons_succ, ↓wpO, ↓wpP, ↓wpW, ↓wpR, ↓wpD, ↓wpC, wpT, wpQ, true_and, wpA, ↓wpI, decide_eq_true_eq, Bool.not_true, Bool.not_false, if_true, Bool.false_eq_true, if_false, List.take_succ_cons, List.take_zero]
    have nd := (hp.nodup_iff.mpr g.nd)
    rw [List.nodup_append] at nd
    exact k xs d' nd.1 (fun x mx => hp.subset (List.mem_append_left _ mx)) (hb.mono (by omega))
theorem pairsD_map {g : Str → D} : ∀ {ns : List Str}, pairsD (ns.map fun x => .tup [.str x, g x]) = some (kvs ns g)
  | [] => rfl
  | x :: ns => by
    show ((keyD (.str x)).bind fun k => (pairsD (ns.map fun x => .tup [.str x, g x])).map fun l => (k, g x) :: l) = _
    rw [pairsD_map]; rfl
theorem mergeD_kvs {g : Str → D} : ∀ {ns : List Str} {acc : List Str}, (acc ++ ns).Nodup → mergeD (kvs acc g) (kvs ns g) = kvs (acc ++ ns) g
  | [], acc, _ => by rw [List.append_nil]; rfl
  | x :: ns, acc, h => by
    have nx : x ∉ acc := fun m => by
      rw [List.nodup_append] at h
      exact h.2.2 x m x (by simp) rfl
    have e : mergeD (kvs acc g) (kvs (x :: ns) g) = mergeD (putD (kvs acc g) (.inr x) (g x)) (kvs ns g) := rfl
    rw [e, putD_new (by rw [getDk_map, if_neg nx]), ← kvs_snoc, mergeD_kvs (by simpa using h)]
    simp
theorem mergeD_kvs0 {g : Str → D} {ns : List Str} (h : ns.Nodup) : mergeD [] (kvs ns g) = kvs ns g := mergeD_kvs (acc := []) h
/-- a function at one more place -/
def fup (a : Str → List Str) (x : Str) (l : List Str) : Str → List Str := fun y => if y = x then l else a y
theorem fup_at {a x l} : fup a x l x = l := if_pos rfl
theorem fup_ne {a x l y} (h : y ≠ x) : fup a x l y = a y := if_neg h
theorem lists_w {n : Nat} {d : D} {ns : List Str} {K X} (h : Bx3 n d) (hn : n < 2 ^ 44) (g : GN ns) (l : ns.length ≤ 12) (k : ∀ (a : Str → List Str) d', MkOk ns a → Bx3 (n + 240) d' → K (lsD ns a) [d', .lst (ns.map .str)]) : Wp (F_l_lists clt [d, .lst (ns.map .str)]) K X := by
  unfold F_l_lists b_l_lists
  have hlim : lim = 1000000 := rfl
  try simp only [↓wpH, ↓wpU, ↓wpV, ↓wpY, ↓wpX, wipeE, Option.isSome_none, Option.isSome_some, Option.bind_some, ↓wpF, List.replicate, List.cons_append, List.nil_append, List.append_nil, ↓wpS, ↓wpN, ↓wpE, wpB, List.set_cons_zero, List.set_cons_succ, ↓wpO, ↓wpP, ↓wpW, ↓wpR, ↓wpD, ↓wpC, wpT, wpQ, true_and, wpA, ↓wpI, decide_eq_true_eq, Bool.not_true, Bool.not_false, if_true, Bool.false_eq_true, if_false, List.take_succ_cons, List.take_zero]
  refine ⟨by rw [List.length_map]; omega, ?_⟩
  refine lc_inv (fun i acc e => ∃ (a : Str → List Str) (d' : D), (∀ x ∈ ns.take i, (a x).Nodup ∧ ∀ m ∈ a x, m ∈ ns) ∧ acc = (ns.take i).map (fun x => .tup [.str x, .lst ((a x).map .str)]) ∧ Bx3 (n + 20 * i) d' ∧ e = [d', .lst (ns.map .str), .non]) ⟨fun _ => [], d, (by intro x m; simp at m), by simp, h, rfl⟩ ?_ ?_
  · rintro i v acc e hx ⟨a, d', hok, rfl, hb, rfl⟩
    rw [List.getElem?_map] at hx
    cases ex : ns[i]? with
    | none => rw [ex] at hx; cases hx
    | some x =>
      rw [ex] at hx; cases hx
      have hi := (List.getElem?_eq_some_iff.mp ex).1
      try simp only [↓wpH, ↓wpU, ↓wpV, ↓wpY, ↓wpX, wipeE, Option.isSome_none, Option.isSome_some, Option.bind_some, ↓wpF, List.replicate, List.cons_append, List.nil_append, List.append_nil, ↓wpS, ↓wpN, ↓wpE, wpB, List.set_cons_zero, List.set_cons_succ, ↓wpO, ↓wpP, ↓wpW, ↓wpR, ↓wpD, ↓wpC, wpT, wpQ, true_and, wpA, ↓wpI, decide_eq_true_eq, Bool.not_true, Bool.not_false, if_true, Bool.false_eq_true, if_false, List.take_succ_cons, List.take_zero]
      refine some_w hb (by omega) g l fun xs d2 nd sub h2 => ?_
      try simp only [↓wpH, ↓wpU, ↓wpV, ↓wpY, ↓wpX, wipeE, Option.isSome_none, Option.isSome_some, Option.bind_some, ↓wpF, List.replicate, List.cons_append, List.nil_append, List.append_nil, ↓wpS, ↓wpN, ↓wpE, wpB, List.set_cons_zero, List.set_cons_succ, ↓wpO, ↓wpP, ↓wpW, ↓wpR, ↓wpD, ↓wpC, wpT, wpQ, true_and, wpA, ↓wpI, decide_eq_true_eq, Bool.not_true, Bool.not_false, if_true, Bool.false_eq_true, if_false, List.take_succ_cons, List.take_zero]
      have nx := not_take g.nd ex
      refine ⟨by simp [hlim], fup a x xs, d2, fun y m => ?_, ?_, h2.mono (by omega), rfl⟩
      · rw [take_snoc ex] at m
        rcases List.mem_append.mp m with m | m
        · have hy : y ≠ x := fun e => nx (e ▸ m)
          rw [fup_ne hy]; exact hok y m
        · rw [List.mem_singleton.mp m, fup_at]; exact ⟨nd, sub⟩
      · rw [take_snoc ex, List.map_append]
        congr 1
        · exact List.map_congr_left fun y m => by
            have hy : y ≠ x := fun e => nx (e ▸ m)
            rw [fup_ne hy]
        · simp only [List.map_cons, List.map_nil, fup_at]
  · rintro acc e ⟨a, d', hok, rfl, hb, rfl⟩
    rw [List.length_map] at hb hok
    rw [List.take_length] at hok
    try simp only [↓wpH, ↓wpU, ↓wpV, ↓wpY, ↓wpX, wipeE, Option.isSome_none, Option.isSome_some, Option.bind_some, ↓wpF, List.replicate, List.cons_append, List.nil_append, List.append_nil, ↓wpS, ↓wpN, ↓wpE, wpB, List.set_cons_zero, List.set_cons_succ, ↓wpO, ↓wpP, ↓wpW, ↓wpR, ↓wpD, ↓wpC, wpT, wpQ, true_and, wpA, ↓wpI, decide_eq_true_eq, Bool.not_true, Bool.not_false, if_true, Bool.false_eq_true, if_false, List.take_succ_cons, List.take_zero]
    simp only [List.length_map, List.take_length]
    refine ⟨by omega, ?_⟩
    rw [pairsD_map]
    try simp only [↓wpH, ↓wpU, ↓wpV, ↓wpY, ↓wpX, wipeE, Option.isSome_none, Option.isSome_some, Option.bind_some, ↓wpF, List.replicate, List.cons_append, List.nil_append, List.append_nil, ↓wpS, ↓wpN, ↓wpE, wpB, List.set_cons_zero, List.set_cons_succ, ↓wpO, ↓wpP, ↓wpW, ↓wpR, ↓wpD, ↓wpC, wpT, wpQ, true_and, wpA, ↓wpI, decide_eq_true_eq, Bool.not_true, Bool.not_false, if_true, Bool.false_eq_true, if_false, List.take_succ_cons, List.take_zero]
    rw [mergeD_kvs0 g.nd]
    exact k a d' ⟨fun x m => (hok x m).1, fun x m => (hok x m).2⟩ (hb.mono (by omega))
/-- a dict of lists or tuples, in any order -/
structure Hd (ns : List Str) (a : Str → List Str) (os : List Str) (g : Str → D) : Prop where
  perm : os.Perm ns
  seq : ∀ x ∈ ns, SeqD (g x) ((a x).map .str)
theorem getls {ns : List Str} {a : Str → List Str} {x : Str} (m : x ∈ ns) {P} : oK (Rm.gSub [lsD ns a, .str x]) P = P (.lst ((a x).map .str)) := by
  show oK (getDk (kvs ns _) (.inr x)) P = _
  rw [getDk_map, if_pos m]; rfl
end RP
-- wp: XYVUHG
namespace RP
open PySem PySem.Spec L2 Rm
open SX (S join_S S_cat S_tl S_len split_S)
variable {clt : ClT}
theorem aremarks_w {r : D} {ns l : List Str} {K X} (g : GN ns) (l12 : ns.length ≤ 12) (hr : SeqD r (l.map .str)) (nd : l.Nodup) (sub : ∀ m ∈ l, m ∈ ns) (k : K (.bl true) [.lst (ns.map .str), r]) : Wp (F_are_marks clt [.lst (ns.map .str), r]) K X := by
  unfold F_are_marks b_are_marks
  have hlim : lim = 1000000 := rfl
  have ll := List.Subset.nodup_length_le nd sub
  have e : gIsiT2 clt [r, .ty "list", .ty "tuple"] = some (.bl true) := by
    unfold gIsiT2
    simp only
    rw [if_pos ⟨Nat.le_of_ble_eq_true rfl, by simp⟩]
    rcases hr with rfl | rfl <;> rfl
  simp only [e, seq_len hr, ↓wpG, ↓wpH, ↓wpU, ↓wpV, ↓wpY, ↓wpX, wipeE, Option.isSome_none, Option.isSome_some, Option.bind_some, ↓wpF, List.replicate, List.cons_append, List.nil_append, List.append_nil, ↓wpS, ↓wpN, ↓wpE, wpB, List.set_cons_zero, List.set_cons_succ, ↓wpO, ↓wpP, ↓wpW, ↓wpR, ↓wpD, ↓wpC, wpT, wpQ, true_and, wpA, ↓wpI, decide_eq_true_eq, Bool.not_true, Bool.not_false, if_true, Bool.false_eq_true, if_false, List.take_succ_cons, List.take_zero]
  rw [List.length_map, List.length_map]
  rw [if_neg (by omega)]
  simp only [seq_list hr, ↓wpG, ↓wpH, ↓wpU, ↓wpV, ↓wpY, ↓wpX, wipeE, Option.isSome_none, Option.isSome_some, Option.bind_some, ↓wpF, List.replicate, List.cons_append, List.nil_append, List.append_nil, ↓wpS, ↓wpN, ↓wpE, wpB, List.set_cons_zero, List.set_cons_succ, ↓wpO, ↓wpP, ↓wpW, ↓wpR, ↓wpD, ↓wpC, wpT, wpQ, true_and, wpA, ↓wpI, decide_eq_true_eq, Bool.not_true, Bool.not_false, if_true, Bool.false_eq_true, if_false, List.take_succ_cons, List.take_zero]
  refine ⟨Nat.zero_le _, ?_⟩
  refine Rm.for_list D.str (fun i e => ∃ z, e = [.lst (ns.map .str), r, .lst ((l.take i).map .str), z]) ⟨_, rfl⟩ ?_ ?_
  · rintro i x e hx ⟨z, rfl⟩
    have hi := (List.getElem?_eq_some_iff.mp hx).1
    have mx := List.mem_of_getElem? hx
    have nx := not_take nd hx
    try simp only [↓wpG, ↓wpH, ↓wpU, ↓wpV, ↓wpY, ↓wpX, wipeE, Option.isSome_none, Option.isSome_some, Option.bind_some, ↓wpF, List.replicate, List.cons_append, List.nil_append, List.append_nil, ↓wpS, ↓wpN, ↓wpE, wpB, List.set_cons_zero, List.set_cons_succ, ↓wpO, ↓wpP, ↓wpW, ↓wpR, ↓wpD, ↓wpC, wpT, wpQ, true_and, wpA, ↓wpI, decide_eq_true_eq, Bool.not_true, Bool.not_false, if_true, Bool.false_eq_true, if_false, List.take_succ_cons, List.take_zero]
    refine in_strs (g.ok x (sub x mx)) g.ok ?_
    rw [decide_eq_true (sub x mx)]
    try simp only [↓wpG, ↓wpH, ↓wpU, ↓wpV, ↓wpY, ↓wpX, wipeE, Option.isSome_none, Option.isSome_some, Option.bind_some, ↓wpF, List.replicate, List.cons_append, List.nil_append, List.append_nil, ↓wpS, ↓wpN, ↓wpE, wpB, List.set_cons_zero, List.set_cons_succ, ↓wpO, ↓wpP, ↓wpW, ↓wpR, ↓wpD, ↓wpC, wpT, wpQ, true_and, wpA, ↓wpI, decide_eq_true_eq, Bool.not_true, Bool.not_false, if_true, Bool.false_eq_true, if_false, List.take_succ_cons, List.take_zero]
    refine in_strs (g.ok x (sub x mx)) (fun y m => g.ok y (sub y (List.mem_of_mem_take m))) ?_
    rw [decide_eq_false nx]
    try simp only [↓wpG, ↓wpH, ↓wpU, ↓wpV, ↓wpY, ↓wpX, wipeE, Option.isSome_none, Option.isSome_some, Option.bind_some, ↓wpF, List.replicate, List.cons_append, List.nil_append, List.append_nil, ↓wpS, ↓wpN, ↓wpE, wpB, List.set_cons_zero, List.set_cons_succ, ↓wpO, ↓wpP, ↓wpW, ↓wpR, ↓wpD, ↓wpC, wpT, wpQ, true_and, wpA, ↓wpI, decide_eq_true_eq, Bool.not_true, Bool.not_false, if_true, Bool.false_eq_true, if_false, List.take_succ_cons, List.take_zero]
    refine ⟨rfl, by rw [List.length_map, List.length_take]; omega, .str x, ?_⟩
    rw [take_snoc hx, List.map_append]
    rfl
  · rintro e ⟨z, rfl⟩
    try simp only [↓wpG, ↓wpH, ↓wpU, ↓wpV, ↓wpY, ↓wpX, wipeE, Option.isSome_none, Option.isSome_some, Option.bind_some, ↓wpF, List.replicate, List.cons_append, List.nil_append, List.append_nil, ↓wpS, ↓wpN, ↓wpE, wpB, List.set_cons_zero, List.set_cons_succ, ↓wpO, ↓wpP, ↓wpW, ↓wpR, ↓wpD, ↓wpC, wpT, wpQ, true_and, wpA, ↓wpI, decide_eq_true_eq, Bool.not_true, Bool.not_false, if_true, Bool.false_eq_true, if_false, List.take_succ_cons, List.take_zero]
    exact k
theorem needlists_w {ns os : List Str} {a : Str → List Str} {g : Str → D} {K X} (G : GN ns) (l12 : ns.length ≤ 12) (ok : MkOk ns a) (h : Hd ns a os g) (k : K .non [.lst (ns.map .str), .dK (kvs os g)]) : Wp (F_need_lists clt [.lst (ns.map .str), .dK (kvs os g)]) K X := by
  unfold F_need_lists b_need_lists
  have hlim : lim = 1000000 := rfl
  have ln := h.perm.length_eq
  have lk : (kvs os g).length = ns.length := by unfold kvs; rw [List.length_map, ln]
  try simp only [↓wpG, ↓wpH, ↓wpU, ↓wpV, ↓wpY, ↓wpX, wipeE, Option.isSome_none, Option.isSome_some, Option.bind_some, ↓wpF, List.replicate, List.cons_append, List.nil_append, List.append_nil, ↓wpS, ↓wpN, ↓wpE, wpB, List.set_cons_zero, List.set_cons_succ, ↓wpO, ↓wpP, ↓wpW, ↓wpR, ↓wpD, ↓wpC, wpT, wpQ, true_and, wpA, ↓wpI, decide_eq_true_eq, Bool.not_true, Bool.not_false, if_true, Bool.false_eq_true, if_false, List.take_succ_cons, List.take_zero]
  rw [lk, List.length_map]
  try simp only [↓wpG, ↓wpH, ↓wpU, ↓wpV, ↓wpY, ↓wpX, wipeE, Option.isSome_none, Option.isSome_some, Option.bind_some, ↓wpF, List.replicate, List.cons_append, List.nil_append, List.append_nil, ↓wpS, ↓wpN, ↓wpE, wpB, List.set_cons_zero, List.set_cons_succ, ↓wpO, ↓wpP, ↓wpW, ↓wpR, ↓wpD, ↓wpC, wpT, wpQ, true_and, wpA, ↓wpI, decide_eq_true_eq, Bool.not_true, Bool.not_false, if_true, Bool.false_eq_true, if_false, List.take_succ_cons, List.take_zero]
  refine Rm.for_list D.str (fun i e => ∃ z, e = [.lst (ns.map .str), .dK (kvs os g), z]) ⟨_, rfl⟩ ?_ ?_
  · rintro i x e hx ⟨z, rfl⟩
    have mx := List.mem_of_getElem? hx
    try simp only [↓wpG, ↓wpH, ↓wpU, ↓wpV, ↓wpY, ↓wpX, wipeE, Option.isSome_none, Option.isSome_some, Option.bind_some, ↓wpF, List.replicate, List.cons_append, List.nil_append, List.append_nil, ↓wpS, ↓wpN, ↓wpE, wpB, List.set_cons_zero, List.set_cons_succ, ↓wpO, ↓wpP, ↓wpW, ↓wpR, ↓wpD, ↓wpC, wpT, wpQ, true_and, wpA, ↓wpI, decide_eq_true_eq, Bool.not_true, Bool.not_false, if_true, Bool.false_eq_true, if_false, List.take_succ_cons, List.take_zero]
    rw [getDk_map, if_pos (h.perm.symm.subset mx)]
    try simp only [↓wpG, ↓wpH, ↓wpU, ↓wpV, ↓wpY, ↓wpX, wipeE, Option.isSome_none, Option.isSome_some, Option.bind_some, ↓wpF, List.replicate, List.cons_append, List.nil_append, List.append_nil, ↓wpS, ↓wpN, ↓wpE, wpB, List.set_cons_zero, List.set_cons_succ, ↓wpO, ↓wpP, ↓wpW, ↓wpR, ↓wpD, ↓wpC, wpT, wpQ, true_and, wpA, ↓wpI, decide_eq_true_eq, Bool.not_true, Bool.not_false, if_true, Bool.false_eq_true, if_false, List.take_succ_cons, List.take_zero]
    refine aremarks_w G l12 (h.seq x mx) (ok.nd x mx) (ok.sub x mx) ?_
    try simp only [↓wpG, ↓wpH, ↓wpU, ↓wpV, ↓wpY, ↓wpX, wipeE, Option.isSome_none, Option.isSome_some, Option.bind_some, ↓wpF, List.replicate, List.cons_append, List.nil_append, List.append_nil, ↓wpS, ↓wpN, ↓wpE, wpB, List.set_cons_zero, List.set_cons_succ, ↓wpO, ↓wpP, ↓wpW, ↓wpR, ↓wpD, ↓wpC, wpT, wpQ, true_and, wpA, ↓wpI, decide_eq_true_eq, Bool.not_true, Bool.not_false, if_true, Bool.false_eq_true, if_false, List.take_succ_cons, List.take_zero]
    exact ⟨_, rfl⟩
  · rintro e ⟨z, rfl⟩
    try simp only [↓wpG, ↓wpH, ↓wpU, ↓wpV, ↓wpY, ↓wpX, wipeE, Option.isSome_none, Option.isSome_some, Option.bind_some, ↓wpF, List.replicate, List.cons_append, List.nil_append, List.append_nil, ↓wpS, ↓wpN, ↓wpE, wpB, List.set_cons_zero, List.set_cons_succ, ↓wpO, ↓wpP, ↓wpW, ↓wpR, ↓wpD, ↓wpC, wpT, wpQ, true_and, wpA, ↓wpI, decide_eq_true_eq, Bool.not_true, Bool.not_false, if_true, Bool.false_eq_true, if_false, List.take_succ_cons, List.take_zero]
    exact k
def mkI (ns ms : List Str) (a b : Str → List Str) : D := .ins 20 [("called", .lst (ns.map .str)), ("sides", .dK [(.inr ("ahead" : Str), tsD ms a), (.inr ("behind" : Str), tsD ms b)])]
theorem abne : ("ahead" : Str) ≠ ("behind" : Str) := by decide
theorem gdA {A B : D} : getDk [((Sum.inr ("ahead" : Str) : Key), A), ((Sum.inr ("behind" : Str) : Key), B)] (Sum.inr ("ahead" : Str)) = some A := by simp [getDk]
theorem gdB {A B : D} : getDk [((Sum.inr ("ahead" : Str) : Key), A), ((Sum.inr ("behind" : Str) : Key), B)] (Sum.inr ("behind" : Str)) = some B := by simp [getDk, abne]
theorem rpA {A B C : D} : repK [((Sum.inr ("ahead" : Str) : Key), A), ((Sum.inr ("behind" : Str) : Key), B)] (Sum.inr ("ahead" : Str)) C = [(Sum.inr ("ahead" : Str), C), (Sum.inr ("behind" : Str), B)] := by simp [repK]
theorem rpB {A B C : D} : repK [((Sum.inr ("ahead" : Str) : Key), A), ((Sum.inr ("behind" : Str) : Key), B)] (Sum.inr ("behind" : Str)) C = [(Sum.inr ("ahead" : Str), A), (Sum.inr ("behind" : Str), C)] := by simp [repK, abne]
def mkO (c : D) (l1 l2 : List (Key × D)) : D := .ins 20 [("called", c), ("sides", .dK [(.inr ("ahead" : Str), .dK l1), (.inr ("behind" : Str), .dK l2)])]
theorem seq_tup {N xs P} (h : SeqD N xs) : oK (gTuple [N]) P = P (.tup xs) := by rcases h with rfl | rfl <;> rfl
end RP
-- wp: XYVUHG
namespace RP
open PySem PySem.Spec L2 Rm
open SX (S join_S S_cat S_tl S_len split_S)
variable {clt : ClT}
def NotS (d : D) : Prop := ∃ T, tcD d = some (.inl T) ∧ ∀ cs, isB cs (.inl T) (.inl "str") = some false
/-- a text or something that is none, told by a text -/
structure Od (d : D) : Prop where
  tx : ∃ t, rpT d = some t ∧ PyData.strOk t = true
  st : (∃ x, d = .str x ∧ PyData.strOk x = true) ∨ NotS d
theorem nzS {m n} {x : Str} (h : PyData.strOk x = true) : nzD m n (.str x) = true := by cases n <;> simp only [nzD, h]
theorem in_ok {x : Str} {L : List Str} {P : Bool → Prop} (hx : PyData.strOk x = true) (hL : ∀ y ∈ L, PyData.strOk y = true) (k : P (decide (x ∈ L))) : oK (inD (.str x) (.lst (L.map .str))) P := by
  refine inD_nz (m := false) (nzS hx) (nzL_mem.mpr fun d hd => by
    obtain ⟨y, my, rfl⟩ := List.mem_map.mp hd
    exact nzS (hL y my)) (fun h => ?_) (fun h => ?_)
  · have : x ∈ L := by
      obtain ⟨y, my, e⟩ := List.mem_map.mp h
      cases e; exact my
    rwa [decide_eq_true this] at k
  · have : x ∉ L := fun m => h (List.mem_map.mpr ⟨x, m, rfl⟩)
    rwa [decide_eq_false this] at k
theorem notInT_strs {x : Str} {l : List Str} {P : D → Prop} (hx : PyData.strOk x = true) (hl : ∀ y ∈ l, PyData.strOk y = true) (k : P (.bl (!decide (x ∈ l)))) : oK (gNotIn2 [.str x, .tup (l.map .str)]) P := by
  have h := inT_strs (P := fun d => d = .bl (decide (x ∈ l))) hx hl rfl
  have e : gIn2 [.str x, .tup (l.map .str)] = (inD2 (.str x) (.tup (l.map .str))).map .bl := rfl
  have e2 : gNotIn2 [.str x, .tup (l.map .str)] = (inD2 (.str x) (.tup (l.map .str))).map fun b => .bl (!b) := rfl
  rw [e] at h
  rw [e2]
  cases hh : inD2 (.str x) (.tup (l.map .str)) with
  | none => rw [hh] at h; exact h.elim
  | some b =>
    rw [hh] at h
    have : b = decide (x ∈ l) := D.bl.inj h
    subst this
    exact k
/-- what is one of the given texts -/
def Is (L : List Str) (d : D) : Prop := ∃ x, d = .str x ∧ x ∈ L
theorem fld_called {ns a b P} : oK (gFld [20] ("called" : Str) [mkD ns a b]) P = P (.lst (ns.map .str)) := rfl
theorem fld_sides {ns a b P} : oK (gFld [20] ("sides" : Str) [mkD ns a b]) P = P (.dK [(.inr ("ahead" : Str), tsD ns a), (.inr ("behind" : Str), tsD ns b)]) := rfl
theorem needname_w {d : D} {ns : List Str} {a b} {K X} (g : GN ns) (h : Od d) (h1 : Is ns d → K .non [mkD ns a b, d]) (h0 : ¬ Is ns d → ∀ o, X 2 [("found", d)] o) : Wp (F_Marks_need_name clt [mkD ns a b, d]) K X := by
  unfold F_Marks_need_name b_Marks_need_name
  rcases h.st with ⟨x, rfl, ok⟩ | ns
  · simp only [fld_called, ↓wpG, ↓wpH, ↓wpU, ↓wpV, ↓wpY, ↓wpX, wipeE, Option.isSome_none, Option.isSome_some, Option.bind_some, ↓wpF, List.replicate, List.cons_append, List.nil_append, List.append_nil, ↓wpS, ↓wpN, ↓wpE, wpB, List.set_cons_zero, List.set_cons_succ, ↓wpO, ↓wpP, ↓wpW, ↓wpR, ↓wpD, ↓wpC, wpT, wpQ, true_and, wpA, ↓wpI, decide_eq_true_eq, Bool.not_true, Bool.not_false, if_true, Bool.false_eq_true, if_false, List.take_succ_cons, List.take_zero]
    refine in_ok ok (fun y m => (g.ok y m).ok) ?_
    by_cases m : x ∈ ns
    · rw [decide_eq_true m]
      try simp only [↓wpG, ↓wpH, ↓wpU, ↓wpV, ↓wpY, ↓wpX, wipeE, Option.isSome_none, Option.isSome_some, Option.bind_some, ↓wpF, List.replicate, List.cons_append, List.nil_append, List.append_nil, ↓wpS, ↓wpN, ↓wpE, wpB, List.set_cons_zero, List.set_cons_succ, ↓wpO, ↓wpP, ↓wpW, ↓wpR, ↓wpD, ↓wpC, wpT, wpQ, true_and, wpA, ↓wpI, decide_eq_true_eq, Bool.not_true, Bool.not_false, if_true, Bool.false_eq_true, if_false, List.take_succ_cons, List.take_zero]
      exact h1 ⟨x, rfl, m⟩
    · rw [decide_eq_false m]
      try simp only [↓wpG, ↓wpH, ↓wpU, ↓wpV, ↓wpY, ↓wpX, wipeE, Option.isSome_none, Option.isSome_some, Option.bind_some, ↓wpF, List.replicate, List.cons_append, List.nil_append, List.append_nil, ↓wpS, ↓wpN, ↓wpE, wpB, List.set_cons_zero, List.set_cons_succ, ↓wpO, ↓wpP, ↓wpW, ↓wpR, ↓wpD, ↓wpC, wpT, wpQ, true_and, wpA, ↓wpI, decide_eq_true_eq, Bool.not_true, Bool.not_false, if_true, Bool.false_eq_true, if_false, List.take_succ_cons, List.take_zero]
      exact ⟨⟨rfl, by decide⟩, h0 (fun ⟨y, e, my⟩ => by cases e; exact m my) _⟩
  · obtain ⟨T, t1, t2⟩ := ns
    simp only [t1, t2, ↓wpG, ↓wpH, ↓wpU, ↓wpV, ↓wpY, ↓wpX, wipeE, Option.isSome_none, Option.isSome_some, Option.bind_some, ↓wpF, List.replicate, List.cons_append, List.nil_append, List.append_nil, ↓wpS, ↓wpN, ↓wpE, wpB, List.set_cons_zero, List.set_cons_succ, ↓wpO, ↓wpP, ↓wpW, ↓wpR, ↓wpD, ↓wpC, wpT, wpQ, true_and, wpA, ↓wpI, decide_eq_true_eq, Bool.not_true, Bool.not_false, if_true, Bool.false_eq_true, if_false, List.take_succ_cons, List.take_zero]
    refine ⟨⟨rfl, by decide⟩, h0 (fun ⟨y, e, my⟩ => ?_) _⟩
    subst e
    cases t1
    exact absurd (t2 []) (by decide)
def pS {α : Type} (s : Bool) (a b : α) : α := if s = true then a else b
theorem gtS {ns : List Str} {a : Str → List Str} {x : Str} (m : x ∈ ns) {P} : oK (Rm.gSub [tsD ns a, .str x]) P = P (.tup ((a x).map .str)) := by
  show oK (getDk (kvs ns _) (.inr x)) P = _
  rw [getDk_map, if_pos m]; rfl
end RP
-- wp: XYVUHG
namespace RP
open PySem PySem.Spec L2 Rm
open SX (S join_S S_cat S_tl S_len split_S)
variable {clt : ClT}
def hS (h : Bool) : Str := if h = true then ("with" : Str) else ("without" : Str)
variable {ns : List Str} {a b : Str → List Str} {how : Bool} {d e m : D}
theorem is_str {L : List Str} {x : Str} (h : x ∈ L) : Is L (.str x) := ⟨x, rfl, h⟩
theorem names_mw {K X} (k : K (.lst (ns.map .str)) [mkD ns a b]) : Wp (F_Marks_names clt [mkD ns a b]) K X := by
  unfold F_Marks_names b_Marks_names
  simp only [fld_called, ↓wpG, ↓wpH, ↓wpU, ↓wpV, ↓wpY, ↓wpX, wipeE, Option.isSome_none, Option.isSome_some, Option.bind_some, ↓wpF, List.replicate, List.cons_append, List.nil_append, List.append_nil, ↓wpS, ↓wpN, ↓wpE, wpB, List.set_cons_zero, List.set_cons_succ, ↓wpO, ↓wpP, ↓wpW, ↓wpR, ↓wpD, ↓wpC, wpT, wpQ, true_and, wpA, ↓wpI, decide_eq_true_eq, Bool.not_true, Bool.not_false, if_true, Bool.false_eq_true, if_false, List.take_succ_cons, List.take_zero]
  exact k
theorem ahead_mw {x : Str} {K X} (g : GN ns) (l12 : ns.length ≤ 12) (oa : MkOk ns a) (mx : x ∈ ns) (od : Od (.str x)) (k : K (.lst ((a x).map .str)) [mkD ns a b, .str x]) : Wp (F_Marks_ahead clt [mkD ns a b, .str x]) K X := by
  unfold F_Marks_ahead b_Marks_ahead
  have hlim : lim = 1000000 := rfl
  have ll := oa.len mx
  try simp only [↓wpG, ↓wpH, ↓wpU, ↓wpV, ↓wpY, ↓wpX, wipeE, Option.isSome_none, Option.isSome_some, Option.bind_some, ↓wpF, List.replicate, List.cons_append, List.nil_append, List.append_nil, ↓wpS, ↓wpN, ↓wpE, wpB, List.set_cons_zero, List.set_cons_succ, ↓wpO, ↓wpP, ↓wpW, ↓wpR, ↓wpD, ↓wpC, wpT, wpQ, true_and, wpA, ↓wpI, decide_eq_true_eq, Bool.not_true, Bool.not_false, if_true, Bool.false_eq_true, if_false, List.take_succ_cons, List.take_zero]
  refine ⟨rfl, needname_w g od (fun _ => ?_) (fun h => absurd (is_str mx) h)⟩
  simp only [fld_sides, gdA, gtS mx, ↓wpG, ↓wpH, ↓wpU, ↓wpV, ↓wpY, ↓wpX, wipeE, Option.isSome_none, Option.isSome_some, Option.bind_some, ↓wpF, List.replicate, List.cons_append, List.nil_append, List.append_nil, ↓wpS, ↓wpN, ↓wpE, wpB, List.set_cons_zero, List.set_cons_succ, ↓wpO, ↓wpP, ↓wpW, ↓wpR, ↓wpD, ↓wpC, wpT, wpQ, true_and, wpA, ↓wpI, decide_eq_true_eq, Bool.not_true, Bool.not_false, if_true, Bool.false_eq_true, if_false, List.take_succ_cons, List.take_zero]
  exact k
theorem behind_mw {x : Str} {K X} (g : GN ns) (l12 : ns.length ≤ 12) (ob : MkOk ns b) (mx : x ∈ ns) (od : Od (.str x)) (k : K (.lst ((b x).map .str)) [mkD ns a b, .str x]) : Wp (F_Marks_behind clt [mkD ns a b, .str x]) K X := by
  unfold F_Marks_behind b_Marks_behind
  have hlim : lim = 1000000 := rfl
  have ll := ob.len mx
  try simp only [↓wpG, ↓wpH, ↓wpU, ↓wpV, ↓wpY, ↓wpX, wipeE, Option.isSome_none, Option.isSome_some, Option.bind_some, ↓wpF, List.replicate, List.cons_append, List.nil_append, List.append_nil, ↓wpS, ↓wpN, ↓wpE, wpB, List.set_cons_zero, List.set_cons_succ, ↓wpO, ↓wpP, ↓wpW, ↓wpR, ↓wpD, ↓wpC, wpT, wpQ, true_and, wpA, ↓wpI, decide_eq_true_eq, Bool.not_true, Bool.not_false, if_true, Bool.false_eq_true, if_false, List.take_succ_cons, List.take_zero]
  refine ⟨rfl, needname_w g od (fun _ => ?_) (fun h => absurd (is_str mx) h)⟩
  simp only [fld_sides, gdB, gtS mx, ↓wpG, ↓wpH, ↓wpU, ↓wpV, ↓wpY, ↓wpX, wipeE, Option.isSome_none, Option.isSome_some, Option.bind_some, ↓wpF, List.replicate, List.cons_append, List.nil_append, List.append_nil, ↓wpS, ↓wpN, ↓wpE, wpB, List.set_cons_zero, List.set_cons_succ, ↓wpO, ↓wpP, ↓wpW, ↓wpR, ↓wpD, ↓wpC, wpT, wpQ, true_and, wpA, ↓wpI, decide_eq_true_eq, Bool.not_true, Bool.not_false, if_true, Bool.false_eq_true, if_false, List.take_succ_cons, List.take_zero]
  exact k
/-- what both list -/
def meetL (ns : List Str) (a b : Str → List Str) (x y : Str) : List Str := ns.filter fun z => decide (z ∈ a x ∧ z ∈ b y)
theorem meeting_w {x y : Str} {K X} (g : GN ns) (l12 : ns.length ≤ 12) (oa : MkOk ns a) (ob : MkOk ns b) (mx : x ∈ ns) (my : y ∈ ns) (ox : Od (.str x)) (oy : Od (.str y)) (k : K (.lst ((meetL ns a b x y).map .str)) [mkD ns a b, .str x, .str y]) : Wp (F_Marks_meeting clt [mkD ns a b, .str x, .str y]) K X := by
  unfold F_Marks_meeting b_Marks_meeting
  have hlim : lim = 1000000 := rfl
  try simp only [↓wpG, ↓wpH, ↓wpU, ↓wpV, ↓wpY, ↓wpX, wipeE, Option.isSome_none, Option.isSome_some, Option.bind_some, ↓wpF, List.replicate, List.cons_append, List.nil_append, List.append_nil, ↓wpS, ↓wpN, ↓wpE, wpB, List.set_cons_zero, List.set_cons_succ, ↓wpO, ↓wpP, ↓wpW, ↓wpR, ↓wpD, ↓wpC, wpT, wpQ, true_and, wpA, ↓wpI, decide_eq_true_eq, Bool.not_true, Bool.not_false, if_true, Bool.false_eq_true, if_false, List.take_succ_cons, List.take_zero]
  refine ⟨rfl, needname_w g ox (fun _ => ?_) (fun h => absurd (is_str mx) h)⟩
  try simp only [↓wpG, ↓wpH, ↓wpU, ↓wpV, ↓wpY, ↓wpX, wipeE, Option.isSome_none, Option.isSome_some, Option.bind_some, ↓wpF, List.replicate, List.cons_append, List.nil_append, List.append_nil, ↓wpS, ↓wpN, ↓wpE, wpB, List.set_cons_zero, List.set_cons_succ, ↓wpO, ↓wpP, ↓wpW, ↓wpR, ↓wpD, ↓wpC, wpT, wpQ, true_and, wpA, ↓wpI, decide_eq_true_eq, Bool.not_true, Bool.not_false, if_true, Bool.false_eq_true, if_false, List.take_succ_cons, List.take_zero]
  refine ⟨rfl, needname_w g oy (fun _ => ?_) (fun h => absurd (is_str my) h)⟩
  simp only [fld_sides, gdA, gdB, gtS mx, gtS my, fld_called, ↓wpG, ↓wpH, ↓wpU, ↓wpV, ↓wpY, ↓wpX, wipeE, Option.isSome_none, Option.isSome_some, Option.bind_some, ↓wpF, List.replicate, List.cons_append, List.nil_append, List.append_nil, ↓wpS, ↓wpN, ↓wpE, wpB, List.set_cons_zero, List.set_cons_succ, ↓wpO, ↓wpP, ↓wpW, ↓wpR, ↓wpD, ↓wpC, wpT, wpQ, true_and, wpA, ↓wpI, decide_eq_true_eq, Bool.not_true, Bool.not_false, if_true, Bool.false_eq_true, if_false, List.take_succ_cons, List.take_zero]
  refine ⟨by simp [hlim], rfl, by rw [List.length_map]; omega, ?_⟩
  refine lc_pure D.str (fun z => decide (z ∈ a x ∧ z ∈ b y)) id D.str (fun z mz => ?_) ?_
  · try simp only [↓wpG, ↓wpH, ↓wpU, ↓wpV, ↓wpY, ↓wpX, wipeE, Option.isSome_none, Option.isSome_some, Option.bind_some, ↓wpF, List.replicate, List.cons_append, List.nil_append, List.append_nil, ↓wpS, ↓wpN, ↓wpE, wpB, List.set_cons_zero, List.set_cons_succ, ↓wpO, ↓wpP, ↓wpW, ↓wpR, ↓wpD, ↓wpC, wpT, wpQ, true_and, wpA, ↓wpI, decide_eq_true_eq, Bool.not_true, Bool.not_false, if_true, Bool.false_eq_true, if_false, List.take_succ_cons, List.take_zero]
    refine inT_strs (g.ok z mz).ok (fun w mw => (g.ok w (oa.sub x mx w mw)).ok) ?_
    by_cases c : z ∈ a x
    · rw [decide_eq_true c]
      try simp only [↓wpG, ↓wpH, ↓wpU, ↓wpV, ↓wpY, ↓wpX, wipeE, Option.isSome_none, Option.isSome_some, Option.bind_some, ↓wpF, List.replicate, List.cons_append, List.nil_append, List.append_nil, ↓wpS, ↓wpN, ↓wpE, wpB, List.set_cons_zero, List.set_cons_succ, ↓wpO, ↓wpP, ↓wpW, ↓wpR, ↓wpD, ↓wpC, wpT, wpQ, true_and, wpA, ↓wpI, decide_eq_true_eq, Bool.not_true, Bool.not_false, if_true, Bool.false_eq_true, if_false, List.take_succ_cons, List.take_zero]
      refine inT_strs (g.ok z mz).ok (fun w mw => (g.ok w (ob.sub y my w mw)).ok) ?_
      try simp only [↓wpG, ↓wpH, ↓wpU, ↓wpV, ↓wpY, ↓wpX, wipeE, Option.isSome_none, Option.isSome_some, Option.bind_some, ↓wpF, List.replicate, List.cons_append, List.nil_append, List.append_nil, ↓wpS, ↓wpN, ↓wpE, wpB, List.set_cons_zero, List.set_cons_succ, ↓wpO, ↓wpP, ↓wpW, ↓wpR, ↓wpD, ↓wpC, wpT, wpQ, true_and, wpA, ↓wpI, decide_eq_true_eq, Bool.not_true, Bool.not_false, if_true, Bool.false_eq_true, if_false, List.take_succ_cons, List.take_zero]
      by_cases c2 : z ∈ b y
      · simp [c, c2]
      · simp [c, c2]
    · rw [decide_eq_false c]
      try simp only [↓wpG, ↓wpH, ↓wpU, ↓wpV, ↓wpY, ↓wpX, wipeE, Option.isSome_none, Option.isSome_some, Option.bind_some, ↓wpF, List.replicate, List.cons_append, List.nil_append, List.append_nil, ↓wpS, ↓wpN, ↓wpE, wpB, List.set_cons_zero, List.set_cons_succ, ↓wpO, ↓wpP, ↓wpW, ↓wpR, ↓wpD, ↓wpC, wpT, wpQ, true_and, wpA, ↓wpI, decide_eq_true_eq, Bool.not_true, Bool.not_false, if_true, Bool.false_eq_true, if_false, List.take_succ_cons, List.take_zero]
      simp [c]
  · rw [List.map_id]
    try simp only [↓wpG, ↓wpH, ↓wpU, ↓wpV, ↓wpY, ↓wpX, wipeE, Option.isSome_none, Option.isSome_some, Option.bind_some, ↓wpF, List.replicate, List.cons_append, List.nil_append, List.append_nil, ↓wpS, ↓wpN, ↓wpE, wpB, List.set_cons_zero, List.set_cons_succ, ↓wpO, ↓wpP, ↓wpW, ↓wpR, ↓wpD, ↓wpC, wpT, wpQ, true_and, wpA, ↓wpI, decide_eq_true_eq, Bool.not_true, Bool.not_false, if_true, Bool.false_eq_true, if_false, List.take_succ_cons, List.take_zero]
    exact k
theorem tells_w {x y : Str} {K X} (g : GN ns) (l12 : ns.length ≤ 12) (oa : MkOk ns a) (ob : MkOk ns b) (mx : x ∈ ns) (my : y ∈ ns) (ox : Od (.str x)) (oy : Od (.str y)) (k : K (.bl (!(meetL ns a b x y).isEmpty)) [mkD ns a b, .str x, .str y]) : Wp (F_Marks_tells clt [mkD ns a b, .str x, .str y]) K X := by
  unfold F_Marks_tells b_Marks_tells
  have hlim : lim = 1000000 := rfl
  try simp only [↓wpG, ↓wpH, ↓wpU, ↓wpV, ↓wpY, ↓wpX, wipeE, Option.isSome_none, Option.isSome_some, Option.bind_some, ↓wpF, List.replicate, List.cons_append, List.nil_append, List.append_nil, ↓wpS, ↓wpN, ↓wpE, wpB, List.set_cons_zero, List.set_cons_succ, ↓wpO, ↓wpP, ↓wpW, ↓wpR, ↓wpD, ↓wpC, wpT, wpQ, true_and, wpA, ↓wpI, decide_eq_true_eq, Bool.not_true, Bool.not_false, if_true, Bool.false_eq_true, if_false, List.take_succ_cons, List.take_zero]
  refine ⟨rfl, meeting_w g l12 oa ob mx my ox oy ?_⟩
  try simp only [↓wpG, ↓wpH, ↓wpU, ↓wpV, ↓wpY, ↓wpX, wipeE, Option.isSome_none, Option.isSome_some, Option.bind_some, ↓wpF, List.replicate, List.cons_append, List.nil_append, List.append_nil, ↓wpS, ↓wpN, ↓wpE, wpB, List.set_cons_zero, List.set_cons_succ, ↓wpO, ↓wpP, ↓wpW, ↓wpR, ↓wpD, ↓wpC, wpT, wpQ, true_and, wpA, ↓wpI, decide_eq_true_eq, Bool.not_true, Bool.not_false, if_true, Bool.false_eq_true, if_false, List.take_succ_cons, List.take_zero]
  refine ⟨Nat.zero_le _, ?_⟩
  have sub : ∀ z ∈ meetL ns a b x y, z ∈ ns := fun z m => (List.mem_filter.mp m).1
  refine eqD_nz (m := false) (by
    show nzD false 64 (.lst ((meetL ns a b x y).map D.str)) = true
    exact nz_strs (n := 63) fun z m => g.ok z (sub z m)) rfl (fun q => ?_) (fun q => ?_)
  · have : meetL ns a b x y = [] := by
      have := D.lst.inj q
      simpa using this
    rw [this] at k
    exact k
  · have : meetL ns a b x y ≠ [] := fun h => q (by rw [h]; rfl)
    have e : (meetL ns a b x y).isEmpty = false := by simpa using this
    rw [e] at k
    exact k
theorem filter_tt {α : Type} {l : List α} : l.filter (fun _ => true) = l := by simp
/-- what they tell -/
def toldM (ns : List Str) (a b : Str → List Str) : D := .tup (ns.map fun x => .tup [.str x, .tup ((a x).map .str), .tup ((b x).map .str)])
theorem mtold_w {K X} (g : GN ns) (l12 : ns.length ≤ 12) (k : K (toldM ns a b) [mkD ns a b]) : Wp (F_Marks_told clt [mkD ns a b]) K X := by
  unfold F_Marks_told b_Marks_told
  have hlim : lim = 1000000 := rfl
  simp only [fld_sides, gdA, gdB, fld_called, ↓wpG, ↓wpH, ↓wpU, ↓wpV, ↓wpY, ↓wpX, wipeE, Option.isSome_none, Option.isSome_some, Option.bind_some, ↓wpF, List.replicate, List.cons_append, List.nil_append, List.append_nil, ↓wpS, ↓wpN, ↓wpE, wpB, List.set_cons_zero, List.set_cons_succ, ↓wpO, ↓wpP, ↓wpW, ↓wpR, ↓wpD, ↓wpC, wpT, wpQ, true_and, wpA, ↓wpI, decide_eq_true_eq, Bool.not_true, Bool.not_false, if_true, Bool.false_eq_true, if_false, List.take_succ_cons, List.take_zero]
  refine ⟨by simp [hlim], rfl, by rw [List.length_map]; omega, ?_⟩
  refine lc_pure D.str (fun _ => true) id (fun x => .tup [.str x, .tup ((a x).map .str), .tup ((b x).map .str)]) (fun z mz => ?_) ?_
  · simp only [gtS mz, ↓wpG, ↓wpH, ↓wpU, ↓wpV, ↓wpY, ↓wpX, wipeE, Option.isSome_none, Option.isSome_some, Option.bind_some, ↓wpF, List.replicate, List.cons_append, List.nil_append, List.append_nil, ↓wpS, ↓wpN, ↓wpE, wpB, List.set_cons_zero, List.set_cons_succ, ↓wpO, ↓wpP, ↓wpW, ↓wpR, ↓wpD, ↓wpC, wpT, wpQ, true_and, wpA, ↓wpI, decide_eq_true_eq, Bool.not_true, Bool.not_false, if_true, Bool.false_eq_true, if_false, List.take_succ_cons, List.take_zero]
    simp [hlim]
  · rw [filter_tt, List.map_id]
    try simp only [↓wpG, ↓wpH, ↓wpU, ↓wpV, ↓wpY, ↓wpX, wipeE, Option.isSome_none, Option.isSome_some, Option.bind_some, ↓wpF, List.replicate, List.cons_append, List.nil_append, List.append_nil, ↓wpS, ↓wpN, ↓wpE, wpB, List.set_cons_zero, List.set_cons_succ, ↓wpO, ↓wpP, ↓wpW, ↓wpR, ↓wpD, ↓wpC, wpT, wpQ, true_and, wpA, ↓wpI, decide_eq_true_eq, Bool.not_true, Bool.not_false, if_true, Bool.false_eq_true, if_false, List.take_succ_cons, List.take_zero]
    exact k
/-- how many marks -/
def tot (ns : List Str) (a b : Str → List Str) : Nat := (ns.map fun x => (a x).length + (b x).length).sum
theorem total_w {K X} (g : GN ns) (l12 : ns.length ≤ 12) (oa : MkOk ns a) (ob : MkOk ns b) (k : K (.int (tot ns a b : Nat)) [mkD ns a b]) : Wp (F_Marks_total clt [mkD ns a b]) K X := by
  unfold F_Marks_total b_Marks_total
  have hlim : lim = 1000000 := rfl
  try simp only [↓wpG, ↓wpH, ↓wpU, ↓wpV, ↓wpY, ↓wpX, wipeE, Option.isSome_none, Option.isSome_some, Option.bind_some, ↓wpF, List.replicate, List.cons_append, List.nil_append, List.append_nil, ↓wpS, ↓wpN, ↓wpE, wpB, List.set_cons_zero, List.set_cons_succ, ↓wpO, ↓wpP, ↓wpW, ↓wpR, ↓wpD, ↓wpC, wpT, wpQ, true_and, wpA, ↓wpI, decide_eq_true_eq, Bool.not_true, Bool.not_false, if_true, Bool.false_eq_true, if_false, List.take_succ_cons, List.take_zero]
  refine ⟨rfl, mtold_w g l12 ?_⟩
  unfold toldM
  try simp only [↓wpG, ↓wpH, ↓wpU, ↓wpV, ↓wpY, ↓wpX, wipeE, Option.isSome_none, Option.isSome_some, Option.bind_some, ↓wpF, List.replicate, List.cons_append, List.nil_append, List.append_nil, ↓wpS, ↓wpN, ↓wpE, wpB, List.set_cons_zero, List.set_cons_succ, ↓wpO, ↓wpP, ↓wpW, ↓wpR, ↓wpD, ↓wpC, wpT, wpQ, true_and, wpA, ↓wpI, decide_eq_true_eq, Bool.not_true, Bool.not_false, if_true, Bool.false_eq_true, if_false, List.take_succ_cons, List.take_zero]
  refine ⟨by rw [List.length_map]; omega, ?_⟩
  refine lc_pure (fun x => .tup [.str x, .tup ((a x).map .str), .tup ((b x).map .str)]) (fun _ => true) (fun x => (((a x).length + (b x).length : Nat) : Int)) D.int (fun z mz => ?_) ?_
  · try simp only [↓wpG, ↓wpH, ↓wpU, ↓wpV, ↓wpY, ↓wpX, wipeE, Option.isSome_none, Option.isSome_some, Option.bind_some, ↓wpF, List.replicate, List.cons_append, List.nil_append, List.append_nil, ↓wpS, ↓wpN, ↓wpE, wpB, List.set_cons_zero, List.set_cons_succ, ↓wpO, ↓wpP, ↓wpW, ↓wpR, ↓wpD, ↓wpC, wpT, wpQ, true_and, wpA, ↓wpI, decide_eq_true_eq, Bool.not_true, Bool.not_false, if_true, Bool.false_eq_true, if_false, List.take_succ_cons, List.take_zero]
    simp
  · rw [filter_tt]
    try simp only [↓wpG, ↓wpH, ↓wpU, ↓wpV, ↓wpY, ↓wpX, wipeE, Option.isSome_none, Option.isSome_some, Option.bind_some, ↓wpF, List.replicate, List.cons_append, List.nil_append, List.append_nil, ↓wpS, ↓wpN, ↓wpE, wpB, List.set_cons_zero, List.set_cons_succ, ↓wpO, ↓wpP, ↓wpW, ↓wpR, ↓wpD, ↓wpC, wpT, wpQ, true_and, wpA, ↓wpI, decide_eq_true_eq, Bool.not_true, Bool.not_false, if_true, Bool.false_eq_true, if_false, List.take_succ_cons, List.take_zero]
    have ei : ∀ l : List Int, intsD (l.map D.int) = some l := fun l => by
      induction l with
      | nil => rfl
      | cons z l ih => show (intsD (l.map D.int)).map (z :: ·) = _; rw [ih]; rfl
    rw [ei]
    try simp only [↓wpG, ↓wpH, ↓wpU, ↓wpV, ↓wpY, ↓wpX, wipeE, Option.isSome_none, Option.isSome_some, Option.bind_some, ↓wpF, List.replicate, List.cons_append, List.nil_append, List.append_nil, ↓wpS, ↓wpN, ↓wpE, wpB, List.set_cons_zero, List.set_cons_succ, ↓wpO, ↓wpP, ↓wpW, ↓wpR, ↓wpD, ↓wpC, wpT, wpQ, true_and, wpA, ↓wpI, decide_eq_true_eq, Bool.not_true, Bool.not_false, if_true, Bool.false_eq_true, if_false, List.take_succ_cons, List.take_zero]
    have es : ∀ l : List Str, (l.map fun x => (((a x).length + (b x).length : Nat) : Int)).sum = ((l.map fun x => (a x).length + (b x).length).sum : Nat) := fun l => by
      induction l with
      | nil => rfl
      | cons z l ih => rw [List.map_cons, List.sum_cons, ih, List.map_cons, List.sum_cons]; omega
    rw [es]
    exact k
theorem od_pl {x : Str} (ln : Ln x) : Od (.str x) := by
  refine ⟨⟨reprText x, ?_, rep_strOk ln.pl⟩, .inl ⟨x, rfl, pl_ok ln.pl⟩⟩
  have this : (rpT (.str x)).map D.str = some (.str (reprText x)) := grep_pl ln
  cases e : rpT (.str x) with
  | none => rw [e] at this; cases this
  | some t =>
    rw [e] at this
    cases this
    rfl
theorem od_nm {x : Str} (h : Nm x) : Od (.str x) := od_pl ⟨h.pl, by have := h.le; omega⟩
end RP
-- wp: XYVUHGM
namespace RP
open PySem PySem.Spec L2 Rm
open SX (S join_S S_cat S_tl S_len split_S)
variable {clt : ClT}
def paK (i j : Nat) (K : Fl → List D → Prop) (ds e : List D) : Prop := match ds with
  | [x, y] => K .nx ((e.set i x).set j y)
  | _ => False
theorem wpM : (∀ (i j : Nat) (fr : M (List D)) (e : List D) (K : Fl → List D → Prop) (X : KX), Wp (parM i j fr e) K X = Wp (fr e) (paK i j K) X) ∧ ∀ i j K x y e, paK i j K [x, y] e = K .nx ((e.set i x).set j y) := by
  refine ⟨fun i j fr e K X => ?_, fun _ _ _ _ _ _ => rfl⟩
  unfold parM
  rw [Wp.bind]
  congr 1
  funext ds e
  match ds with
  | [] => with_unfolding_all rfl
  | [_] => with_unfolding_all rfl
  | [_, _] => with_unfolding_all rfl
  | _ :: _ :: _ :: _ => with_unfolding_all rfl
end RP
-- wp: XYVUHGM
namespace RP
open PySem PySem.Spec L2 Rm
open SX (S join_S S_cat S_tl S_len split_S)
variable {clt : ClT} {ns : List Str} {a b : Str → List Str} {how : Bool} {d e m : D}
end RP
-- wp: XYVUHGM
namespace RP
open PySem PySem.Spec L2 Rm
open SX (S join_S S_cat S_tl S_len split_S)
variable {clt : ClT} {ns : List Str} {a b : Str → List Str} {how : Bool} {d e m : D}
theorem lst_tup {xs : List D} {P} : oK (gTuple [.lst xs]) P = P (.tup xs) := rfl
theorem nz_l {l : List Str} (g : GN ns) (h : ∀ x ∈ l, x ∈ ns) : nzD false 64 (.lst (l.map D.str)) = true := nz_strs (n := 63) fun x m => g.ok x (h x m)
theorem eq_same {d : D} {P : Bool → Prop} (h : nzD false 64 d = true) (k : P true) : oK (eqD d d) P := eqD_nz (m := false) h h (fun _ => k) (fun q => absurd rfl q)
theorem meet_sub {x y : Str} : ∀ z ∈ meetL ns a b x y, z ∈ ns := fun z m => (List.mem_filter.mp m).1
end RP
-- wp: XYVUHGM
namespace RP
open PySem PySem.Spec L2 Rm
open SX (S join_S S_cat S_tl S_len split_S)
variable {clt : ClT} {ns : List Str} {a b : Str → List Str} {how : Bool} {d e m : D}
theorem nz_told (g : GN ns) (oa : MkOk ns a) (ob : MkOk ns b) : nzD false 64 (toldM ns a b) = true := by
  show nzL false 63 (ns.map _) = true
  refine nzL_mem.mpr fun d md => ?_
  obtain ⟨x, mx, rfl⟩ := List.mem_map.mp md
  show nzL false 62 [.str x, .tup ((a x).map .str), .tup ((b x).map .str)] = true
  refine nzL_mem.mpr fun d md => ?_
  simp only [List.mem_cons, List.not_mem_nil, or_false] at md
  rcases md with rfl | rfl | rfl
  · exact nz_str (g.ok x mx)
  · exact nz_strs (n := 61) fun z m => g.ok z (oa.sub x mx z m)
  · exact nz_strs (n := 61) fun z m => g.ok z (ob.sub x mx z m)
end RP
-- wp: XYVUHGML
namespace RP
open PySem PySem.Spec L2 Rm
open SX (S join_S S_cat S_tl S_len split_S)
variable {clt : ClT}
end RP
-- wp: XYVUHGML
namespace RP
open PySem PySem.Spec L2 Rm
open SX (S join_S S_cat S_tl S_len split_S)
variable {clt : ClT}
end RP
-- wp: XYVUHGML
namespace RP
open PySem PySem.Spec L2 Rm
open SX (S join_S S_cat S_tl S_len split_S)
variable {clt : ClT} {ns : List Str}
end RP
-- wp: XYVUHGML
namespace RP
open PySem PySem.Spec L2 Rm
open SX (S join_S S_cat S_tl S_len split_S)
variable {clt : ClT} {ns : List Str}
end RP
-- wp: XYVUHGML
namespace RP
open PySem PySem.Spec L2 Rm
open SX (S join_S S_cat S_tl S_len split_S)
variable {clt : ClT} {ns : List Str} {ts : List (Str × Str)} {ms cs : List Nat} {f : Str → List Str}
end RP
-- wp: XYVUHGML
namespace RP
open PySem PySem.Spec L2 Rm
open SX (S join_S S_cat S_tl S_len split_S)
variable {clt : ClT} {ns : List Str} {ts : List (Str × Str)} {ms cs : List Nat} {f : Str → List Str}
end RP
-- wp: XYVUHGML
namespace RP
open PySem PySem.Spec L2 Rm
open SX (S join_S S_cat S_tl S_len split_S)
variable {clt : ClT} {ns : List Str} {ts : List (Str × Str)} {ms cs : List Nat} {f : Str → List Str}
end RP
-- wp: XYVUHGML
namespace RP
open PySem PySem.Spec L2 Rm
open SX (S join_S S_cat S_tl S_len split_S)
variable {clt : ClT} {ns : List Str} {ts : List (Str × Str)} {ms cs : List Nat} {f : Str → List Str}
end RP
-- wp: XYVUHGML
namespace RP
open PySem PySem.Spec L2 Rm
open SX (S join_S S_cat S_tl S_len split_S)
variable {clt : ClT} {ns : List Str} {ts : List (Str × Str)} {ms cs : List Nat} {f : Str → List Str}
end RP
-- wp: XYVUHGML
namespace RP
open PySem PySem.Spec L2 Rm
open SX (S join_S S_cat S_tl S_len split_S)
variable {clt : ClT} {ns : List Str} {ts : List (Str × Str)} {ms cs : List Nat} {f : Str → List Str}
def vW (f : List D → Option (List D)) (env : List D) (P : List D → Prop) : Prop := ∃ e, f env = some e ∧ P e
theorem vW_nil {env P} (h : P env) : vW some env P := ⟨env, rfl, h⟩
theorem vW_cons {f : M Fl} {g env P} (h : Wp (f env) (fun fl e => fl = .nx ∧ vW g e P) (fun _ _ _ => False)) : vW (vCons f g) env P := by
  unfold vW vCons
  cases eo : f env with
  | stuck => rw [eo] at h; unfold Wp at h; exact h.elim
  | ex c fs e => rw [eo] at h; unfold Wp at h; exact h.elim
  | ok fl e =>
    rw [eo] at h
    unfold Wp at h
    obtain ⟨rfl, e2, h1, h2⟩ := h
    exact ⟨e2, h1, h2⟩
end RP
namespace Rm
open PySem PySem.Spec L2
def piK (K : D → List D → Prop) (x y : D) (e : List D) : Prop := match x, y with | .lst ds, .int i => oK (atI ds i) (fun d => K d e) | _, _ => False
def fo2K (i x : Nat) (fb : M Fl) (e : List D) (K : Fl → List D → Prop) (l : D) : Prop := match l with | .lst ds => ds.all isLD = true ∧ Wp (forOGo x fb ds [] e) (fun ds' e' => K .nx (e'.set i (.lst ds'))) noX3 | _ => False
theorem wpK :
    (∀ (fa fb : M D) e K X, Wp (pickM fa fb e) K X = Wp (fa e) (fun x e => Wp (fb e) (fun y e => piK K x y e) X) X) ∧
    (∀ K ds i e, piK K (.lst ds) (.int i) e = oK (atI ds i) (fun d => K d e)) ∧
    (∀ (i x fb e K X), Wp (forOM2 i x fb e) K X = getK e[i]? (fo2K i x fb e K)) ∧
    (∀ i x fb e K ds, fo2K i x fb e K (.lst ds) = (ds.all isLD = true ∧ Wp (forOGo x fb ds [] e) (fun ds' e' => K .nx (e'.set i (.lst ds'))) noX3)) ∧
    (∀ (fa : M D) e K X, Wp (lfOM fa e) K X = Wp (fa e) (fun d e => lfO d = true ∧ K d e) X) := by
  with_unfolding_all
    refine ⟨?_, fun _ _ _ _ => rfl, ?_, fun _ _ _ _ _ _ => rfl, ?_⟩
    · intro fa fb e K X; unfold pickM; rw [Wp.bind]; congr 1; funext x e; rw [Wp.bind]; congr 1; funext y e
      cases x <;> try rfl
      cases y <;> try rfl
      rename_i ds i
      show Wp (match atI ds i with | some d => Out.ok d e | none => .stuck) K X = oK (atI ds i) (fun d => K d e)
      cases atI ds i <;> rfl
    · intro i x fb e K X; unfold forOM2; cases e[i]? with
      | none => rfl
      | some l =>
        cases l <;> try rfl
        rename_i ds
        show Wp (if ds.all isLD = true then _ else _) K X = (ds.all isLD = true ∧ _)
        by_cases h : ds.all isLD = true
        · rw [if_pos h]
          refine propext ⟨fun z => ⟨h, ?_⟩, fun z => ?_⟩
          · cases eo : forOGo x fb ds [] e with
            | ok a e' => rw [eo] at z; exact z
            | ex c fs e' => rw [eo] at z; exact z.elim
            | stuck => rw [eo] at z; exact z
          · have z := z.2
            cases eo : forOGo x fb ds [] e with
            | ok a e' => rw [eo] at z; exact z
            | ex c fs e' => rw [eo] at z; exact z.elim
            | stuck => rw [eo] at z; exact z
        · rw [if_neg h]; exact propext ⟨fun z => z.elim, fun z => h z.1⟩
    · intro fa e K X; unfold lfOM; rw [Wp.bind]; congr 1; funext d e
      by_cases h : lfO d = true
      · rw [if_pos h]; exact propext ⟨fun z => ⟨h, z⟩, fun z => z.2⟩
      · rw [if_neg h]; exact propext ⟨fun z => z.elim, fun z => h z.1⟩
end Rm
-- wp: XYVUHGMLK
namespace RP
open PySem PySem.Spec L2 Rm
open SX (S join_S S_cat S_tl S_len split_S)
variable {clt : ClT}
theorem aremarksT_w {r : D} {ns l : List Str} {K X} (g : GN ns) (l12 : ns.length ≤ 12) (hr : SeqD r (l.map .str)) (nd : l.Nodup) (sub : ∀ m ∈ l, m ∈ ns) (k : K (.bl true) [.tup (ns.map .str), r]) : Wp (F_are_marks clt [.tup (ns.map .str), r]) K X := by
  unfold F_are_marks b_are_marks
  have hlim : lim = 1000000 := rfl
  have ll := List.Subset.nodup_length_le nd sub
  have e : gIsiT2 clt [r, .ty "list", .ty "tuple"] = some (.bl true) := by
    unfold gIsiT2
    simp only
    rw [if_pos ⟨Nat.le_of_ble_eq_true rfl, by simp⟩]
    rcases hr with rfl | rfl <;> rfl
  simp only [e, seq_len hr, seq_len (N := D.tup (ns.map D.str)) (.inr rfl), ↓wpK, ↓wpL, ↓wpM, ↓wpG, ↓wpH, ↓wpU, ↓wpV, ↓wpY, ↓wpX, wipeE, Option.isSome_none, Option.isSome_some, Option.bind_some, ↓wpF, List.replicate, List.cons_append, List.nil_append, List.append_nil, ↓wpS, ↓wpN, ↓wpE, wpB, List.set_cons_zero, List.set_cons_succ, ↓wpO, ↓wpP, ↓wpW, ↓wpR, ↓wpD, ↓wpC, wpT, wpQ, true_and, wpA, ↓wpI, decide_eq_true_eq, Bool.not_true, Bool.not_false, if_true, Bool.false_eq_true, if_false, List.take_succ_cons, List.take_zero]
  rw [List.length_map, List.length_map]
  rw [if_neg (by omega)]
  simp only [seq_list hr, ↓wpK, ↓wpL, ↓wpM, ↓wpG, ↓wpH, ↓wpU, ↓wpV, ↓wpY, ↓wpX, wipeE, Option.isSome_none, Option.isSome_some, Option.bind_some, ↓wpF, List.replicate, List.cons_append, List.nil_append, List.append_nil, ↓wpS, ↓wpN, ↓wpE, wpB, List.set_cons_zero, List.set_cons_succ, ↓wpO, ↓wpP, ↓wpW, ↓wpR, ↓wpD, ↓wpC, wpT, wpQ, true_and, wpA, ↓wpI, decide_eq_true_eq, Bool.not_true, Bool.not_false, if_true, Bool.false_eq_true, if_false, List.take_succ_cons, List.take_zero]
  refine ⟨Nat.zero_le _, ?_⟩
  refine Rm.for_list D.str (fun i e => ∃ z, e = [.tup (ns.map .str), r, .lst ((l.take i).map .str), z]) ⟨_, rfl⟩ ?_ ?_
  · rintro i x e hx ⟨z, rfl⟩
    have hi := (List.getElem?_eq_some_iff.mp hx).1
    have mx := List.mem_of_getElem? hx
    have nx := not_take nd hx
    try simp only [↓wpK, ↓wpL, ↓wpM, ↓wpG, ↓wpH, ↓wpU, ↓wpV, ↓wpY, ↓wpX, wipeE, Option.isSome_none, Option.isSome_some, Option.bind_some, ↓wpF, List.replicate, List.cons_append, List.nil_append, List.append_nil, ↓wpS, ↓wpN, ↓wpE, wpB, List.set_cons_zero, List.set_cons_succ, ↓wpO, ↓wpP, ↓wpW, ↓wpR, ↓wpD, ↓wpC, wpT, wpQ, true_and, wpA, ↓wpI, decide_eq_true_eq, Bool.not_true, Bool.not_false, if_true, Bool.false_eq_true, if_false, List.take_succ_cons, List.take_zero]
    refine notInT_strs (g.ok x (sub x mx)).ok (fun y my => (g.ok y my).ok) ?_
    rw [decide_eq_true (sub x mx)]
    try simp only [↓wpK, ↓wpL, ↓wpM, ↓wpG, ↓wpH, ↓wpU, ↓wpV, ↓wpY, ↓wpX, wipeE, Option.isSome_none, Option.isSome_some, Option.bind_some, ↓wpF, List.replicate, List.cons_append, List.nil_append, List.append_nil, ↓wpS, ↓wpN, ↓wpE, wpB, List.set_cons_zero, List.set_cons_succ, ↓wpO, ↓wpP, ↓wpW, ↓wpR, ↓wpD, ↓wpC, wpT, wpQ, true_and, wpA, ↓wpI, decide_eq_true_eq, Bool.not_true, Bool.not_false, if_true, Bool.false_eq_true, if_false, List.take_succ_cons, List.take_zero]
    refine in_strs (g.ok x (sub x mx)) (fun y m => g.ok y (sub y (List.mem_of_mem_take m))) ?_
    rw [decide_eq_false nx]
    try simp only [↓wpK, ↓wpL, ↓wpM, ↓wpG, ↓wpH, ↓wpU, ↓wpV, ↓wpY, ↓wpX, wipeE, Option.isSome_none, Option.isSome_some, Option.bind_some, ↓wpF, List.replicate, List.cons_append, List.nil_append, List.append_nil, ↓wpS, ↓wpN, ↓wpE, wpB, List.set_cons_zero, List.set_cons_succ, ↓wpO, ↓wpP, ↓wpW, ↓wpR, ↓wpD, ↓wpC, wpT, wpQ, true_and, wpA, ↓wpI, decide_eq_true_eq, Bool.not_true, Bool.not_false, if_true, Bool.false_eq_true, if_false, List.take_succ_cons, List.take_zero]
    refine ⟨rfl, by rw [List.length_map, List.length_take]; omega, .str x, ?_⟩
    rw [take_snoc hx, List.map_append]
    rfl
  · rintro e ⟨z, rfl⟩
    try simp only [↓wpK, ↓wpL, ↓wpM, ↓wpG, ↓wpH, ↓wpU, ↓wpV, ↓wpY, ↓wpX, wipeE, Option.isSome_none, Option.isSome_some, Option.bind_some, ↓wpF, List.replicate, List.cons_append, List.nil_append, List.append_nil, ↓wpS, ↓wpN, ↓wpE, wpB, List.set_cons_zero, List.set_cons_succ, ↓wpO, ↓wpP, ↓wpW, ↓wpR, ↓wpD, ↓wpC, wpT, wpQ, true_and, wpA, ↓wpI, decide_eq_true_eq, Bool.not_true, Bool.not_false, if_true, Bool.false_eq_true, if_false, List.take_succ_cons, List.take_zero]
    exact k
theorem needlistsT_w {ns os : List Str} {a : Str → List Str} {g : Str → D} {K X} (G : GN ns) (l12 : ns.length ≤ 12) (ok : MkOk ns a) (h : Hd ns a os g) (k : K .non [.tup (ns.map .str), .dK (kvs os g)]) : Wp (F_need_lists clt [.tup (ns.map .str), .dK (kvs os g)]) K X := by
  unfold F_need_lists b_need_lists
  have hlim : lim = 1000000 := rfl
  have ln := h.perm.length_eq
  have lk : (kvs os g).length = ns.length := by unfold kvs; rw [List.length_map, ln]
  try simp only [↓wpK, ↓wpL, ↓wpM, ↓wpG, ↓wpH, ↓wpU, ↓wpV, ↓wpY, ↓wpX, wipeE, Option.isSome_none, Option.isSome_some, Option.bind_some, ↓wpF, List.replicate, List.cons_append, List.nil_append, List.append_nil, ↓wpS, ↓wpN, ↓wpE, wpB, List.set_cons_zero, List.set_cons_succ, ↓wpO, ↓wpP, ↓wpW, ↓wpR, ↓wpD, ↓wpC, wpT, wpQ, true_and, wpA, ↓wpI, decide_eq_true_eq, Bool.not_true, Bool.not_false, if_true, Bool.false_eq_true, if_false, List.take_succ_cons, List.take_zero]
  rw [lk, List.length_map]
  try simp only [↓wpK, ↓wpL, ↓wpM, ↓wpG, ↓wpH, ↓wpU, ↓wpV, ↓wpY, ↓wpX, wipeE, Option.isSome_none, Option.isSome_some, Option.bind_some, ↓wpF, List.replicate, List.cons_append, List.nil_append, List.append_nil, ↓wpS, ↓wpN, ↓wpE, wpB, List.set_cons_zero, List.set_cons_succ, ↓wpO, ↓wpP, ↓wpW, ↓wpR, ↓wpD, ↓wpC, wpT, wpQ, true_and, wpA, ↓wpI, decide_eq_true_eq, Bool.not_true, Bool.not_false, if_true, Bool.false_eq_true, if_false, List.take_succ_cons, List.take_zero]
  refine Rm.for_list D.str (fun i e => ∃ z, e = [.tup (ns.map .str), .dK (kvs os g), z]) ⟨_, rfl⟩ ?_ ?_
  · rintro i x e hx ⟨z, rfl⟩
    have mx := List.mem_of_getElem? hx
    try simp only [↓wpK, ↓wpL, ↓wpM, ↓wpG, ↓wpH, ↓wpU, ↓wpV, ↓wpY, ↓wpX, wipeE, Option.isSome_none, Option.isSome_some, Option.bind_some, ↓wpF, List.replicate, List.cons_append, List.nil_append, List.append_nil, ↓wpS, ↓wpN, ↓wpE, wpB, List.set_cons_zero, List.set_cons_succ, ↓wpO, ↓wpP, ↓wpW, ↓wpR, ↓wpD, ↓wpC, wpT, wpQ, true_and, wpA, ↓wpI, decide_eq_true_eq, Bool.not_true, Bool.not_false, if_true, Bool.false_eq_true, if_false, List.take_succ_cons, List.take_zero]
    rw [getDk_map, if_pos (h.perm.symm.subset mx)]
    try simp only [↓wpK, ↓wpL, ↓wpM, ↓wpG, ↓wpH, ↓wpU, ↓wpV, ↓wpY, ↓wpX, wipeE, Option.isSome_none, Option.isSome_some, Option.bind_some, ↓wpF, List.replicate, List.cons_append, List.nil_append, List.append_nil, ↓wpS, ↓wpN, ↓wpE, wpB, List.set_cons_zero, List.set_cons_succ, ↓wpO, ↓wpP, ↓wpW, ↓wpR, ↓wpD, ↓wpC, wpT, wpQ, true_and, wpA, ↓wpI, decide_eq_true_eq, Bool.not_true, Bool.not_false, if_true, Bool.false_eq_true, if_false, List.take_succ_cons, List.take_zero]
    refine aremarksT_w G l12 (h.seq x mx) (ok.nd x mx) (ok.sub x mx) ?_
    try simp only [↓wpK, ↓wpL, ↓wpM, ↓wpG, ↓wpH, ↓wpU, ↓wpV, ↓wpY, ↓wpX, wipeE, Option.isSome_none, Option.isSome_some, Option.bind_some, ↓wpF, List.replicate, List.cons_append, List.nil_append, List.append_nil, ↓wpS, ↓wpN, ↓wpE, wpB, List.set_cons_zero, List.set_cons_succ, ↓wpO, ↓wpP, ↓wpW, ↓wpR, ↓wpD, ↓wpC, wpT, wpQ, true_and, wpA, ↓wpI, decide_eq_true_eq, Bool.not_true, Bool.not_false, if_true, Bool.false_eq_true, if_false, List.take_succ_cons, List.take_zero]
    exact ⟨_, rfl⟩
  · rintro e ⟨z, rfl⟩
    try simp only [↓wpK, ↓wpL, ↓wpM, ↓wpG, ↓wpH, ↓wpU, ↓wpV, ↓wpY, ↓wpX, wipeE, Option.isSome_none, Option.isSome_some, Option.bind_some, ↓wpF, List.replicate, List.cons_append, List.nil_append, List.append_nil, ↓wpS, ↓wpN, ↓wpE, wpB, List.set_cons_zero, List.set_cons_succ, ↓wpO, ↓wpP, ↓wpW, ↓wpR, ↓wpD, ↓wpC, wpT, wpQ, true_and, wpA, ↓wpI, decide_eq_true_eq, Bool.not_true, Bool.not_false, if_true, Bool.false_eq_true, if_false, List.take_succ_cons, List.take_zero]
    exact k
theorem wp_noXM (f : M D) (e K X) : Wp (noXM f e) K X = Wp (f e) K noX3 := by
  unfold noXM
  cases f e <;> with_unfolding_all rfl
theorem needlistsN_w {N : D} {ns os : List Str} {a : Str → List Str} {g : Str → D} {K X} (hN : SeqD N (ns.map .str)) (G : GN ns) (l12 : ns.length ≤ 12) (ok : MkOk ns a) (h : Hd ns a os g) (k : K .non [N, .dK (kvs os g)]) : Wp (F_need_lists clt [N, .dK (kvs os g)]) K X := by
  rcases hN with rfl | rfl
  · exact needlists_w G l12 ok h k
  · exact needlistsT_w G l12 ok h k
theorem putA2 {c d : D} {l1 l2 : List (Key × D)} {x : Str} {e : List D} {K} (nn : getDk l1 (.inr x) = none) (hl : l1.length < lim) (k : K .nx (e.set 0 (mkO c (l1 ++ [(.inr x, d)]) l2))) : putPK 0 20 ("sides" : Str) [some 0, some 1] K d e (mkO c l1 l2) [.inr ("ahead" : Str)] (.inr x) := by
  unfold mkO putPK
  have e1 : putP [(Sum.inr ("ahead" : Str) : Key)] (Sum.inr x) d (.dK [(.inr ("ahead" : Str), .dK l1), (.inr ("behind" : Str), .dK l2)]) = some (.dK [(.inr ("ahead" : Str), .dK (l1 ++ [(.inr x, d)])), (.inr ("behind" : Str), .dK l2)]) := by
    unfold putP
    rw [gdA]
    show some (D.dK (repK _ _ (.dK (putD l1 (Sum.inr x) d)))) = _
    rw [putD_new nn, rpA]
  have e2 : lenP [(Sum.inr ("ahead" : Str) : Key)] (.dK [(.inr ("ahead" : Str), .dK l1), (.inr ("behind" : Str), .dK l2)]) = some l1.length := by
    unfold lenP
    rw [gdA]; rfl
  show oK (putP [(Sum.inr ("ahead" : Str) : Key)] (Sum.inr x) d (.dK [(.inr ("ahead" : Str), .dK l1), (.inr ("behind" : Str), .dK l2)])) (fun df' => oK (lenP [(Sum.inr ("ahead" : Str) : Key)] (.dK [(.inr ("ahead" : Str), .dK l1), (.inr ("behind" : Str), .dK l2)])) fun l => (20 = 20 ∧ fkOf [some 0, some 1] [(("called" : Str), c), (("sides" : Str), D.dK [(.inr ("ahead" : Str), .dK l1), (.inr ("behind" : Str), .dK l2)])] ("sides" : Str) = some (some 1) ∧ l < lim) ∧ K .nx (e.set 0 (.ins 20 (repF [(("called" : Str), c), (("sides" : Str), D.dK [(.inr ("ahead" : Str), .dK l1), (.inr ("behind" : Str), .dK l2)])] ("sides" : Str) df'))))
  rw [e1, e2]
  exact ⟨⟨rfl, rfl, hl⟩, k⟩
theorem putB2 {c d : D} {l1 l2 : List (Key × D)} {x : Str} {e : List D} {K} (nn : getDk l2 (.inr x) = none) (hl : l2.length < lim) (k : K .nx (e.set 0 (mkO c l1 (l2 ++ [(.inr x, d)])))) : putPK 0 20 ("sides" : Str) [some 0, some 1] K d e (mkO c l1 l2) [.inr ("behind" : Str)] (.inr x) := by
  unfold mkO putPK
  have e1 : putP [(Sum.inr ("behind" : Str) : Key)] (Sum.inr x) d (.dK [(.inr ("ahead" : Str), .dK l1), (.inr ("behind" : Str), .dK l2)]) = some (.dK [(.inr ("ahead" : Str), .dK l1), (.inr ("behind" : Str), .dK (l2 ++ [(.inr x, d)]))]) := by
    unfold putP
    rw [gdB]
    show some (D.dK (repK _ _ (.dK (putD l2 (Sum.inr x) d)))) = _
    rw [putD_new nn, rpB]
  have e2 : lenP [(Sum.inr ("behind" : Str) : Key)] (.dK [(.inr ("ahead" : Str), .dK l1), (.inr ("behind" : Str), .dK l2)]) = some l2.length := by
    unfold lenP
    rw [gdB]; rfl
  show oK (putP [(Sum.inr ("behind" : Str) : Key)] (Sum.inr x) d (.dK [(.inr ("ahead" : Str), .dK l1), (.inr ("behind" : Str), .dK l2)])) (fun df' => oK (lenP [(Sum.inr ("behind" : Str) : Key)] (.dK [(.inr ("ahead" : Str), .dK l1), (.inr ("behind" : Str), .dK l2)])) fun l => (20 = 20 ∧ fkOf [some 0, some 1] [(("called" : Str), c), (("sides" : Str), D.dK [(.inr ("ahead" : Str), .dK l1), (.inr ("behind" : Str), .dK l2)])] ("sides" : Str) = some (some 1) ∧ l < lim) ∧ K .nx (e.set 0 (.ins 20 (repF [(("called" : Str), c), (("sides" : Str), D.dK [(.inr ("ahead" : Str), .dK l1), (.inr ("behind" : Str), .dK l2)])] ("sides" : Str) df'))))
  rw [e1, e2]
  exact ⟨⟨rfl, rfl, hl⟩, k⟩
theorem mkinit2_w {N : D} {ns os os' : List Str} {a b : Str → List Str} {g g' : Str → D} {K X} (hN : SeqD N (ns.map .str)) (G : GN ns) (l12 : ns.length ≤ 12) (oa : MkOk ns a) (ob : MkOk ns b) (h : Hd ns a os g) (h' : Hd ns b os' g') (k : K .non [mkD ns a b, N, .dK (kvs os g), .dK (kvs os' g')]) : Wp (F_Marks_d_initd__k16 clt [.ins 20 [], N, .dK (kvs os g), .dK (kvs os' g')]) K X := by
  unfold F_Marks_d_initd__k16 b_Marks_d_initd__k16
  have hlim : lim = 1000000 := rfl
  simp only [↓wp_noXM, ↓wpK, ↓wpL, ↓wpM, ↓wpG, ↓wpH, ↓wpU, ↓wpV, ↓wpY, ↓wpX, wipeE, Option.isSome_none, Option.isSome_some, Option.bind_some, ↓wpF, List.replicate, List.cons_append, List.nil_append, List.append_nil, ↓wpS, ↓wpN, ↓wpE, wpB, List.set_cons_zero, List.set_cons_succ, ↓wpO, ↓wpP, ↓wpW, ↓wpR, ↓wpD, ↓wpC, wpT, wpQ, true_and, wpA, ↓wpI, decide_eq_true_eq, Bool.not_true, Bool.not_false, if_true, Bool.false_eq_true, if_false, List.take_succ_cons, List.take_zero]
  refine goodnames_w hN G l12 ?_
  simp only [show (num ns).map (fun kv => kD kv.1) = ns.map D.str from keys_kvs, ↓wpK, ↓wpL, ↓wpM, ↓wpG, ↓wpH, ↓wpU, ↓wpV, ↓wpY, ↓wpX, wipeE, Option.isSome_none, Option.isSome_some, Option.bind_some, ↓wpF, List.replicate, List.cons_append, List.nil_append, List.append_nil, ↓wpS, ↓wpN, ↓wpE, wpB, List.set_cons_zero, List.set_cons_succ, ↓wpO, ↓wpP, ↓wpW, ↓wpR, ↓wpD, ↓wpC, wpT, wpQ, true_and, wpA, ↓wpI, decide_eq_true_eq, Bool.not_true, Bool.not_false, if_true, Bool.false_eq_true, if_false, List.take_succ_cons, List.take_zero]
  refine ⟨⟨by simp, rfl, by simp⟩, ?_⟩
  simp only [↓wp_noXM, ↓wpK, ↓wpL, ↓wpM, ↓wpG, ↓wpH, ↓wpU, ↓wpV, ↓wpY, ↓wpX, wipeE, Option.isSome_none, Option.isSome_some, Option.bind_some, ↓wpF, List.replicate, List.cons_append, List.nil_append, List.append_nil, ↓wpS, ↓wpN, ↓wpE, wpB, List.set_cons_zero, List.set_cons_succ, ↓wpO, ↓wpP, ↓wpW, ↓wpR, ↓wpD, ↓wpC, wpT, wpQ, true_and, wpA, ↓wpI, decide_eq_true_eq, Bool.not_true, Bool.not_false, if_true, Bool.false_eq_true, if_false, List.take_succ_cons, List.take_zero]
  refine needlistsN_w hN G l12 oa h ?_
  simp only [↓wp_noXM, ↓wpK, ↓wpL, ↓wpM, ↓wpG, ↓wpH, ↓wpU, ↓wpV, ↓wpY, ↓wpX, wipeE, Option.isSome_none, Option.isSome_some, Option.bind_some, ↓wpF, List.replicate, List.cons_append, List.nil_append, List.append_nil, ↓wpS, ↓wpN, ↓wpE, wpB, List.set_cons_zero, List.set_cons_succ, ↓wpO, ↓wpP, ↓wpW, ↓wpR, ↓wpD, ↓wpC, wpT, wpQ, true_and, wpA, ↓wpI, decide_eq_true_eq, Bool.not_true, Bool.not_false, if_true, Bool.false_eq_true, if_false, List.take_succ_cons, List.take_zero]
  refine needlistsN_w hN G l12 ob h' ?_
  try simp only [↓wpK, ↓wpL, ↓wpM, ↓wpG, ↓wpH, ↓wpU, ↓wpV, ↓wpY, ↓wpX, wipeE, Option.isSome_none, Option.isSome_some, Option.bind_some, ↓wpF, List.replicate, List.cons_append, List.nil_append, List.append_nil, ↓wpS, ↓wpN, ↓wpE, wpB, List.set_cons_zero, List.set_cons_succ, ↓wpO, ↓wpP, ↓wpW, ↓wpR, ↓wpD, ↓wpC, wpT, wpQ, true_and, wpA, ↓wpI, decide_eq_true_eq, Bool.not_true, Bool.not_false, if_true, Bool.false_eq_true, if_false, List.take_succ_cons, List.take_zero]
  refine ⟨by decide, ⟨by decide, rfl, by simp⟩, ?_⟩
  simp only [seq_list hN, ↓wpK, ↓wpL, ↓wpM, ↓wpG, ↓wpH, ↓wpU, ↓wpV, ↓wpY, ↓wpX, wipeE, Option.isSome_none, Option.isSome_some, Option.bind_some, ↓wpF, List.replicate, List.cons_append, List.nil_append, List.append_nil, ↓wpS, ↓wpN, ↓wpE, wpB, List.set_cons_zero, List.set_cons_succ, ↓wpO, ↓wpP, ↓wpW, ↓wpR, ↓wpD, ↓wpC, wpT, wpQ, true_and, wpA, ↓wpI, decide_eq_true_eq, Bool.not_true, Bool.not_false, if_true, Bool.false_eq_true, if_false, List.take_succ_cons, List.take_zero]
  refine Rm.for_list D.str (fun i e => ∃ z, e = [mkI ns (ns.take i) a b, N, .dK (kvs os g), .dK (kvs os' g'), z]) ⟨_, rfl⟩ ?_ ?_
  · rintro i x e hx ⟨z, rfl⟩
    have hi := (List.getElem?_eq_some_iff.mp hx).1
    have mx := List.mem_of_getElem? hx
    have nn : ∀ g : Str → D, getDk (kvs (ns.take i) g) (.inr x) = none := fun g => by rw [getDk_map, if_neg (not_take G.nd hx)]
    try simp only [↓wpK, ↓wpL, ↓wpM, ↓wpG, ↓wpH, ↓wpU, ↓wpV, ↓wpY, ↓wpX, wipeE, Option.isSome_none, Option.isSome_some, Option.bind_some, ↓wpF, List.replicate, List.cons_append, List.nil_append, List.append_nil, ↓wpS, ↓wpN, ↓wpE, wpB, List.set_cons_zero, List.set_cons_succ, ↓wpO, ↓wpP, ↓wpW, ↓wpR, ↓wpD, ↓wpC, wpT, wpQ, true_and, wpA, ↓wpI, decide_eq_true_eq, Bool.not_true, Bool.not_false, if_true, Bool.false_eq_true, if_false, List.take_succ_cons, List.take_zero]
    rw [getDk_map, if_pos (h.perm.symm.subset mx)]
    simp only [seq_tup (h.seq x mx), ↓wpK, ↓wpL, ↓wpM, ↓wpG, ↓wpH, ↓wpU, ↓wpV, ↓wpY, ↓wpX, wipeE, Option.isSome_none, Option.isSome_some, Option.bind_some, ↓wpF, List.replicate, List.cons_append, List.nil_append, List.append_nil, ↓wpS, ↓wpN, ↓wpE, wpB, List.set_cons_zero, List.set_cons_succ, ↓wpO, ↓wpP, ↓wpW, ↓wpR, ↓wpD, ↓wpC, wpT, wpQ, true_and, wpA, ↓wpI, decide_eq_true_eq, Bool.not_true, Bool.not_false, if_true, Bool.false_eq_true, if_false, List.take_succ_cons, List.take_zero]
    have lt : ∀ g : Str → D, (kvs (ns.take i) g).length < lim := fun g => by unfold kvs; rw [List.length_map, List.length_take]; omega
    refine putA2 (nn _) (lt _) ?_
    try simp only [↓wpK, ↓wpL, ↓wpM, ↓wpG, ↓wpH, ↓wpU, ↓wpV, ↓wpY, ↓wpX, wipeE, Option.isSome_none, Option.isSome_some, Option.bind_some, ↓wpF, List.replicate, List.cons_append, List.nil_append, List.append_nil, ↓wpS, ↓wpN, ↓wpE, wpB, List.set_cons_zero, List.set_cons_succ, ↓wpO, ↓wpP, ↓wpW, ↓wpR, ↓wpD, ↓wpC, wpT, wpQ, true_and, wpA, ↓wpI, decide_eq_true_eq, Bool.not_true, Bool.not_false, if_true, Bool.false_eq_true, if_false, List.take_succ_cons, List.take_zero]
    rw [getDk_map, if_pos (h'.perm.symm.subset mx)]
    simp only [seq_tup (h'.seq x mx), ↓wpK, ↓wpL, ↓wpM, ↓wpG, ↓wpH, ↓wpU, ↓wpV, ↓wpY, ↓wpX, wipeE, Option.isSome_none, Option.isSome_some, Option.bind_some, ↓wpF, List.replicate, List.cons_append, List.nil_append, List.append_nil, ↓wpS, ↓wpN, ↓wpE, wpB, List.set_cons_zero, List.set_cons_succ, ↓wpO, ↓wpP, ↓wpW, ↓wpR, ↓wpD, ↓wpC, wpT, wpQ, true_and, wpA, ↓wpI, decide_eq_true_eq, Bool.not_true, Bool.not_false, if_true, Bool.false_eq_true, if_false, List.take_succ_cons, List.take_zero]
    refine putB2 (nn _) (lt _) ?_
    try simp only [↓wpK, ↓wpL, ↓wpM, ↓wpG, ↓wpH, ↓wpU, ↓wpV, ↓wpY, ↓wpX, wipeE, Option.isSome_none, Option.isSome_some, Option.bind_some, ↓wpF, List.replicate, List.cons_append, List.nil_append, List.append_nil, ↓wpS, ↓wpN, ↓wpE, wpB, List.set_cons_zero, List.set_cons_succ, ↓wpO, ↓wpP, ↓wpW, ↓wpR, ↓wpD, ↓wpC, wpT, wpQ, true_and, wpA, ↓wpI, decide_eq_true_eq, Bool.not_true, Bool.not_false, if_true, Bool.false_eq_true, if_false, List.take_succ_cons, List.take_zero]
    refine ⟨.str x, ?_⟩
    rw [take_snoc hx]
    unfold mkI mkO tsD
    rw [kvs_snoc, kvs_snoc]
  · rintro e ⟨z, rfl⟩
    rw [List.take_length]
    try simp only [↓wpK, ↓wpL, ↓wpM, ↓wpG, ↓wpH, ↓wpU, ↓wpV, ↓wpY, ↓wpX, wipeE, Option.isSome_none, Option.isSome_some, Option.bind_some, ↓wpF, List.replicate, List.cons_append, List.nil_append, List.append_nil, ↓wpS, ↓wpN, ↓wpE, wpB, List.set_cons_zero, List.set_cons_succ, ↓wpO, ↓wpP, ↓wpW, ↓wpR, ↓wpD, ↓wpC, wpT, wpQ, true_and, wpA, ↓wpI, decide_eq_true_eq, Bool.not_true, Bool.not_false, if_true, Bool.false_eq_true, if_false, List.take_succ_cons, List.take_zero]
    exact k
theorem handedO_w {n : Nat} {d : D} {ns : List Str} {a : Str → List Str} {K X} (h : Bx3 n d) (hn : n < 2 ^ 44) (g : GN ns) (l : ns.length ≤ 12) (ok : MkOk ns a) (k : ∀ os g d', Hd ns a os g → Bx3 (n + 20) d' → K (.dK (kvs os g)) [d', lsD ns a]) : Wp (F_l_handed_k16 clt [d, lsD ns a]) K X := by
  unfold F_l_handed_k16 b_l_handed_k16
  have hlim : lim = 1000000 := rfl
  have e0 : lsD ns a = .dK (kvs ns fun x => .lst ((a x).map .str)) := rfl
  simp only [e0, keys_kvs, ↓wpK, ↓wpL, ↓wpM, ↓wpG, ↓wpH, ↓wpU, ↓wpV, ↓wpY, ↓wpX, wipeE, Option.isSome_none, Option.isSome_some, Option.bind_some, ↓wpF, List.replicate, List.cons_append, List.nil_append, List.append_nil, ↓wpS, ↓wpN, ↓wpE, wpB, List.set_cons_zero, List.set_cons_succ, ↓wpO, ↓wpP, ↓wpW, ↓wpR, ↓wpD, ↓wpC, wpT, wpQ, true_and, wpA, ↓wpI, decide_eq_true_eq, Bool.not_true, Bool.not_false, if_true, Bool.false_eq_true, if_false, List.take_succ_cons, List.take_zero]
  refine takeM_w (m := 2) h (by omega) (by decide) (by decide) fun v d1 b1 h1 => ?_
  have go : ∀ os : List Str, os.Perm ns → Wp
      (forGo (tName 4)
        (sCons (setDO 3 (fun (env : List D) => env[4]?) (pickM (lstM (aCons (primM (ro (nl gList)) [.sh] (aCons (primM (ro Rm.gSub) [.sh, .sh] (aCons (vr 1) (aCons (vr 4) (aNil)))) (aNil))) (aCons (lfOM (primM (ro gTuple) [.sh] (aCons (primM (ro Rm.gSub) [.sh, .sh] (aCons (vr 1) (aCons (vr 4) (aNil)))) (aNil)))) aNil))) (callM (F_l_take_k54 clt) [.io 0 0, .sh] (aCons (vr 0) (aCons (cn (.int 2)) (aNil))))))
 (sNil))
        (os.map D.str)
        [d1, lsD ns a, D.lst (os.map D.str), D.dK [], D.non])
      (nxK (sCons (sRet (vr 3)) sNil) (rtK 2 K) fun c fs e => X c fs (List.take 2 e)) (fun c fs e =>
      X c fs (List.take 2 e)) := fun os hp => by
    have ln := hp.length_eq
    have nd := hp.nodup_iff.mpr g.nd
    refine for_list D.str (fun i e => ∃ (g : Str → D) (d' z : D), (∀ x ∈ os.take i, SeqD (g x) ((a x).map .str)) ∧ Bx3 (n + 1 + i) d' ∧ e = [d', lsD ns a, .lst (os.map .str), .dK (kvs (os.take i) g), z]) ⟨fun _ => .non, d1, _, (by intro x m; simp at m), h1, rfl⟩ ?_ ?_
    · rintro i x e hx ⟨g', d', z, hs, hb, rfl⟩
      have hi := (List.getElem?_eq_some_iff.mp hx).1
      have mx := hp.subset (List.mem_of_getElem? hx)
      have nx := not_take nd hx
      have la := ok.len mx
      simp only [getls mx, ↓wpK, ↓wpL, ↓wpM, ↓wpG, ↓wpH, ↓wpU, ↓wpV, ↓wpY, ↓wpX, wipeE, Option.isSome_none, Option.isSome_some, Option.bind_some, ↓wpF, List.replicate, List.cons_append, List.nil_append, List.append_nil, ↓wpS, ↓wpN, ↓wpE, wpB, List.set_cons_zero, List.set_cons_succ, ↓wpO, ↓wpP, ↓wpW, ↓wpR, ↓wpD, ↓wpC, wpT, wpQ, true_and, wpA, ↓wpI, decide_eq_true_eq, Bool.not_true, Bool.not_false, if_true, Bool.false_eq_true, if_false, List.take_succ_cons, List.take_zero]
      refine ⟨rfl, Nat.le_of_ble_eq_true rfl, takeM_w (m := 2) hb (by omega) (by decide) (by decide) fun u d2 b2 h2 => ?_⟩
      have se : ∃ r, SeqD r ((a x).map .str) ∧ ∀ P : D → Prop, oK (atI [D.lst ((a x).map .str), D.tup ((a x).map .str)] (u : Int)) P = P r := by
        have : u = 0 ∨ u = 1 := by omega
        rcases this with rfl | rfl
        · exact ⟨_, .inl rfl, fun P => rfl⟩
        · exact ⟨_, .inr rfl, fun P => rfl⟩
      obtain ⟨r, sr, eR⟩ := se
      try simp only [↓wpK, ↓wpL, ↓wpM, ↓wpG, ↓wpH, ↓wpU, ↓wpV, ↓wpY, ↓wpX, wipeE, Option.isSome_none, Option.isSome_some, Option.bind_some, ↓wpF, List.replicate, List.cons_append, List.nil_append, List.append_nil, ↓wpS, ↓wpN, ↓wpE, wpB, List.set_cons_zero, List.set_cons_succ, ↓wpO, ↓wpP, ↓wpW, ↓wpR, ↓wpD, ↓wpC, wpT, wpQ, true_and, wpA, ↓wpI, decide_eq_true_eq, Bool.not_true, Bool.not_false, if_true, Bool.false_eq_true, if_false, List.take_succ_cons, List.take_zero]
      rw [eR]
      try simp only [↓wpK, ↓wpL, ↓wpM, ↓wpG, ↓wpH, ↓wpU, ↓wpV, ↓wpY, ↓wpX, wipeE, Option.isSome_none, Option.isSome_some, Option.bind_some, ↓wpF, List.replicate, List.cons_append, List.nil_append, List.append_nil, ↓wpS, ↓wpN, ↓wpE, wpB, List.set_cons_zero, List.set_cons_succ, ↓wpO, ↓wpP, ↓wpW, ↓wpR, ↓wpD, ↓wpC, wpT, wpQ, true_and, wpA, ↓wpI, decide_eq_true_eq, Bool.not_true, Bool.not_false, if_true, Bool.false_eq_true, if_false, List.take_succ_cons, List.take_zero]
      have nn : getDk (kvs (os.take i) g') (.inr x) = none := by rw [getDk_map, if_neg nx]
      have ee : kvs (os.take i) g' = kvs (os.take i) (fun y => if y = x then r else g' y) := by
        unfold kvs
        exact List.map_congr_left fun y m => by
          have hy : y ≠ x := fun e => nx (e ▸ m)
          show (Sum.inr y, g' y) = (Sum.inr y, if y = x then r else g' y)
          rw [if_neg hy]
      refine ⟨by unfold kvs; rw [List.length_map, List.length_take]; omega, nn, fun y => if y = x then r else g' y, d2, .str x, fun y m => ?_, h2.mono (by omega), ?_⟩
      · rw [take_snoc hx] at m
        rcases List.mem_append.mp m with m | m
        · have hy : y ≠ x := fun e => nx (e ▸ m)
          show SeqD (if y = x then r else g' y) _
          rw [if_neg hy]; exact hs y m
        · rw [List.mem_singleton.mp m]
          show SeqD (if x = x then r else g' x) _
          rw [if_pos rfl]; exact sr
      · rw [ee, take_snoc hx, kvs_snoc, if_pos rfl]
    · rintro e ⟨g', d', z, hs, hb, rfl⟩
      rw [List.take_length] at hs ⊢
      try simp only [↓wpK, ↓wpL, ↓wpM, ↓wpG, ↓wpH, ↓wpU, ↓wpV, ↓wpY, ↓wpX, wipeE, Option.isSome_none, Option.isSome_some, Option.bind_some, ↓wpF, List.replicate, List.cons_append, List.nil_append, List.append_nil, ↓wpS, ↓wpN, ↓wpE, wpB, List.set_cons_zero, List.set_cons_succ, ↓wpO, ↓wpP, ↓wpW, ↓wpR, ↓wpD, ↓wpC, wpT, wpQ, true_and, wpA, ↓wpI, decide_eq_true_eq, Bool.not_true, Bool.not_false, if_true, Bool.false_eq_true, if_false, List.take_succ_cons, List.take_zero]
      exact k os g' d' ⟨hp, fun x m => hs x (hp.symm.subset m)⟩ (hb.mono (by omega))
  try simp only [↓wpK, ↓wpL, ↓wpM, ↓wpG, ↓wpH, ↓wpU, ↓wpV, ↓wpY, ↓wpX, wipeE, Option.isSome_none, Option.isSome_some, Option.bind_some, ↓wpF, List.replicate, List.cons_append, List.nil_append, List.append_nil, ↓wpS, ↓wpN, ↓wpE, wpB, List.set_cons_zero, List.set_cons_succ, ↓wpO, ↓wpP, ↓wpW, ↓wpR, ↓wpD, ↓wpC, wpT, wpQ, true_and, wpA, ↓wpI, decide_eq_true_eq, Bool.not_true, Bool.not_false, if_true, Bool.false_eq_true, if_false, List.take_succ_cons, List.take_zero]
  by_cases c0 : (v : Int) = 0
  · rw [if_pos c0]
    try simp only [↓wpK, ↓wpL, ↓wpM, ↓wpG, ↓wpH, ↓wpU, ↓wpV, ↓wpY, ↓wpX, wipeE, Option.isSome_none, Option.isSome_some, Option.bind_some, ↓wpF, List.replicate, List.cons_append, List.nil_append, List.append_nil, ↓wpS, ↓wpN, ↓wpE, wpB, List.set_cons_zero, List.set_cons_succ, ↓wpO, ↓wpP, ↓wpW, ↓wpR, ↓wpD, ↓wpC, wpT, wpQ, true_and, wpA, ↓wpI, decide_eq_true_eq, Bool.not_true, Bool.not_false, if_true, Bool.false_eq_true, if_false, List.take_succ_cons, List.take_zero]
    refine ⟨rfl, ?_⟩
    rw [← List.map_reverse]
    exact go _ (List.reverse_perm _)
  · rw [if_neg c0]
    exact go _ (.refl _)
end RP
-- wp: XYVUHGMLK
namespace RP
open PySem PySem.Spec L2 Rm
open SX (S join_S S_cat S_tl S_len split_S)
variable {clt : ClT} {ns : List Str} {a b : Str → List Str}
theorem viewB_w {κR : List Kd} {ws : List Nat} {f : List D → Option (List D)} {env : List D} {K X} (h : vW f env fun e => ((κR.zip e).all fun p => okKD p.1 p.2) = true ∧ K .nx (eMerge κR e (wipe ws env))) : Wp (viewB κR ws f env) K X := by
  obtain ⟨e, h1, h2, h3⟩ := h
  unfold viewB
  rw [h1]
  simp only
  rw [if_pos h2]
  unfold Wp
  exact h3
theorem emptyM_w {i : Nat} {env ds : List D} {K X} (he : env[i]? = some (.lst ds)) (ht : ds.all isDLT = true) (k : K .nx env) : Wp (emptyM i env) K X := by
  unfold emptyM
  rw [he]
  simp only
  rw [if_pos ht]
  unfold Wp
  exact k
theorem ttO_strs {l : List Str} : ttO 1 (.lst (l.map D.str)) = true := by
  simp only [ttO]
  induction l with
  | nil => simp [ttOL]
  | cons x l ih => simp only [List.map_cons, ttOL, ttO, ttD, ih, Bool.and_true]; rfl
theorem ttD_tstrs {l : List Str} : ttD (.tup (l.map D.str)) = true := by
  simp only [ttD]
  induction l with
  | nil => simp [ttL]
  | cons x l ih => simp only [List.map_cons, ttL, ttD, ih, Bool.and_true]; rfl
theorem ttO_ts {a : Str → List Str} : ttO 1 (tsD ns a) = true := by
  unfold tsD kvs
  simp only [ttO]
  induction ns with
  | nil => simp [ttOK]
  | cons x l ih => simp only [List.map_cons, ttOK, ttO, ttD_tstrs, ih, Bool.and_self]
theorem ok_mk : okKD (.ow (.ob [some 0, some 1])) (mkD ns a b) = true := by
  have h1 := ttO_ts (ns := ns) (a := a)
  have h2 := ttO_ts (ns := ns) (a := b)
  have h3 := ttO_strs (l := ns)
  show (ttO 1 (.lst (ns.map D.str)) && (ttO 2 (.dK [(.inr ("ahead" : Str), tsD ns a), (.inr ("behind" : Str), tsD ns b)]) && true)) = true
  rw [h3]
  simp only [ttO, ttOK, h1, h2, Bool.and_self]
theorem isDLT_seq {os : List Str} {g : Str → D} {a : Str → List Str} (h : ∀ x ∈ os, SeqD (g x) ((a x).map .str)) : isDLT (.dK (kvs os g)) = true := by
  unfold isDLT
  simp only [List.all_eq_true]
  intro p m
  unfold kvs at m
  obtain ⟨x, mx, rfl⟩ := List.mem_map.mp m
  rcases h x mx with e | e <;> (show isLT (g x) = true) <;> rw [e] <;> rfl
theorem scene_w {c : Int} {K : D → List D → Prop} {X} (k : ∀ (ns : List Str) (a b : Str → List Str) (u : Nat) z, GN ns → ns.length ≤ 12 → MkOk ns a → MkOk ns b → u < 2 → K (.lst [mkD ns a b, .lst (ns.map .str), lsD ns a, lsD ns b, .int (u : Int)]) z) : Wp (F_l_scene clt [.int c]) K X := by
  unfold F_l_scene b_l_scene
  have hlim : lim = 1000000 := rfl
  try simp only [↓wpK, ↓wpL, ↓wpM, ↓wpG, ↓wpH, ↓wpU, ↓wpV, ↓wpY, ↓wpX, wipeE, Option.isSome_none, Option.isSome_some, Option.bind_some, ↓wpF, List.replicate, List.cons_append, List.nil_append, List.append_nil, ↓wpS, ↓wpN, ↓wpE, wpB, List.set_cons_zero, List.set_cons_succ, ↓wpO, ↓wpP, ↓wpW, ↓wpR, ↓wpD, ↓wpC, wpT, wpQ, true_and, wpA, ↓wpI, decide_eq_true_eq, Bool.not_true, Bool.not_false, if_true, Bool.false_eq_true, if_false, List.take_succ_cons, List.take_zero]
  refine box_w fun d1 h1 => ?_
  try simp only [↓wpK, ↓wpL, ↓wpM, ↓wpG, ↓wpH, ↓wpU, ↓wpV, ↓wpY, ↓wpX, wipeE, Option.isSome_none, Option.isSome_some, Option.bind_some, ↓wpF, List.replicate, List.cons_append, List.nil_append, List.append_nil, ↓wpS, ↓wpN, ↓wpE, wpB, List.set_cons_zero, List.set_cons_succ, ↓wpO, ↓wpP, ↓wpW, ↓wpR, ↓wpD, ↓wpC, wpT, wpQ, true_and, wpA, ↓wpI, decide_eq_true_eq, Bool.not_true, Bool.not_false, if_true, Bool.false_eq_true, if_false, List.take_succ_cons, List.take_zero]
  refine takeM_w (m := 13) h1 (by omega) (by decide) (by decide) fun v2 d2 b2 h2 => ?_
  try simp only [↓wpK, ↓wpL, ↓wpM, ↓wpG, ↓wpH, ↓wpU, ↓wpV, ↓wpY, ↓wpX, wipeE, Option.isSome_none, Option.isSome_some, Option.bind_some, ↓wpF, List.replicate, List.cons_append, List.nil_append, List.append_nil, ↓wpS, ↓wpN, ↓wpE, wpB, List.set_cons_zero, List.set_cons_succ, ↓wpO, ↓wpP, ↓wpW, ↓wpR, ↓wpD, ↓wpC, wpT, wpQ, true_and, wpA, ↓wpI, decide_eq_true_eq, Bool.not_true, Bool.not_false, if_true, Bool.false_eq_true, if_false, List.take_succ_cons, List.take_zero]
  refine names_gn h2 (by omega) (by omega) fun nms d3 g ln h3 => ?_
  have l12 : nms.length ≤ 12 := by omega
  try simp only [↓wpK, ↓wpL, ↓wpM, ↓wpG, ↓wpH, ↓wpU, ↓wpV, ↓wpY, ↓wpX, wipeE, Option.isSome_none, Option.isSome_some, Option.bind_some, ↓wpF, List.replicate, List.cons_append, List.nil_append, List.append_nil, ↓wpS, ↓wpN, ↓wpE, wpB, List.set_cons_zero, List.set_cons_succ, ↓wpO, ↓wpP, ↓wpW, ↓wpR, ↓wpD, ↓wpC, wpT, wpQ, true_and, wpA, ↓wpI, decide_eq_true_eq, Bool.not_true, Bool.not_false, if_true, Bool.false_eq_true, if_false, List.take_succ_cons, List.take_zero]
  refine lists_w h3 (by omega) g l12 fun a d4 oa h4 => ?_
  try simp only [↓wpK, ↓wpL, ↓wpM, ↓wpG, ↓wpH, ↓wpU, ↓wpV, ↓wpY, ↓wpX, wipeE, Option.isSome_none, Option.isSome_some, Option.bind_some, ↓wpF, List.replicate, List.cons_append, List.nil_append, List.append_nil, ↓wpS, ↓wpN, ↓wpE, wpB, List.set_cons_zero, List.set_cons_succ, ↓wpO, ↓wpP, ↓wpW, ↓wpR, ↓wpD, ↓wpC, wpT, wpQ, true_and, wpA, ↓wpI, decide_eq_true_eq, Bool.not_true, Bool.not_false, if_true, Bool.false_eq_true, if_false, List.take_succ_cons, List.take_zero]
  refine lists_w h4 (by omega) g l12 fun b d5 ob h5 => ?_
  try simp only [↓wpK, ↓wpL, ↓wpM, ↓wpG, ↓wpH, ↓wpU, ↓wpV, ↓wpY, ↓wpX, wipeE, Option.isSome_none, Option.isSome_some, Option.bind_some, ↓wpF, List.replicate, List.cons_append, List.nil_append, List.append_nil, ↓wpS, ↓wpN, ↓wpE, wpB, List.set_cons_zero, List.set_cons_succ, ↓wpO, ↓wpP, ↓wpW, ↓wpR, ↓wpD, ↓wpC, wpT, wpQ, true_and, wpA, ↓wpI, decide_eq_true_eq, Bool.not_true, Bool.not_false, if_true, Bool.false_eq_true, if_false, List.take_succ_cons, List.take_zero]
  refine handedO_w h5 (by omega) g l12 oa fun os1 g1 d6 hd1 h6 => ?_
  try simp only [↓wpK, ↓wpL, ↓wpM, ↓wpG, ↓wpH, ↓wpU, ↓wpV, ↓wpY, ↓wpX, wipeE, Option.isSome_none, Option.isSome_some, Option.bind_some, ↓wpF, List.replicate, List.cons_append, List.nil_append, List.append_nil, ↓wpS, ↓wpN, ↓wpE, wpB, List.set_cons_zero, List.set_cons_succ, ↓wpO, ↓wpP, ↓wpW, ↓wpR, ↓wpD, ↓wpC, wpT, wpQ, true_and, wpA, ↓wpI, decide_eq_true_eq, Bool.not_true, Bool.not_false, if_true, Bool.false_eq_true, if_false, List.take_succ_cons, List.take_zero]
  refine handedO_w h6 (by omega) g l12 ob fun os2 g2 d7 hd2 h7 => ?_
  try simp only [↓wpK, ↓wpL, ↓wpM, ↓wpG, ↓wpH, ↓wpU, ↓wpV, ↓wpY, ↓wpX, wipeE, Option.isSome_none, Option.isSome_some, Option.bind_some, ↓wpF, List.replicate, List.cons_append, List.nil_append, List.append_nil, ↓wpS, ↓wpN, ↓wpE, wpB, List.set_cons_zero, List.set_cons_succ, ↓wpO, ↓wpP, ↓wpW, ↓wpR, ↓wpD, ↓wpC, wpT, wpQ, true_and, wpA, ↓wpI, decide_eq_true_eq, Bool.not_true, Bool.not_false, if_true, Bool.false_eq_true, if_false, List.take_succ_cons, List.take_zero]
  refine ⟨Nat.le_of_ble_eq_true rfl, rfl, Nat.le_of_ble_eq_true rfl, takeM_w (m := 2) h7 (by omega) (by decide) (by decide) fun u d8 b8 h8 => ?_⟩
  have se : ∃ r, SeqD r (nms.map .str) ∧ ∀ P : D → Prop, oK (atI [D.lst (nms.map .str), D.tup (nms.map .str)] (u : Int)) P = P r := by
    have : u = 0 ∨ u = 1 := by omega
    rcases this with rfl | rfl
    · exact ⟨_, .inl rfl, fun P => rfl⟩
    · exact ⟨_, .inr rfl, fun P => rfl⟩
  obtain ⟨r, sr, eR⟩ := se
  try simp only [↓wpK, ↓wpL, ↓wpM, ↓wpG, ↓wpH, ↓wpU, ↓wpV, ↓wpY, ↓wpX, wipeE, Option.isSome_none, Option.isSome_some, Option.bind_some, ↓wpF, List.replicate, List.cons_append, List.nil_append, List.append_nil, ↓wpS, ↓wpN, ↓wpE, wpB, List.set_cons_zero, List.set_cons_succ, ↓wpO, ↓wpP, ↓wpW, ↓wpR, ↓wpD, ↓wpC, wpT, wpQ, true_and, wpA, ↓wpI, decide_eq_true_eq, Bool.not_true, Bool.not_false, if_true, Bool.false_eq_true, if_false, List.take_succ_cons, List.take_zero]
  rw [eR]
  try simp only [↓wpK, ↓wpL, ↓wpM, ↓wpG, ↓wpH, ↓wpU, ↓wpV, ↓wpY, ↓wpX, wipeE, Option.isSome_none, Option.isSome_some, Option.bind_some, ↓wpF, List.replicate, List.cons_append, List.nil_append, List.append_nil, ↓wpS, ↓wpN, ↓wpE, wpB, List.set_cons_zero, List.set_cons_succ, ↓wpO, ↓wpP, ↓wpW, ↓wpR, ↓wpD, ↓wpC, wpT, wpQ, true_and, wpA, ↓wpI, decide_eq_true_eq, Bool.not_true, Bool.not_false, if_true, Bool.false_eq_true, if_false, List.take_succ_cons, List.take_zero]
  refine viewB_w (vW_cons ?_)
  try simp only [↓wpK, ↓wpL, ↓wpM, ↓wpG, ↓wpH, ↓wpU, ↓wpV, ↓wpY, ↓wpX, wipeE, Option.isSome_none, Option.isSome_some, Option.bind_some, ↓wpF, List.replicate, List.cons_append, List.nil_append, List.append_nil, ↓wpS, ↓wpN, ↓wpE, wpB, List.set_cons_zero, List.set_cons_succ, ↓wpO, ↓wpP, ↓wpW, ↓wpR, ↓wpD, ↓wpC, wpT, wpQ, true_and, wpA, ↓wpI, decide_eq_true_eq, Bool.not_true, Bool.not_false, if_true, Bool.false_eq_true, if_false, List.take_succ_cons, List.take_zero]
  refine mkinit2_w sr g l12 oa ob hd1 hd2 ?_
  try simp only [↓wpK, ↓wpL, ↓wpM, ↓wpG, ↓wpH, ↓wpU, ↓wpV, ↓wpY, ↓wpX, wipeE, Option.isSome_none, Option.isSome_some, Option.bind_some, ↓wpF, List.replicate, List.cons_append, List.nil_append, List.append_nil, ↓wpS, ↓wpN, ↓wpE, wpB, List.set_cons_zero, List.set_cons_succ, ↓wpO, ↓wpP, ↓wpW, ↓wpR, ↓wpD, ↓wpC, wpT, wpQ, true_and, wpA, ↓wpI, decide_eq_true_eq, Bool.not_true, Bool.not_false, if_true, Bool.false_eq_true, if_false, List.take_succ_cons, List.take_zero]
  have fin : ∀ r', Wp (emptyM 5 [.int c, d8, D.lst (nms.map .str), lsD nms a, lsD nms b, D.lst [D.dK (kvs os1 g1), D.dK (kvs os2 g2)], r', mkD nms a b, .non, .non]) (nxK
                (sCons
                  (sRet
                    (lstM
                      (aCons (vr 7)
                        (aCons (vr 2)
                          (aCons (vr 3)
                            (aCons (vr 4)
                              (aCons
                                (callM (F_l_take_k54 clt) [Ak.io 1 0, Ak.sh]
                                  (aCons (vr 1) (aCons (cn (D.int 2)) aNil)))
                                aNil)))))))
                  sNil)
                (rtK 1 K) fun c fs e => X c fs (List.take 1 e)) fun c fs e => X c fs (List.take 1 e) := fun r' => by
    refine emptyM_w rfl ?_ ?_
    · show (isDLT _ && (isDLT _ && true)) = true
      rw [isDLT_seq fun x m => hd1.seq x (hd1.perm.subset m), isDLT_seq fun x m => hd2.seq x (hd2.perm.subset m)]
      rfl
    · try simp only [↓wpK, ↓wpL, ↓wpM, ↓wpG, ↓wpH, ↓wpU, ↓wpV, ↓wpY, ↓wpX, wipeE, Option.isSome_none, Option.isSome_some, Option.bind_some, ↓wpF, List.replicate, List.cons_append, List.nil_append, List.append_nil, ↓wpS, ↓wpN, ↓wpE, wpB, List.set_cons_zero, List.set_cons_succ, ↓wpO, ↓wpP, ↓wpW, ↓wpR, ↓wpD, ↓wpC, wpT, wpQ, true_and, wpA, ↓wpI, decide_eq_true_eq, Bool.not_true, Bool.not_false, if_true, Bool.false_eq_true, if_false, List.take_succ_cons, List.take_zero]
      refine takeM_w (m := 2) h8 (by omega) (by decide) (by decide) fun u d9 b9 h9 => ?_
      try simp only [↓wpK, ↓wpL, ↓wpM, ↓wpG, ↓wpH, ↓wpU, ↓wpV, ↓wpY, ↓wpX, wipeE, Option.isSome_none, Option.isSome_some, Option.bind_some, ↓wpF, List.replicate, List.cons_append, List.nil_append, List.append_nil, ↓wpS, ↓wpN, ↓wpE, wpB, List.set_cons_zero, List.set_cons_succ, ↓wpO, ↓wpP, ↓wpW, ↓wpR, ↓wpD, ↓wpC, wpT, wpQ, true_and, wpA, ↓wpI, decide_eq_true_eq, Bool.not_true, Bool.not_false, if_true, Bool.false_eq_true, if_false, List.take_succ_cons, List.take_zero]
      refine ⟨Nat.le_of_ble_eq_true rfl, k nms a b u _ g l12 oa ob b9⟩
  refine vW_nil ⟨?_, ?_⟩
  · show (okKD (.ow (.ob [some 0, some 1])) (mkD nms a b) && true) = true
    rw [ok_mk]; rfl
  show getK ([.int c, d8, D.lst (nms.map .str), lsD nms a, lsD nms b, D.lst [D.dK (kvs os1 g1), D.dK (kvs os2 g2)], r, mkD nms a b, .non, .non][6]?) _
  show oK (tcD r) fun t =>
                oK (isB clt t (Sum.inl "list")) fun b_1 => _
  rcases sr with rfl | rfl
  · simp only [eMerge, Rm.wipe, List.foldl_cons, List.foldl_nil, ↓wpK, ↓wpL, ↓wpM, ↓wpG, ↓wpH, ↓wpU, ↓wpV, ↓wpY, ↓wpX, wipeE, Option.isSome_none, Option.isSome_some, Option.bind_some, ↓wpF, List.replicate, List.cons_append, List.nil_append, List.append_nil, ↓wpS, ↓wpN, ↓wpE, wpB, List.set_cons_zero, List.set_cons_succ, ↓wpO, ↓wpP, ↓wpW, ↓wpR, ↓wpD, ↓wpC, wpT, wpQ, true_and, wpA, ↓wpI, decide_eq_true_eq, Bool.not_true, Bool.not_false, if_true, Bool.false_eq_true, if_false, List.take_succ_cons, List.take_zero]
    trace_state
    exact ⟨rfl, by rw [List.length_map]; omega, fin _⟩
  · try simp only [↓wpK, ↓wpL, ↓wpM, ↓wpG, ↓wpH, ↓wpU, ↓wpV, ↓wpY, ↓wpX, wipeE, Option.isSome_none, Option.isSome_some, Option.bind_some, ↓wpF, List.replicate, List.cons_append, List.nil_append, List.append_nil, ↓wpS, ↓wpN, ↓wpE, wpB, List.set_cons_zero, List.set_cons_succ, ↓wpO, ↓wpP, ↓wpW, ↓wpR, ↓wpD, ↓wpC, wpT, wpQ, true_and, wpA, ↓wpI, decide_eq_true_eq, Bool.not_true, Bool.not_false, if_true, Bool.false_eq_true, if_false, List.take_succ_cons, List.take_zero]
    exact fin _
end RP
-- wp: XYVUHGMLK
namespace RP
open PySem PySem.Spec L2 Rm
open SX (S join_S S_cat S_tl S_len split_S)
variable {clt : ClT} {ns : List Str} {a b : Str → List Str}
theorem ints_sum {a b : Str → List Str} : ∀ l : List Str, (l.map fun x => (((a x).length + (b x).length : Nat) : Int)).sum = ((l.map fun x => (a x).length + (b x).length).sum : Nat)
  | [] => rfl
  | z :: l => by rw [List.map_cons, List.sum_cons, ints_sum l, List.map_cons, List.sum_cons]; omega
theorem intsD_map : ∀ l : List Int, intsD (l.map D.int) = some l
  | [] => rfl
  | z :: l => by show (intsD (l.map D.int)).map (z :: ·) = _; rw [intsD_map l]; rfl
theorem listsr_w {K X} (g : GN ns) (l12 : ns.length ≤ 12) (oa : MkOk ns a) (ob : MkOk ns b) (k : K (.bl true) [mkD ns a b, .lst (ns.map .str), lsD ns a, lsD ns b]) :
    Wp (F_l_lists_right_k16 clt [mkD ns a b, .lst (ns.map .str), lsD ns a, lsD ns b]) K X := by
  unfold F_l_lists_right_k16 b_l_lists_right_k16
  have hlim : lim = 1000000 := rfl
  try simp only [↓wpK, ↓wpL, ↓wpM, ↓wpG, ↓wpH, ↓wpU, ↓wpV, ↓wpY, ↓wpX, wipeE, Option.isSome_none, Option.isSome_some, Option.bind_some, ↓wpF, List.replicate, List.cons_append, List.nil_append, List.append_nil, ↓wpS, ↓wpN, ↓wpE, wpB, List.set_cons_zero, List.set_cons_succ, ↓wpO, ↓wpP, ↓wpW, ↓wpR, ↓wpD, ↓wpC, wpT, wpQ, true_and, wpA, ↓wpI, decide_eq_true_eq, Bool.not_true, Bool.not_false, if_true, Bool.false_eq_true, if_false, List.take_succ_cons, List.take_zero]
  refine ⟨by rw [List.length_map]; omega, ?_⟩
  refine lc_pure D.str (fun _ => true) (fun x => (((a x).length + (b x).length : Nat) : Int)) D.int (fun z mz => ?_) ?_
  · simp only [getls mz, ↓wpK, ↓wpL, ↓wpM, ↓wpG, ↓wpH, ↓wpU, ↓wpV, ↓wpY, ↓wpX, wipeE, Option.isSome_none, Option.isSome_some, Option.bind_some, ↓wpF, List.replicate, List.cons_append, List.nil_append, List.append_nil, ↓wpS, ↓wpN, ↓wpE, wpB, List.set_cons_zero, List.set_cons_succ, ↓wpO, ↓wpP, ↓wpW, ↓wpR, ↓wpD, ↓wpC, wpT, wpQ, true_and, wpA, ↓wpI, decide_eq_true_eq, Bool.not_true, Bool.not_false, if_true, Bool.false_eq_true, if_false, List.take_succ_cons, List.take_zero]
    simp
  · rw [filter_tt]
    try simp only [↓wpK, ↓wpL, ↓wpM, ↓wpG, ↓wpH, ↓wpU, ↓wpV, ↓wpY, ↓wpX, wipeE, Option.isSome_none, Option.isSome_some, Option.bind_some, ↓wpF, List.replicate, List.cons_append, List.nil_append, List.append_nil, ↓wpS, ↓wpN, ↓wpE, wpB, List.set_cons_zero, List.set_cons_succ, ↓wpO, ↓wpP, ↓wpW, ↓wpR, ↓wpD, ↓wpC, wpT, wpQ, true_and, wpA, ↓wpI, decide_eq_true_eq, Bool.not_true, Bool.not_false, if_true, Bool.false_eq_true, if_false, List.take_succ_cons, List.take_zero]
    rw [intsD_map]
    try simp only [↓wpK, ↓wpL, ↓wpM, ↓wpG, ↓wpH, ↓wpU, ↓wpV, ↓wpY, ↓wpX, wipeE, Option.isSome_none, Option.isSome_some, Option.bind_some, ↓wpF, List.replicate, List.cons_append, List.nil_append, List.append_nil, ↓wpS, ↓wpN, ↓wpE, wpB, List.set_cons_zero, List.set_cons_succ, ↓wpO, ↓wpP, ↓wpW, ↓wpR, ↓wpD, ↓wpC, wpT, wpQ, true_and, wpA, ↓wpI, decide_eq_true_eq, Bool.not_true, Bool.not_false, if_true, Bool.false_eq_true, if_false, List.take_succ_cons, List.take_zero]
    rw [ints_sum]
    refine ⟨rfl, names_mw ?_⟩
    try simp only [↓wpK, ↓wpL, ↓wpM, ↓wpG, ↓wpH, ↓wpU, ↓wpV, ↓wpY, ↓wpX, wipeE, Option.isSome_none, Option.isSome_some, Option.bind_some, ↓wpF, List.replicate, List.cons_append, List.nil_append, List.append_nil, ↓wpS, ↓wpN, ↓wpE, wpB, List.set_cons_zero, List.set_cons_succ, ↓wpO, ↓wpP, ↓wpW, ↓wpR, ↓wpD, ↓wpC, wpT, wpQ, true_and, wpA, ↓wpI, decide_eq_true_eq, Bool.not_true, Bool.not_false, if_true, Bool.false_eq_true, if_false, List.take_succ_cons, List.take_zero]
    refine eq_same (nz_l g fun x m => m) ?_
    try simp only [↓wpK, ↓wpL, ↓wpM, ↓wpG, ↓wpH, ↓wpU, ↓wpV, ↓wpY, ↓wpX, wipeE, Option.isSome_none, Option.isSome_some, Option.bind_some, ↓wpF, List.replicate, List.cons_append, List.nil_append, List.append_nil, ↓wpS, ↓wpN, ↓wpE, wpB, List.set_cons_zero, List.set_cons_succ, ↓wpO, ↓wpP, ↓wpW, ↓wpR, ↓wpD, ↓wpC, wpT, wpQ, true_and, wpA, ↓wpI, decide_eq_true_eq, Bool.not_true, Bool.not_false, if_true, Bool.false_eq_true, if_false, List.take_succ_cons, List.take_zero]
    refine ⟨rfl, total_w g l12 oa ob ?_⟩
    try simp only [↓wpK, ↓wpL, ↓wpM, ↓wpG, ↓wpH, ↓wpU, ↓wpV, ↓wpY, ↓wpX, wipeE, Option.isSome_none, Option.isSome_some, Option.bind_some, ↓wpF, List.replicate, List.cons_append, List.nil_append, List.append_nil, ↓wpS, ↓wpN, ↓wpE, wpB, List.set_cons_zero, List.set_cons_succ, ↓wpO, ↓wpP, ↓wpW, ↓wpR, ↓wpD, ↓wpC, wpT, wpQ, true_and, wpA, ↓wpI, decide_eq_true_eq, Bool.not_true, Bool.not_false, if_true, Bool.false_eq_true, if_false, List.take_succ_cons, List.take_zero]
    have et : ((ns.map fun x => (a x).length + (b x).length).sum : Nat) = tot ns a b := rfl
    rw [et, decide_eq_true rfl]
    try simp only [↓wpK, ↓wpL, ↓wpM, ↓wpG, ↓wpH, ↓wpU, ↓wpV, ↓wpY, ↓wpX, wipeE, Option.isSome_none, Option.isSome_some, Option.bind_some, ↓wpF, List.replicate, List.cons_append, List.nil_append, List.append_nil, ↓wpS, ↓wpN, ↓wpE, wpB, List.set_cons_zero, List.set_cons_succ, ↓wpO, ↓wpP, ↓wpW, ↓wpR, ↓wpD, ↓wpC, wpT, wpQ, true_and, wpA, ↓wpI, decide_eq_true_eq, Bool.not_true, Bool.not_false, if_true, Bool.false_eq_true, if_false, List.take_succ_cons, List.take_zero]
    refine ⟨by rw [List.length_map]; omega, ?_⟩
    refine lc_pure D.str (fun _ => true) id (fun x => .tup [.str x, .tup ((a x).map .str), .tup ((b x).map .str)]) (fun z mz => ?_) ?_
    · simp only [getls mz, lst_tup, ↓wpK, ↓wpL, ↓wpM, ↓wpG, ↓wpH, ↓wpU, ↓wpV, ↓wpY, ↓wpX, wipeE, Option.isSome_none, Option.isSome_some, Option.bind_some, ↓wpF, List.replicate, List.cons_append, List.nil_append, List.append_nil, ↓wpS, ↓wpN, ↓wpE, wpB, List.set_cons_zero, List.set_cons_succ, ↓wpO, ↓wpP, ↓wpW, ↓wpR, ↓wpD, ↓wpC, wpT, wpQ, true_and, wpA, ↓wpI, decide_eq_true_eq, Bool.not_true, Bool.not_false, if_true, Bool.false_eq_true, if_false, List.take_succ_cons, List.take_zero]
      simp [hlim]
    · rw [filter_tt, List.map_id]
      try simp only [↓wpK, ↓wpL, ↓wpM, ↓wpG, ↓wpH, ↓wpU, ↓wpV, ↓wpY, ↓wpX, wipeE, Option.isSome_none, Option.isSome_some, Option.bind_some, ↓wpF, List.replicate, List.cons_append, List.nil_append, List.append_nil, ↓wpS, ↓wpN, ↓wpE, wpB, List.set_cons_zero, List.set_cons_succ, ↓wpO, ↓wpP, ↓wpW, ↓wpR, ↓wpD, ↓wpC, wpT, wpQ, true_and, wpA, ↓wpI, decide_eq_true_eq, Bool.not_true, Bool.not_false, if_true, Bool.false_eq_true, if_false, List.take_succ_cons, List.take_zero]
      refine ⟨rfl, mtold_w g l12 ?_⟩
      try simp only [↓wpK, ↓wpL, ↓wpM, ↓wpG, ↓wpH, ↓wpU, ↓wpV, ↓wpY, ↓wpX, wipeE, Option.isSome_none, Option.isSome_some, Option.bind_some, ↓wpF, List.replicate, List.cons_append, List.nil_append, List.append_nil, ↓wpS, ↓wpN, ↓wpE, wpB, List.set_cons_zero, List.set_cons_succ, ↓wpO, ↓wpP, ↓wpW, ↓wpR, ↓wpD, ↓wpC, wpT, wpQ, true_and, wpA, ↓wpI, decide_eq_true_eq, Bool.not_true, Bool.not_false, if_true, Bool.false_eq_true, if_false, List.take_succ_cons, List.take_zero]
      refine eq_same (nz_told g oa ob) ?_
      try simp only [↓wpK, ↓wpL, ↓wpM, ↓wpG, ↓wpH, ↓wpU, ↓wpV, ↓wpY, ↓wpX, wipeE, Option.isSome_none, Option.isSome_some, Option.bind_some, ↓wpF, List.replicate, List.cons_append, List.nil_append, List.append_nil, ↓wpS, ↓wpN, ↓wpE, wpB, List.set_cons_zero, List.set_cons_succ, ↓wpO, ↓wpP, ↓wpW, ↓wpR, ↓wpD, ↓wpC, wpT, wpQ, true_and, wpA, ↓wpI, decide_eq_true_eq, Bool.not_true, Bool.not_false, if_true, Bool.false_eq_true, if_false, List.take_succ_cons, List.take_zero]
      refine ⟨rfl, total_w g l12 oa ob ?_⟩
      try simp only [↓wpK, ↓wpL, ↓wpM, ↓wpG, ↓wpH, ↓wpU, ↓wpV, ↓wpY, ↓wpX, wipeE, Option.isSome_none, Option.isSome_some, Option.bind_some, ↓wpF, List.replicate, List.cons_append, List.nil_append, List.append_nil, ↓wpS, ↓wpN, ↓wpE, wpB, List.set_cons_zero, List.set_cons_succ, ↓wpO, ↓wpP, ↓wpW, ↓wpR, ↓wpD, ↓wpC, wpT, wpQ, true_and, wpA, ↓wpI, decide_eq_true_eq, Bool.not_true, Bool.not_false, if_true, Bool.false_eq_true, if_false, List.take_succ_cons, List.take_zero]
      refine ⟨rfl, names_mw ?_⟩
      try simp only [↓wpK, ↓wpL, ↓wpM, ↓wpG, ↓wpH, ↓wpU, ↓wpV, ↓wpY, ↓wpX, wipeE, Option.isSome_none, Option.isSome_some, Option.bind_some, ↓wpF, List.replicate, List.cons_append, List.nil_append, List.append_nil, ↓wpS, ↓wpN, ↓wpE, wpB, List.set_cons_zero, List.set_cons_succ, ↓wpO, ↓wpP, ↓wpW, ↓wpR, ↓wpD, ↓wpC, wpT, wpQ, true_and, wpA, ↓wpI, decide_eq_true_eq, Bool.not_true, Bool.not_false, if_true, Bool.false_eq_true, if_false, List.take_succ_cons, List.take_zero]
      refine ⟨rfl, ?_⟩
      refine Rm.for_list D.str (fun i e => ∃ z6 z7 z8 z9, e = [mkD ns a b, .lst (ns.map .str), lsD ns a, lsD ns b, .int (tot ns a b : Nat), toldM ns a b, z6, z7, z8, z9]) ⟨_, _, _, _, rfl⟩ ?_ ?_
      · rintro i x e hx ⟨z6, z7, z8, z9, rfl⟩
        have mx := List.mem_of_getElem? hx
        have ox := od_nm (g.ok x mx)
        try simp only [↓wpK, ↓wpL, ↓wpM, ↓wpG, ↓wpH, ↓wpU, ↓wpV, ↓wpY, ↓wpX, wipeE, Option.isSome_none, Option.isSome_some, Option.bind_some, ↓wpF, List.replicate, List.cons_append, List.nil_append, List.append_nil, ↓wpS, ↓wpN, ↓wpE, wpB, List.set_cons_zero, List.set_cons_succ, ↓wpO, ↓wpP, ↓wpW, ↓wpR, ↓wpD, ↓wpC, wpT, wpQ, true_and, wpA, ↓wpI, decide_eq_true_eq, Bool.not_true, Bool.not_false, if_true, Bool.false_eq_true, if_false, List.take_succ_cons, List.take_zero]
        refine ⟨by decide, ?_⟩
        rw [rng_map]
        refine Rm.for_list (fun k : Nat => D.int (k : Int)) (fun j e => ∃ z7 z8 z9, e = [mkD ns a b, .lst (ns.map .str), lsD ns a, lsD ns b, .int (tot ns a b : Nat), toldM ns a b, .str x, z7, z8, z9]) ⟨_, _, _, rfl⟩ ?_ ?_
        · rintro j y e hy ⟨z7, z8, z9, rfl⟩
          try simp only [↓wpK, ↓wpL, ↓wpM, ↓wpG, ↓wpH, ↓wpU, ↓wpV, ↓wpY, ↓wpX, wipeE, Option.isSome_none, Option.isSome_some, Option.bind_some, ↓wpF, List.replicate, List.cons_append, List.nil_append, List.append_nil, ↓wpS, ↓wpN, ↓wpE, wpB, List.set_cons_zero, List.set_cons_succ, ↓wpO, ↓wpP, ↓wpW, ↓wpR, ↓wpD, ↓wpC, wpT, wpQ, true_and, wpA, ↓wpI, decide_eq_true_eq, Bool.not_true, Bool.not_false, if_true, Bool.false_eq_true, if_false, List.take_succ_cons, List.take_zero]
          refine ⟨rfl, ahead_mw g l12 oa mx ox ?_⟩
          try simp only [↓wpK, ↓wpL, ↓wpM, ↓wpG, ↓wpH, ↓wpU, ↓wpV, ↓wpY, ↓wpX, wipeE, Option.isSome_none, Option.isSome_some, Option.bind_some, ↓wpF, List.replicate, List.cons_append, List.nil_append, List.append_nil, ↓wpS, ↓wpN, ↓wpE, wpB, List.set_cons_zero, List.set_cons_succ, ↓wpO, ↓wpP, ↓wpW, ↓wpR, ↓wpD, ↓wpC, wpT, wpQ, true_and, wpA, ↓wpI, decide_eq_true_eq, Bool.not_true, Bool.not_false, if_true, Bool.false_eq_true, if_false, List.take_succ_cons, List.take_zero]
          refine ⟨rfl, behind_mw g l12 ob mx ox ?_⟩
          simp only [getls mx, ↓wpK, ↓wpL, ↓wpM, ↓wpG, ↓wpH, ↓wpU, ↓wpV, ↓wpY, ↓wpX, wipeE, Option.isSome_none, Option.isSome_some, Option.bind_some, ↓wpF, List.replicate, List.cons_append, List.nil_append, List.append_nil, ↓wpS, ↓wpN, ↓wpE, wpB, List.set_cons_zero, List.set_cons_succ, ↓wpO, ↓wpP, ↓wpW, ↓wpR, ↓wpD, ↓wpC, wpT, wpQ, true_and, wpA, ↓wpI, decide_eq_true_eq, Bool.not_true, Bool.not_false, if_true, Bool.false_eq_true, if_false, List.take_succ_cons, List.take_zero]
          refine eq_same (nz_l g (oa.sub x mx)) ?_
          simp only [getls mx, ↓wpK, ↓wpL, ↓wpM, ↓wpG, ↓wpH, ↓wpU, ↓wpV, ↓wpY, ↓wpX, wipeE, Option.isSome_none, Option.isSome_some, Option.bind_some, ↓wpF, List.replicate, List.cons_append, List.nil_append, List.append_nil, ↓wpS, ↓wpN, ↓wpE, wpB, List.set_cons_zero, List.set_cons_succ, ↓wpO, ↓wpP, ↓wpW, ↓wpR, ↓wpD, ↓wpC, wpT, wpQ, true_and, wpA, ↓wpI, decide_eq_true_eq, Bool.not_true, Bool.not_false, if_true, Bool.false_eq_true, if_false, List.take_succ_cons, List.take_zero]
          refine eq_same (nz_l g (ob.sub x mx)) ?_
          try simp only [↓wpK, ↓wpL, ↓wpM, ↓wpG, ↓wpH, ↓wpU, ↓wpV, ↓wpY, ↓wpX, wipeE, Option.isSome_none, Option.isSome_some, Option.bind_some, ↓wpF, List.replicate, List.cons_append, List.nil_append, List.append_nil, ↓wpS, ↓wpN, ↓wpE, wpB, List.set_cons_zero, List.set_cons_succ, ↓wpO, ↓wpP, ↓wpW, ↓wpR, ↓wpD, ↓wpC, wpT, wpQ, true_and, wpA, ↓wpI, decide_eq_true_eq, Bool.not_true, Bool.not_false, if_true, Bool.false_eq_true, if_false, List.take_succ_cons, List.take_zero]
          exact ⟨rfl, rfl, by rw [List.length_map]; have := ob.len mx; omega, _, _, _, rfl⟩
        · rintro e ⟨z7, z8, z9, rfl⟩
          try simp only [↓wpK, ↓wpL, ↓wpM, ↓wpG, ↓wpH, ↓wpU, ↓wpV, ↓wpY, ↓wpX, wipeE, Option.isSome_none, Option.isSome_some, Option.bind_some, ↓wpF, List.replicate, List.cons_append, List.nil_append, List.append_nil, ↓wpS, ↓wpN, ↓wpE, wpB, List.set_cons_zero, List.set_cons_succ, ↓wpO, ↓wpP, ↓wpW, ↓wpR, ↓wpD, ↓wpC, wpT, wpQ, true_and, wpA, ↓wpI, decide_eq_true_eq, Bool.not_true, Bool.not_false, if_true, Bool.false_eq_true, if_false, List.take_succ_cons, List.take_zero]
          exact ⟨_, _, _, _, rfl⟩
      · rintro e ⟨z6, z7, z8, z9, rfl⟩
        try simp only [↓wpK, ↓wpL, ↓wpM, ↓wpG, ↓wpH, ↓wpU, ↓wpV, ↓wpY, ↓wpX, wipeE, Option.isSome_none, Option.isSome_some, Option.bind_some, ↓wpF, List.replicate, List.cons_append, List.nil_append, List.append_nil, ↓wpS, ↓wpN, ↓wpE, wpB, List.set_cons_zero, List.set_cons_succ, ↓wpO, ↓wpP, ↓wpW, ↓wpR, ↓wpD, ↓wpC, wpT, wpQ, true_and, wpA, ↓wpI, decide_eq_true_eq, Bool.not_true, Bool.not_false, if_true, Bool.false_eq_true, if_false, List.take_succ_cons, List.take_zero]
        refine ⟨rfl, names_mw ?_⟩
        try simp only [↓wpK, ↓wpL, ↓wpM, ↓wpG, ↓wpH, ↓wpU, ↓wpV, ↓wpY, ↓wpX, wipeE, Option.isSome_none, Option.isSome_some, Option.bind_some, ↓wpF, List.replicate, List.cons_append, List.nil_append, List.append_nil, ↓wpS, ↓wpN, ↓wpE, wpB, List.set_cons_zero, List.set_cons_succ, ↓wpO, ↓wpP, ↓wpW, ↓wpR, ↓wpD, ↓wpC, wpT, wpQ, true_and, wpA, ↓wpI, decide_eq_true_eq, Bool.not_true, Bool.not_false, if_true, Bool.false_eq_true, if_false, List.take_succ_cons, List.take_zero]
        refine eq_same (nz_l g fun x m => m) ?_
        try simp only [↓wpK, ↓wpL, ↓wpM, ↓wpG, ↓wpH, ↓wpU, ↓wpV, ↓wpY, ↓wpX, wipeE, Option.isSome_none, Option.isSome_some, Option.bind_some, ↓wpF, List.replicate, List.cons_append, List.nil_append, List.append_nil, ↓wpS, ↓wpN, ↓wpE, wpB, List.set_cons_zero, List.set_cons_succ, ↓wpO, ↓wpP, ↓wpW, ↓wpR, ↓wpD, ↓wpC, wpT, wpQ, true_and, wpA, ↓wpI, decide_eq_true_eq, Bool.not_true, Bool.not_false, if_true, Bool.false_eq_true, if_false, List.take_succ_cons, List.take_zero]
        exact k
theorem eq_nil {L : List Str} {P : Bool → Prop} (h : nzD false 64 (.lst (L.map D.str)) = true) (k : P L.isEmpty) : oK (eqD (.lst (L.map D.str)) (.lst [])) P := by
  refine eqD_nz (m := false) h rfl (fun q => ?_) (fun q => ?_)
  · have : L = [] := by
      have := D.lst.inj q
      simpa using this
    rw [this] at k
    exact k
  · have : L ≠ [] := fun h => q (by rw [h]; rfl)
    have e : L.isEmpty = false := by simpa using this
    rw [e] at k
    exact k
theorem metr_w {K X} (g : GN ns) (l12 : ns.length ≤ 12) (oa : MkOk ns a) (ob : MkOk ns b) (k : K (.bl true) [mkD ns a b, .lst (ns.map .str), lsD ns a, lsD ns b]) :
    Wp (F_l_met_right clt [mkD ns a b, .lst (ns.map .str), lsD ns a, lsD ns b]) K X := by
  unfold F_l_met_right b_l_met_right
  have hlim : lim = 1000000 := rfl
  try simp only [↓wpK, ↓wpL, ↓wpM, ↓wpG, ↓wpH, ↓wpU, ↓wpV, ↓wpY, ↓wpX, wipeE, Option.isSome_none, Option.isSome_some, Option.bind_some, ↓wpF, List.replicate, List.cons_append, List.nil_append, List.append_nil, ↓wpS, ↓wpN, ↓wpE, wpB, List.set_cons_zero, List.set_cons_succ, ↓wpO, ↓wpP, ↓wpW, ↓wpR, ↓wpD, ↓wpC, wpT, wpQ, true_and, wpA, ↓wpI, decide_eq_true_eq, Bool.not_true, Bool.not_false, if_true, Bool.false_eq_true, if_false, List.take_succ_cons, List.take_zero]
  refine Rm.for_list D.str (fun i e => ∃ z4 z5 z6 z7 z8 z9, e = [mkD ns a b, .lst (ns.map .str), lsD ns a, lsD ns b, z4, z5, z6, z7, z8, z9]) ⟨_, _, _, _, _, _, rfl⟩ ?_ ?_
  · rintro i x e hx ⟨z4, z5, z6, z7, z8, z9, rfl⟩
    have mx := List.mem_of_getElem? hx
    have ox := od_nm (g.ok x mx)
    try simp only [↓wpK, ↓wpL, ↓wpM, ↓wpG, ↓wpH, ↓wpU, ↓wpV, ↓wpY, ↓wpX, wipeE, Option.isSome_none, Option.isSome_some, Option.bind_some, ↓wpF, List.replicate, List.cons_append, List.nil_append, List.append_nil, ↓wpS, ↓wpN, ↓wpE, wpB, List.set_cons_zero, List.set_cons_succ, ↓wpO, ↓wpP, ↓wpW, ↓wpR, ↓wpD, ↓wpC, wpT, wpQ, true_and, wpA, ↓wpI, decide_eq_true_eq, Bool.not_true, Bool.not_false, if_true, Bool.false_eq_true, if_false, List.take_succ_cons, List.take_zero]
    refine Rm.for_list D.str (fun i e => ∃ z5 z6 z7 z8 z9, e = [mkD ns a b, .lst (ns.map .str), lsD ns a, lsD ns b, .str x, z5, z6, z7, z8, z9]) ⟨_, _, _, _, _, rfl⟩ ?_ ?_
    · rintro j y e hy ⟨z5, z6, z7, z8, z9, rfl⟩
      have my := List.mem_of_getElem? hy
      have oy := od_nm (g.ok y my)
      have ok : ∀ z ∈ ns, PyData.strOk z = true := fun z mz => (g.ok z mz).ok
      have nzm : nzD false 64 (.lst ((meetL ns a b x y).map D.str)) = true := nz_l g meet_sub
      try simp only [↓wpK, ↓wpL, ↓wpM, ↓wpG, ↓wpH, ↓wpU, ↓wpV, ↓wpY, ↓wpX, wipeE, Option.isSome_none, Option.isSome_some, Option.bind_some, ↓wpF, List.replicate, List.cons_append, List.nil_append, List.append_nil, ↓wpS, ↓wpN, ↓wpE, wpB, List.set_cons_zero, List.set_cons_succ, ↓wpO, ↓wpP, ↓wpW, ↓wpR, ↓wpD, ↓wpC, wpT, wpQ, true_and, wpA, ↓wpI, decide_eq_true_eq, Bool.not_true, Bool.not_false, if_true, Bool.false_eq_true, if_false, List.take_succ_cons, List.take_zero]
      refine ⟨by rw [List.length_map]; omega, ?_⟩
      refine lc_pure D.str (fun z => decide (z ∈ a x ∧ z ∈ b y)) id D.str (fun z mz => ?_) ?_
      · simp only [getls mx, ↓wpK, ↓wpL, ↓wpM, ↓wpG, ↓wpH, ↓wpU, ↓wpV, ↓wpY, ↓wpX, wipeE, Option.isSome_none, Option.isSome_some, Option.bind_some, ↓wpF, List.replicate, List.cons_append, List.nil_append, List.append_nil, ↓wpS, ↓wpN, ↓wpE, wpB, List.set_cons_zero, List.set_cons_succ, ↓wpO, ↓wpP, ↓wpW, ↓wpR, ↓wpD, ↓wpC, wpT, wpQ, true_and, wpA, ↓wpI, decide_eq_true_eq, Bool.not_true, Bool.not_false, if_true, Bool.false_eq_true, if_false, List.take_succ_cons, List.take_zero]
        refine in_ok (ok z mz) (fun w mw => ok w (oa.sub x mx w mw)) ?_
        by_cases c : z ∈ a x
        · rw [decide_eq_true c]
          simp only [getls my, ↓wpK, ↓wpL, ↓wpM, ↓wpG, ↓wpH, ↓wpU, ↓wpV, ↓wpY, ↓wpX, wipeE, Option.isSome_none, Option.isSome_some, Option.bind_some, ↓wpF, List.replicate, List.cons_append, List.nil_append, List.append_nil, ↓wpS, ↓wpN, ↓wpE, wpB, List.set_cons_zero, List.set_cons_succ, ↓wpO, ↓wpP, ↓wpW, ↓wpR, ↓wpD, ↓wpC, wpT, wpQ, true_and, wpA, ↓wpI, decide_eq_true_eq, Bool.not_true, Bool.not_false, if_true, Bool.false_eq_true, if_false, List.take_succ_cons, List.take_zero]
          refine in_ok (ok z mz) (fun w mw => ok w (ob.sub y my w mw)) ?_
          simp [c]
        · rw [decide_eq_false c]
          simp [c]
      · rw [List.map_id]
        try simp only [↓wpK, ↓wpL, ↓wpM, ↓wpG, ↓wpH, ↓wpU, ↓wpV, ↓wpY, ↓wpX, wipeE, Option.isSome_none, Option.isSome_some, Option.bind_some, ↓wpF, List.replicate, List.cons_append, List.nil_append, List.append_nil, ↓wpS, ↓wpN, ↓wpE, wpB, List.set_cons_zero, List.set_cons_succ, ↓wpO, ↓wpP, ↓wpW, ↓wpR, ↓wpD, ↓wpC, wpT, wpQ, true_and, wpA, ↓wpI, decide_eq_true_eq, Bool.not_true, Bool.not_false, if_true, Bool.false_eq_true, if_false, List.take_succ_cons, List.take_zero]
        refine ⟨rfl, meeting_w g l12 oa ob mx my ox oy ?_⟩
        try simp only [↓wpK, ↓wpL, ↓wpM, ↓wpG, ↓wpH, ↓wpU, ↓wpV, ↓wpY, ↓wpX, wipeE, Option.isSome_none, Option.isSome_some, Option.bind_some, ↓wpF, List.replicate, List.cons_append, List.nil_append, List.append_nil, ↓wpS, ↓wpN, ↓wpE, wpB, List.set_cons_zero, List.set_cons_succ, ↓wpO, ↓wpP, ↓wpW, ↓wpR, ↓wpD, ↓wpC, wpT, wpQ, true_and, wpA, ↓wpI, decide_eq_true_eq, Bool.not_true, Bool.not_false, if_true, Bool.false_eq_true, if_false, List.take_succ_cons, List.take_zero]
        refine ⟨rfl, tells_w g l12 oa ob mx my ox oy ?_⟩
        try simp only [↓wpK, ↓wpL, ↓wpM, ↓wpG, ↓wpH, ↓wpU, ↓wpV, ↓wpY, ↓wpX, wipeE, Option.isSome_none, Option.isSome_some, Option.bind_some, ↓wpF, List.replicate, List.cons_append, List.nil_append, List.append_nil, ↓wpS, ↓wpN, ↓wpE, wpB, List.set_cons_zero, List.set_cons_succ, ↓wpO, ↓wpP, ↓wpW, ↓wpR, ↓wpD, ↓wpC, wpT, wpQ, true_and, wpA, ↓wpI, decide_eq_true_eq, Bool.not_true, Bool.not_false, if_true, Bool.false_eq_true, if_false, List.take_succ_cons, List.take_zero]
        refine eq_same nzm ?_
        try simp only [↓wpK, ↓wpL, ↓wpM, ↓wpG, ↓wpH, ↓wpU, ↓wpV, ↓wpY, ↓wpX, wipeE, Option.isSome_none, Option.isSome_some, Option.bind_some, ↓wpF, List.replicate, List.cons_append, List.nil_append, List.append_nil, ↓wpS, ↓wpN, ↓wpE, wpB, List.set_cons_zero, List.set_cons_succ, ↓wpO, ↓wpP, ↓wpW, ↓wpR, ↓wpD, ↓wpC, wpT, wpQ, true_and, wpA, ↓wpI, decide_eq_true_eq, Bool.not_true, Bool.not_false, if_true, Bool.false_eq_true, if_false, List.take_succ_cons, List.take_zero]
        refine ⟨Nat.zero_le _, ?_⟩
        have hm : ns.filter (fun z => decide (z ∈ a x ∧ z ∈ b y)) = meetL ns a b x y := rfl
        have lm : (meetL ns a b x y).length ≤ 12 := Nat.le_trans (List.length_filter_le _ _) l12
        rw [hm]
        refine eq_nil nzm ?_
        rw [beq_self_eq_true]
        try simp only [↓wpK, ↓wpL, ↓wpM, ↓wpG, ↓wpH, ↓wpU, ↓wpV, ↓wpY, ↓wpX, wipeE, Option.isSome_none, Option.isSome_some, Option.bind_some, ↓wpF, List.replicate, List.cons_append, List.nil_append, List.append_nil, ↓wpS, ↓wpN, ↓wpE, wpB, List.set_cons_zero, List.set_cons_succ, ↓wpO, ↓wpP, ↓wpW, ↓wpR, ↓wpD, ↓wpC, wpT, wpQ, true_and, wpA, ↓wpI, decide_eq_true_eq, Bool.not_true, Bool.not_false, if_true, Bool.false_eq_true, if_false, List.take_succ_cons, List.take_zero]
        refine ⟨rfl, by rw [List.length_map]; omega, rfl, meeting_w g l12 oa ob mx my ox oy ?_⟩
        try simp only [↓wpK, ↓wpL, ↓wpM, ↓wpG, ↓wpH, ↓wpU, ↓wpV, ↓wpY, ↓wpX, wipeE, Option.isSome_none, Option.isSome_some, Option.bind_some, ↓wpF, List.replicate, List.cons_append, List.nil_append, List.append_nil, ↓wpS, ↓wpN, ↓wpE, wpB, List.set_cons_zero, List.set_cons_succ, ↓wpO, ↓wpP, ↓wpW, ↓wpR, ↓wpD, ↓wpC, wpT, wpQ, true_and, wpA, ↓wpI, decide_eq_true_eq, Bool.not_true, Bool.not_false, if_true, Bool.false_eq_true, if_false, List.take_succ_cons, List.take_zero]
        refine eq_same nzm ?_
        try simp only [↓wpK, ↓wpL, ↓wpM, ↓wpG, ↓wpH, ↓wpU, ↓wpV, ↓wpY, ↓wpX, wipeE, Option.isSome_none, Option.isSome_some, Option.bind_some, ↓wpF, List.replicate, List.cons_append, List.nil_append, List.append_nil, ↓wpS, ↓wpN, ↓wpE, wpB, List.set_cons_zero, List.set_cons_succ, ↓wpO, ↓wpP, ↓wpW, ↓wpR, ↓wpD, ↓wpC, wpT, wpQ, true_and, wpA, ↓wpI, decide_eq_true_eq, Bool.not_true, Bool.not_false, if_true, Bool.false_eq_true, if_false, List.take_succ_cons, List.take_zero]
        exact ⟨_, _, _, _, _, rfl⟩
    · rintro e ⟨z5, z6, z7, z8, z9, rfl⟩
      try simp only [↓wpK, ↓wpL, ↓wpM, ↓wpG, ↓wpH, ↓wpU, ↓wpV, ↓wpY, ↓wpX, wipeE, Option.isSome_none, Option.isSome_some, Option.bind_some, ↓wpF, List.replicate, List.cons_append, List.nil_append, List.append_nil, ↓wpS, ↓wpN, ↓wpE, wpB, List.set_cons_zero, List.set_cons_succ, ↓wpO, ↓wpP, ↓wpW, ↓wpR, ↓wpD, ↓wpC, wpT, wpQ, true_and, wpA, ↓wpI, decide_eq_true_eq, Bool.not_true, Bool.not_false, if_true, Bool.false_eq_true, if_false, List.take_succ_cons, List.take_zero]
      exact ⟨_, _, _, _, _, _, rfl⟩
  · rintro e ⟨z4, z5, z6, z7, z8, z9, rfl⟩
    try simp only [↓wpK, ↓wpL, ↓wpM, ↓wpG, ↓wpH, ↓wpU, ↓wpV, ↓wpY, ↓wpX, wipeE, Option.isSome_none, Option.isSome_some, Option.bind_some, ↓wpF, List.replicate, List.cons_append, List.nil_append, List.append_nil, ↓wpS, ↓wpN, ↓wpE, wpB, List.set_cons_zero, List.set_cons_succ, ↓wpO, ↓wpP, ↓wpW, ↓wpR, ↓wpD, ↓wpC, wpT, wpQ, true_and, wpA, ↓wpI, decide_eq_true_eq, Bool.not_true, Bool.not_false, if_true, Bool.false_eq_true, if_false, List.take_succ_cons, List.take_zero]
    exact k
end RP
-- wp: XYVUHGMLK
namespace K16
open PySem PySem.Spec L2 Rm RP
/-- what a scene tells -/
def ScO (d : D) : Prop := ∃ (ns : List Str) (a b : Str → List Str) (u : Nat), GN ns ∧ ns.length ≤ 12 ∧ MkOk ns a ∧ MkOk ns b ∧ u < 2 ∧ d = .lst [mkD ns a b, .lst (ns.map .str), lsD ns a, lsD ns b, .int (u : Int)]
theorem data_wp (ns : List Int) (hl : ns.length ≤ 63) : Wp (F_law_k16 clt [scr ns]) (fun a _ => a = .bl true) (fun _ _ _ => False) := by
  unfold F_law_k16 b_law_k16
  have hlim : lim = 1000000 := rfl
  have hs : scr ns = .rol (ns.map .int) := rfl
  simp only [hs, List.length_map, ↓wpK, ↓wpL, ↓wpM, ↓wpG, ↓wpH, ↓wpU, ↓wpV, ↓wpY, ↓wpX, wipeE, Option.isSome_none, Option.isSome_some, Option.bind_some, ↓wpF, List.replicate, List.cons_append, List.nil_append, List.append_nil, ↓wpS, ↓wpN, ↓wpE, wpB, List.set_cons_zero, List.set_cons_succ, ↓wpO, ↓wpP, ↓wpW, ↓wpR, ↓wpD, ↓wpC, wpT, wpQ, true_and, wpA, ↓wpI, decide_eq_true_eq, Bool.not_true, Bool.not_false, if_true, Bool.false_eq_true, if_false, List.take_succ_cons, List.take_zero]
  rw [rng_map]
  rw [← hs]
  refine ⟨by omega, by rw [List.length_map, List.length_range]; omega, ?_⟩
  refine lc_inv (fun i acc e => acc.length = i ∧ (∀ d ∈ acc, ScO d) ∧ e = [scr ns, .non, .non, .non, .non, .non, .non, .non]) ⟨rfl, (fun _ m => nomatch m), rfl⟩ ?_ ?_
  · rintro i x acc e hx ⟨la, ha, rfl⟩
    have hi := (List.getElem?_eq_some_iff.mp hx).1
    rw [List.length_map, List.length_range] at hi
    have ex : x = .int (i : Int) := by
      rw [List.getElem?_map, List.getElem?_range hi] at hx
      exact (Option.some.inj hx).symm
    subst ex
    try simp only [↓wpK, ↓wpL, ↓wpM, ↓wpG, ↓wpH, ↓wpU, ↓wpV, ↓wpY, ↓wpX, wipeE, Option.isSome_none, Option.isSome_some, Option.bind_some, ↓wpF, List.replicate, List.cons_append, List.nil_append, List.append_nil, ↓wpS, ↓wpN, ↓wpE, wpB, List.set_cons_zero, List.set_cons_succ, ↓wpO, ↓wpP, ↓wpW, ↓wpR, ↓wpD, ↓wpC, wpT, wpQ, true_and, wpA, ↓wpI, decide_eq_true_eq, Bool.not_true, Bool.not_false, if_true, Bool.false_eq_true, if_false, List.take_succ_cons, List.take_zero]
    refine cell_w (by omega) fun z => ?_
    try simp only [↓wpK, ↓wpL, ↓wpM, ↓wpG, ↓wpH, ↓wpU, ↓wpV, ↓wpY, ↓wpX, wipeE, Option.isSome_none, Option.isSome_some, Option.bind_some, ↓wpF, List.replicate, List.cons_append, List.nil_append, List.append_nil, ↓wpS, ↓wpN, ↓wpE, wpB, List.set_cons_zero, List.set_cons_succ, ↓wpO, ↓wpP, ↓wpW, ↓wpR, ↓wpD, ↓wpC, wpT, wpQ, true_and, wpA, ↓wpI, decide_eq_true_eq, Bool.not_true, Bool.not_false, if_true, Bool.false_eq_true, if_false, List.take_succ_cons, List.take_zero]
    refine scene_w fun nms a b u z g l12 oa ob hu => ?_
    try simp only [↓wpK, ↓wpL, ↓wpM, ↓wpG, ↓wpH, ↓wpU, ↓wpV, ↓wpY, ↓wpX, wipeE, Option.isSome_none, Option.isSome_some, Option.bind_some, ↓wpF, List.replicate, List.cons_append, List.nil_append, List.append_nil, ↓wpS, ↓wpN, ↓wpE, wpB, List.set_cons_zero, List.set_cons_succ, ↓wpO, ↓wpP, ↓wpW, ↓wpR, ↓wpD, ↓wpC, wpT, wpQ, true_and, wpA, ↓wpI, decide_eq_true_eq, Bool.not_true, Bool.not_false, if_true, Bool.false_eq_true, if_false, List.take_succ_cons, List.take_zero]
    have eb : ∀ (z e : List D), backE [Ak.sh] z e = e := fun z e => by cases z <;> rfl
    refine ⟨by simp [la], fun d m => ?_, by rw [eb]; rfl⟩
    rcases List.mem_append.mp m with m | m
    · exact ha d m
    · rw [List.mem_singleton.mp m]
      exact ⟨nms, a, b, u, g, l12, oa, ob, hu, rfl⟩
  · rintro acc e ⟨la, ha, rfl⟩
    rw [List.length_map, List.length_range] at la
    try simp only [↓wpK, ↓wpL, ↓wpM, ↓wpG, ↓wpH, ↓wpU, ↓wpV, ↓wpY, ↓wpX, wipeE, Option.isSome_none, Option.isSome_some, Option.bind_some, ↓wpF, List.replicate, List.cons_append, List.nil_append, List.append_nil, ↓wpS, ↓wpN, ↓wpE, wpB, List.set_cons_zero, List.set_cons_succ, ↓wpO, ↓wpP, ↓wpW, ↓wpR, ↓wpD, ↓wpC, wpT, wpQ, true_and, wpA, ↓wpI, decide_eq_true_eq, Bool.not_true, Bool.not_false, if_true, Bool.false_eq_true, if_false, List.take_succ_cons, List.take_zero]
    show oK (some acc.reverse) _
    try simp only [↓wpK, ↓wpL, ↓wpM, ↓wpG, ↓wpH, ↓wpU, ↓wpV, ↓wpY, ↓wpX, wipeE, Option.isSome_none, Option.isSome_some, Option.bind_some, ↓wpF, List.replicate, List.cons_append, List.nil_append, List.append_nil, ↓wpS, ↓wpN, ↓wpE, wpB, List.set_cons_zero, List.set_cons_succ, ↓wpO, ↓wpP, ↓wpW, ↓wpR, ↓wpD, ↓wpC, wpT, wpQ, true_and, wpA, ↓wpI, decide_eq_true_eq, Bool.not_true, Bool.not_false, if_true, Bool.false_eq_true, if_false, List.take_succ_cons, List.take_zero]
    refine ⟨by rw [List.length_reverse]; omega, ?_⟩
    refine for_inv (fun i e => ∃ z2 z3 z4 z5 z6 z7, e = [scr ns, .lst acc, z2, z3, z4, z5, z6, z7]) ⟨_, _, _, _, _, _, rfl⟩ ?_ ?_
    · rintro i x e hx ⟨z2, z3, z4, z5, z6, z7, rfl⟩
      have mx : x ∈ acc := by
        rcases List.mem_append.mp (List.mem_of_getElem? hx) with m | m
        · exact m
        · exact List.mem_reverse.mp m
      obtain ⟨nms, a, b, u, g, l12, oa, ob, hu, rfl⟩ := ha x mx
      have : u = 0 ∨ u = 1 := by omega
      rcases this with rfl | rfl
      · try simp only [↓wpK, ↓wpL, ↓wpM, ↓wpG, ↓wpH, ↓wpU, ↓wpV, ↓wpY, ↓wpX, wipeE, Option.isSome_none, Option.isSome_some, Option.bind_some, ↓wpF, List.replicate, List.cons_append, List.nil_append, List.append_nil, ↓wpS, ↓wpN, ↓wpE, wpB, List.set_cons_zero, List.set_cons_succ, ↓wpO, ↓wpP, ↓wpW, ↓wpR, ↓wpD, ↓wpC, wpT, wpQ, true_and, wpA, ↓wpI, decide_eq_true_eq, Bool.not_true, Bool.not_false, if_true, Bool.false_eq_true, if_false, List.take_succ_cons, List.take_zero]
        refine ⟨rfl, ?_⟩
        rw [if_pos (show ((0 : Nat) : Int) = 0 from rfl)]
        refine metr_w g l12 oa ob ?_
        try simp only [↓wpK, ↓wpL, ↓wpM, ↓wpG, ↓wpH, ↓wpU, ↓wpV, ↓wpY, ↓wpX, wipeE, Option.isSome_none, Option.isSome_some, Option.bind_some, ↓wpF, List.replicate, List.cons_append, List.nil_append, List.append_nil, ↓wpS, ↓wpN, ↓wpE, wpB, List.set_cons_zero, List.set_cons_succ, ↓wpO, ↓wpP, ↓wpW, ↓wpR, ↓wpD, ↓wpC, wpT, wpQ, true_and, wpA, ↓wpI, decide_eq_true_eq, Bool.not_true, Bool.not_false, if_true, Bool.false_eq_true, if_false, List.take_succ_cons, List.take_zero]
        refine listsr_w g l12 oa ob ?_
        try simp only [↓wpK, ↓wpL, ↓wpM, ↓wpG, ↓wpH, ↓wpU, ↓wpV, ↓wpY, ↓wpX, wipeE, Option.isSome_none, Option.isSome_some, Option.bind_some, ↓wpF, List.replicate, List.cons_append, List.nil_append, List.append_nil, ↓wpS, ↓wpN, ↓wpE, wpB, List.set_cons_zero, List.set_cons_succ, ↓wpO, ↓wpP, ↓wpW, ↓wpR, ↓wpD, ↓wpC, wpT, wpQ, true_and, wpA, ↓wpI, decide_eq_true_eq, Bool.not_true, Bool.not_false, if_true, Bool.false_eq_true, if_false, List.take_succ_cons, List.take_zero]
        exact ⟨_, _, _, _, _, _, rfl⟩
      · try simp only [↓wpK, ↓wpL, ↓wpM, ↓wpG, ↓wpH, ↓wpU, ↓wpV, ↓wpY, ↓wpX, wipeE, Option.isSome_none, Option.isSome_some, Option.bind_some, ↓wpF, List.replicate, List.cons_append, List.nil_append, List.append_nil, ↓wpS, ↓wpN, ↓wpE, wpB, List.set_cons_zero, List.set_cons_succ, ↓wpO, ↓wpP, ↓wpW, ↓wpR, ↓wpD, ↓wpC, wpT, wpQ, true_and, wpA, ↓wpI, decide_eq_true_eq, Bool.not_true, Bool.not_false, if_true, Bool.false_eq_true, if_false, List.take_succ_cons, List.take_zero]
        refine ⟨rfl, ?_⟩
        rw [if_neg (show ¬ ((1 : Nat) : Int) = 0 by decide)]
        refine listsr_w g l12 oa ob ?_
        try simp only [↓wpK, ↓wpL, ↓wpM, ↓wpG, ↓wpH, ↓wpU, ↓wpV, ↓wpY, ↓wpX, wipeE, Option.isSome_none, Option.isSome_some, Option.bind_some, ↓wpF, List.replicate, List.cons_append, List.nil_append, List.append_nil, ↓wpS, ↓wpN, ↓wpE, wpB, List.set_cons_zero, List.set_cons_succ, ↓wpO, ↓wpP, ↓wpW, ↓wpR, ↓wpD, ↓wpC, wpT, wpQ, true_and, wpA, ↓wpI, decide_eq_true_eq, Bool.not_true, Bool.not_false, if_true, Bool.false_eq_true, if_false, List.take_succ_cons, List.take_zero]
        refine metr_w g l12 oa ob ?_
        try simp only [↓wpK, ↓wpL, ↓wpM, ↓wpG, ↓wpH, ↓wpU, ↓wpV, ↓wpY, ↓wpX, wipeE, Option.isSome_none, Option.isSome_some, Option.bind_some, ↓wpF, List.replicate, List.cons_append, List.nil_append, List.append_nil, ↓wpS, ↓wpN, ↓wpE, wpB, List.set_cons_zero, List.set_cons_succ, ↓wpO, ↓wpP, ↓wpW, ↓wpR, ↓wpD, ↓wpC, wpT, wpQ, true_and, wpA, ↓wpI, decide_eq_true_eq, Bool.not_true, Bool.not_false, if_true, Bool.false_eq_true, if_false, List.take_succ_cons, List.take_zero]
        exact ⟨_, _, _, _, _, _, rfl⟩
    · rintro e ⟨z2, z3, z4, z5, z6, z7, rfl⟩
      try simp only [↓wpK, ↓wpL, ↓wpM, ↓wpG, ↓wpH, ↓wpU, ↓wpV, ↓wpY, ↓wpX, wipeE, Option.isSome_none, Option.isSome_some, Option.bind_some, ↓wpF, List.replicate, List.cons_append, List.nil_append, List.append_nil, ↓wpS, ↓wpN, ↓wpE, wpB, List.set_cons_zero, List.set_cons_succ, ↓wpO, ↓wpP, ↓wpW, ↓wpR, ↓wpD, ↓wpC, wpT, wpQ, true_and, wpA, ↓wpI, decide_eq_true_eq, Bool.not_true, Bool.not_false, if_true, Bool.false_eq_true, if_false, List.take_succ_cons, List.take_zero]
theorem data_law (ns : List Int) (hl : ns.length ≤ 63) (hb : ∀ z ∈ ns, Builtin.Int.intBits z ≤ 1048576) : ∃ e, F_law_k16 clt [scr ns] = .ok (.bl true) e := of_wp (data_wp ns hl)
end K16
namespace K16
open PySem PySem.Spec L2 Rm RP
section
variable {P : Program} {w : World} {K : PySem.W.Frag} {mg : Str → Option Value} {base : Heap} {cl fa : Nat → Addr}
theorem sc_l_box : FnScope [("_law_cell_here" : Str)] [("_law_cell_here" : Str)] (defScope s_l_box) := ⟨rfl, rfl, rfl, by decide +kernel, rfl, by decide +kernel, by decide +kernel⟩
theorem fk_l_box {f : Addr} {fd : FuncData} (F : FunD K ("_law_box" : Str) ("_law_box" : Str) (defArgs s_l_box) (defBody s_l_box) (defScope s_l_box) [] [] f fd) (f_max : mg ("max" : Str) = none) :
  FnG P w K mg base (L2.CX P w) 1 f fd [("_law_cell_here" : Str)] (SpF (gx K cl fa) [.sh] (.ow 0) (F_l_box clt)) :=
  have nd : List.Nodup [("_law_cell_here" : Str)] := sc_l_box.nd
  fn_ok cl fa [.sh] (.ow 0) F sc_l_box rfl (by decide) (κe := [.sh]) (by rfl) (by intro _ h; cases h) fun cdv A outer s H E gd hr =>
 lx_cons (sx_ret (ex_lst (ax_cons (ex_max2 rfl f_max (ev_cons (ex_int) (ev_cons (ex_sub (ev_cons (ex_var 0 rfl (.inl rfl) rfl) (ev_cons (ex_pow (ev_cons (ex_int) (ev_cons (ex_int) (ev_nil)))) (ev_nil)))) (ev_nil)))) (ax_cons (ex_mod (ev_cons (ex_var 0 rfl (.inl rfl) rfl) (ev_cons (ex_int) (ev_nil)))) (ax_cons (ex_int) (ax_nil))))) rfl) (lx_nil)
theorem ok_l_box {f : Addr} {fd : FuncData} (F : FunD K ("_law_box" : Str) ("_law_box" : Str) (defArgs s_l_box) (defBody s_l_box) (defScope s_l_box) [] [] f fd) (hm : mg ("_law_box" : Str) = some (.ref f)) (f_max : mg ("max" : Str) = none) :
  Cal P w K mg base ("_law_box" : Str) 1 [("_law_cell_here" : Str)] (SpF (gx K cl fa) [.sh] (.ow 0) (F_l_box clt)) :=
  Cal.mk' F hm (fk_l_box F f_max) (fun _ _ _ _ _ _ us hl => match us, hl with | [_], _ => rfl)
theorem sc_l_take : FnScope [("_law_box_here" : Str), ("_law_many" : Str), ("_law_digit" : Str), ("_law_turn" : Str), ("_law_number" : Str)] [("_law_box_here" : Str), ("_law_many" : Str)] (defScope s_l_take) := ⟨rfl, rfl, rfl, by decide +kernel, rfl, by decide +kernel, by decide +kernel⟩
theorem fk_l_take {f : Addr} {fd : FuncData} (F : FunD K ("_law_take" : Str) ("_law_take" : Str) (defArgs s_l_take) (defBody s_l_take) (defScope s_l_take) [] [] f fd)  :
  FnG P w K mg base (L2.CX P w) 1 f fd [("_law_box_here" : Str), ("_law_many" : Str)] (SpF (gx K cl fa) [.ow 0, .sh] .sh (F_l_take_k54 clt)) :=
  have nd : List.Nodup [("_law_box_here" : Str), ("_law_many" : Str), ("_law_digit" : Str), ("_law_turn" : Str), ("_law_number" : Str)] := sc_l_take.nd
  fn_ok cl fa [.ow 0, .sh] .sh F sc_l_take rfl (by decide) (κe := [.ow 0, .sh, .un, .un, .un]) (by rfl) (by intro _ h; cases h) fun cdv A outer s H E gd hr =>
 lx_cons (κ1 := [.ow 0, .sh, .un, .un, .un]) (Sx.cv (sx_if (tx_cs cs_gt (ev_cons (ex_subO hr (ev_io 0 0 rfl (.inl rfl) rfl (ev_cons (ex_int) (ev_nil)))) (ev_cons (ex_int) (ev_nil))))
 (lx_cons (κ1 := [.ow 0, .sh, .sh, .un, .un]) (Sx.cv (sx_asg (ex_mod (ev_cons (ex_subO hr (ev_io 0 0 rfl (.inl rfl) rfl (ev_cons (ex_int) (ev_nil)))) (ev_cons (ex_var 1 rfl (.inl rfl) rfl) (ev_nil)))) (gt_name 2 nd rfl (.inl rfl))) rfl)
 (lx_cons (κ1 := [.ow 0, .sh, .sh, .un, .un]) (Sx.cv (sx_setI 0 rfl (.inl rfl) (ex_fdiv (ev_cons (ex_subO hr (ev_io 0 0 rfl (.inl rfl) rfl (ev_cons (ex_int) (ev_nil)))) (ev_cons (ex_var 1 rfl (.inl rfl) rfl) (ev_nil)))) rfl (ex_int)) rfl)
 (lx_cons (sx_ret (ex_var 2 rfl (.inl rfl) rfl) rfl) (lx_nil))))
 (lx_nil)) rfl)
 (lx_cons (κ1 := [.ow 0, .sh, .un, .sh, .un]) (Sx.cv (sx_asg (ex_add (ev_cons (ex_subO hr (ev_io 0 0 rfl (.inl rfl) rfl (ev_cons (ex_int) (ev_nil)))) (ev_cons (ex_int) (ev_nil)))) (gt_name 3 nd rfl (.inl rfl))) rfl)
 (lx_cons (κ1 := [.ow 0, .sh, .un, .sh, .un]) (Sx.cv (sx_setI 0 rfl (.inl rfl) (ex_var 3 rfl (.inl rfl) rfl) rfl (ex_int)) rfl)
 (lx_cons (κ1 := [.ow 0, .sh, .un, .sh, .sh]) (Sx.cv (sx_asg (ex_mod (ev_cons (ex_add (ev_cons (ex_add (ev_cons (ex_subO hr (ev_io 0 0 rfl (.inl rfl) rfl (ev_cons (ex_int) (ev_nil)))) (ev_cons (ex_mul (ev_cons (ex_mul (ev_cons (ex_int) (ev_cons (ex_var 3 rfl (.inl rfl) rfl) (ev_nil)))) (ev_cons (ex_var 3 rfl (.inl rfl) rfl) (ev_nil)))) (ev_nil)))) (ev_cons (ex_mul (ev_cons (ex_int) (ev_cons (ex_var 3 rfl (.inl rfl) rfl) (ev_nil)))) (ev_nil)))) (ev_cons (ex_int) (ev_nil)))) (gt_name 4 nd rfl (.inl rfl))) rfl)
 (lx_cons (κ1 := [.ow 0, .sh, .un, .sh, .sh]) (Sx.cv (sx_asg (ex_mod (ev_cons (ex_pow (ev_cons (ex_var 4 rfl (.inl rfl) rfl) (ev_cons (ex_int) (ev_nil)))) (ev_cons (ex_int) (ev_nil)))) (gt_name 4 nd rfl (.inl rfl))) rfl)
 (lx_cons (sx_ret (ex_mod (ev_cons (ex_fdiv (ev_cons (ex_mod (ev_cons (ex_add (ev_cons (ex_mul (ev_cons (ex_var 4 rfl (.inl rfl) rfl) (ev_cons (ex_var 4 rfl (.inl rfl) rfl) (ev_nil)))) (ev_cons (ex_mul (ev_cons (ex_int) (ev_cons (ex_var 3 rfl (.inl rfl) rfl) (ev_nil)))) (ev_nil)))) (ev_cons (ex_int) (ev_nil)))) (ev_cons (ex_int) (ev_nil)))) (ev_cons (ex_var 1 rfl (.inl rfl) rfl) (ev_nil)))) rfl) (lx_nil))))))
theorem ok_l_take {f : Addr} {fd : FuncData} (F : FunD K ("_law_take" : Str) ("_law_take" : Str) (defArgs s_l_take) (defBody s_l_take) (defScope s_l_take) [] [] f fd) (hm : mg ("_law_take" : Str) = some (.ref f))  :
  Cal P w K mg base ("_law_take" : Str) 1 [("_law_box_here" : Str), ("_law_many" : Str)] (SpF (gx K cl fa) [.ow 0, .sh] .sh (F_l_take_k54 clt)) :=
  Cal.mk' F hm (fk_l_take F ) (fun _ _ _ _ _ _ us hl => match us, hl with | [_, _], _ => rfl)
theorem sc_l_names : FnScope [("_law_box_here" : Str), ("_law_many" : Str), ("_law_letters" : Str), ("_law_words" : Str), ("_law_mode" : Str), ("_law_first" : Str), ("_law_back" : Str), ("_law_stem" : Str), ("_law_found" : Str), ("_law_k" : Str), ("_law_sign" : Str)] [("_law_box_here" : Str), ("_law_many" : Str)] (defScope s_l_names) := ⟨rfl, rfl, rfl, by decide +kernel, rfl, by decide +kernel, by decide +kernel⟩
theorem fk_l_names {f : Addr} {fd : FuncData} (F : FunD K ("_law_names" : Str) ("_law_names" : Str) (defArgs s_l_names) (defBody s_l_names) (defScope s_l_names) [] [] f fd) (f_int : mg ("int" : Str) = none) (f_range : mg ("range" : Str) = none) (c_l_take : Cal P w K mg base ("_law_take" : Str) 1 [("_law_box_here" : Str), ("_law_many" : Str)] (SpF (gx K cl fa) [.ow 0, .sh] .sh (F_l_take_k54 clt))) :
  FnG P w K mg base (L2.CX P w) 2 f fd [("_law_box_here" : Str), ("_law_many" : Str)] (SpF (gx K cl fa) [.ow 0, .sh] .sh (F_l_names clt)) :=
  have nd : List.Nodup [("_law_box_here" : Str), ("_law_many" : Str), ("_law_letters" : Str), ("_law_words" : Str), ("_law_mode" : Str), ("_law_first" : Str), ("_law_back" : Str), ("_law_stem" : Str), ("_law_found" : Str), ("_law_k" : Str), ("_law_sign" : Str)] := sc_l_names.nd
  fn_ok cl fa [.ow 0, .sh] .sh F sc_l_names rfl (by decide) (κe := [.ow 0, .sh, .un, .un, .un, .un, .un, .un, .un, .un, .un]) (by rfl) (by intro _ h; cases h) fun cdv A outer s H E gd hr =>
 lx_cons (κ1 := [.ow 0, .sh, .sh, .un, .un, .un, .un, .un, .un, .un, .un]) (Sx.cv (sx_asg (ex_str) (gt_name 2 nd rfl (.inr rfl))) rfl)
 (lx_cons (κ1 := [.ow 0, .sh, .sh, .sh, .un, .un, .un, .un, .un, .un, .un]) (Sx.cv (sx_asg (Ex.frz (ex_lst (ax_cons (ex_str) (ax_cons (ex_str) (ax_cons (ex_str) (ax_cons (ex_str) (ax_cons (ex_str) (ax_cons (ex_str) (ax_cons (ex_str) (ax_cons (ex_str) (ax_cons (ex_str) (ax_cons (ex_str) (ax_cons (ex_str) (ax_cons (ex_str) (ax_nil))))))))))))))) (gt_name 3 nd rfl (.inr rfl))) rfl)
 (lx_cons (κ1 := [.ow 0, .sh, .sh, .sh, .sh, .un, .un, .un, .un, .un, .un]) (Sx.cv (sx_asg (ex_c c_l_take (hr.mono (by decide)) (ax_io 0 0 rfl (.inr (.inl rfl)) rfl (ax_cons (ex_int) (ax_nil)))) (gt_name 4 nd rfl (.inl rfl))) rfl)
 (lx_cons (κ1 := [.ow 0, .sh, .sh, .sh, .sh, .sh, .un, .un, .un, .un, .un]) (Sx.cv (sx_asg (ex_c c_l_take (hr.mono (by decide)) (ax_io 0 0 rfl (.inr (.inl rfl)) rfl (ax_cons (ex_int) (ax_nil)))) (gt_name 5 nd rfl (.inr rfl))) rfl)
 (lx_cons (κ1 := [.ow 0, .sh, .sh, .sh, .sh, .sh, .sh, .un, .un, .un, .un]) (Sx.cv (sx_asg (ex_sub' hr (ev_cons (Ex.frz (ex_lst (ax_cons (ex_int) (ax_cons (ex_neg (ev_cons (ex_int) (ev_nil))) (ax_nil))))) (ev_cons (ex_c c_l_take (hr.mono (by decide)) (ax_io 0 0 rfl (.inr (.inl rfl)) rfl (ax_cons (ex_int) (ax_nil)))) (ev_nil)))) (gt_name 6 nd rfl (.inr rfl))) rfl)
 (lx_cons (κ1 := [.ow 0, .sh, .sh, .sh, .sh, .sh, .sh, .un, .un, .un, .un]) (Sx.cv (sx_if (tx_cs (cs_eq hr) (ev_cons (ex_var 4 rfl (.inl rfl) rfl) (ev_cons (ex_int) (ev_nil))))
 (lx_cons (sx_ret (Ex.frz (ex_lc (κb := [.ow 0, .sh, .sh, .sh, .sh, .sh, .sh, .un, .un, .un, .un]) (own := [(("_law_k" : Str), 9)]) nd (ix_rng1 rfl f_range (ax_cons (ex_var 1 rfl (.inl rfl) rfl) (ax_nil))) (blkOk_by (by rfl)) (fun _ _ _ _ _ => gt_name 9 nd rfl (by first | exact .inl rfl | exact .inr rfl)) (fun _ _ _ _ _ => cx_nil) (fun _ _ _ _ _ => ex_sub' hr (ev_cons (ex_var 3 rfl (by first | exact .inl rfl | exact .inr (.inl rfl) | exact .inr (.inr rfl)) rfl) (ev_cons (ex_mod (ev_cons (ex_add (ev_cons (ex_var 5 rfl (by first | exact .inl rfl | exact .inr (.inl rfl) | exact .inr (.inr rfl)) rfl) (ev_cons (ex_mul (ev_cons (ex_mul (ev_cons (ex_int) (ev_cons (ex_var 6 rfl (by first | exact .inl rfl | exact .inr (.inl rfl) | exact .inr (.inr rfl)) rfl) (ev_nil)))) (ev_cons (ex_var 9 rfl (by first | exact .inl rfl | exact .inr (.inl rfl) | exact .inr (.inr rfl)) rfl) (ev_nil)))) (ev_nil)))) (ev_cons (ex_int) (ev_nil)))) (ev_nil)))))) rfl) (lx_nil))
 (lx_nil)) rfl)
 (lx_cons (κ1 := [.ow 0, .sh, .sh, .sh, .sh, .sh, .sh, .sh, .un, .un, .un]) (Sx.cv (sx_asg (ex_join (ex_str) (ev_cons (Ex.frz (ex_lc (κb := [.ow 0, .sh, .sh, .sh, .sh, .sh, .sh, .un, .un, .un, .un]) (own := [(("_law_k" : Str), 9)]) nd (ix_rng1 rfl f_range (ax_cons (ex_int) (ax_nil))) (blkOk_by (by rfl)) (fun _ _ _ _ _ => gt_name 9 nd rfl (by first | exact .inl rfl | exact .inr rfl)) (fun _ _ _ _ _ => cx_nil) (fun _ _ _ _ _ => ex_sub' hr (ev_cons (ex_var 2 rfl (by first | exact .inl rfl | exact .inr (.inl rfl) | exact .inr (.inr rfl)) rfl) (ev_cons (ex_c c_l_take (hr.mono (by decide)) (ax_io 0 0 rfl (by first | exact .inl rfl | exact .inr (.inl rfl) | exact .inr (.inr rfl)) rfl (ax_cons (ex_int) (ax_nil)))) (ev_nil)))))) ev_nil)) (gt_name 7 nd rfl (.inl rfl))) rfl)
 (lx_cons (κ1 := [.ow 0, .sh, .sh, .sh, .sh, .sh, .sh, .sh, .ow 0, .un, .un]) (Sx.cv (sx_asg (ex_lst (ax_nil)) (gt_name 8 nd rfl (.inl rfl))) rfl)
 (lx_cons (κ1 := [.ow 0, .sh, .sh, .sh, .sh, .sh, .sh, .sh, .ow 0, .un, .un]) (Sx.cv (sx_for (κ1 := [.ow 0, .sh, .sh, .sh, .sh, .sh, .sh, .sh, .ow 0, .un, .un]) (κ2 := [.ow 0, .sh, .sh, .sh, .sh, .sh, .sh, .sh, .ow 0, .sh, .un]) (ix_rng1 rfl f_range (ax_cons (ex_var 1 rfl (.inl rfl) rfl) (ax_nil))) (gt_name 9 nd rfl (.inl rfl)) rfl
 (Lx.weakF (κ' := [.ow 0, .sh, .sh, .sh, .sh, .sh, .sh, .sh, .ow 0, .un, .un]) (lx_cons (κ1 := [.ow 0, .sh, .sh, .sh, .sh, .sh, .sh, .sh, .ow 0, .sh, .sh]) (Sx.cv (sx_asg (ex_sub' hr (ev_cons (ex_var 2 rfl (.inr (.inl rfl)) rfl) (ev_cons (ex_mod (ev_cons (ex_add (ev_cons (ex_var 5 rfl (.inr (.inl rfl)) rfl) (ev_cons (ex_mul (ev_cons (ex_mul (ev_cons (ex_int) (ev_cons (ex_var 6 rfl (.inr (.inl rfl)) rfl) (ev_nil)))) (ev_cons (ex_var 9 rfl (.inl rfl) rfl) (ev_nil)))) (ev_nil)))) (ev_cons (ex_int) (ev_nil)))) (ev_nil)))) (gt_name 10 nd rfl (.inl rfl))) rfl)
 (lx_cons (κ1 := [.ow 0, .sh, .sh, .sh, .sh, .sh, .sh, .sh, .ow 0, .sh, .sh]) (Sx.cv (sx_if (tx_cs (cs_eq hr) (ev_cons (ex_var 4 rfl (.inl rfl) rfl) (ev_cons (ex_int) (ev_nil))))
 (lx_cons (κ1 := [.ow 0, .sh, .sh, .sh, .sh, .sh, .sh, .sh, .ow 0, .sh, .sh]) (Sx.cv (sx_exp (ex_append 8 rfl (.inl rfl) rfl (ev_cons (ex_add (ev_cons (ex_slS (ex_var 7 rfl (.inl rfl) rfl) (ox_none) (ox_some (ex_mod (ev_cons (ex_var 9 rfl (.inl rfl) rfl) (ev_cons (ex_int) (ev_nil)))))) (ev_cons (ex_var 10 rfl (.inl rfl) rfl) (ev_nil)))) ev_nil))) rfl)
 (lx_nil))
 (lx_cons (κ1 := [.ow 0, .sh, .sh, .sh, .sh, .sh, .sh, .sh, .ow 0, .sh, .sh]) (Sx.cv (sx_if (tx_cs (cs_eq hr) (ev_cons (ex_var 4 rfl (.inl rfl) rfl) (ev_cons (ex_int) (ev_nil))))
 (lx_cons (κ1 := [.ow 0, .sh, .sh, .sh, .sh, .sh, .sh, .sh, .ow 0, .sh, .sh]) (Sx.cv (sx_exp (ex_append 8 rfl (.inl rfl) rfl (ev_cons (ex_add (ev_cons (ex_var 10 rfl (.inl rfl) rfl) (ev_cons (ex_slS (ex_var 7 rfl (.inl rfl) rfl) (ox_none) (ox_some (ex_c c_l_take (hr.mono (by decide)) (ax_io 0 0 rfl (.inr (.inl rfl)) rfl (ax_cons (ex_int) (ax_nil)))))) (ev_nil)))) ev_nil))) rfl)
 (lx_nil))
 (lx_cons (κ1 := [.ow 0, .sh, .sh, .sh, .sh, .sh, .sh, .sh, .ow 0, .sh, .sh]) (Sx.cv (sx_exp (ex_append 8 rfl (.inl rfl) rfl (ev_cons (ex_sub' hr (ev_cons (Ex.frz (ex_lst (ax_cons (ex_slS (ex_var 7 rfl (.inl rfl) rfl) (ox_none) (ox_some (ex_add (ev_cons (ex_var 9 rfl (.inl rfl) rfl) (ev_cons (ex_int) (ev_nil)))))) (ax_cons (ex_add (ev_cons (ex_var 7 rfl (.inl rfl) rfl) (ev_cons (ex_var 10 rfl (.inl rfl) rfl) (ev_nil)))) (ax_nil))))) (ev_cons (ex_int1 rfl f_int (ev_cons (ex_cs cs_gt (ev_cons (ex_var 9 rfl (.inl rfl) rfl) (ev_cons (ex_int) (ev_nil)))) (ev_nil))) (ev_nil)))) ev_nil))) rfl)
 (lx_nil))) rfl)
 (lx_nil))) rfl)
 (lx_nil))) rfl)) rfl)
 (lx_cons (sx_ret (ex_share 8 0 rfl (.inl rfl) rfl) rfl) (lx_nil))))))))))
theorem ok_l_names {f : Addr} {fd : FuncData} (F : FunD K ("_law_names" : Str) ("_law_names" : Str) (defArgs s_l_names) (defBody s_l_names) (defScope s_l_names) [] [] f fd) (hm : mg ("_law_names" : Str) = some (.ref f)) (f_int : mg ("int" : Str) = none) (f_range : mg ("range" : Str) = none) (c_l_take : Cal P w K mg base ("_law_take" : Str) 1 [("_law_box_here" : Str), ("_law_many" : Str)] (SpF (gx K cl fa) [.ow 0, .sh] .sh (F_l_take_k54 clt))) :
  Cal P w K mg base ("_law_names" : Str) 2 [("_law_box_here" : Str), ("_law_many" : Str)] (SpF (gx K cl fa) [.ow 0, .sh] .sh (F_l_names clt)) :=
  Cal.mk' F hm (fk_l_names F f_int f_range c_l_take) (fun _ _ _ _ _ _ us hl => match us, hl with | [_, _], _ => rfl)
theorem sc_l_some : FnScope [("_law_box_here" : Str), ("_law_names_here" : Str), ("_law_most" : Str), ("_law_left" : Str), ("_law_found" : Str), ("_law_k" : Str)] [("_law_box_here" : Str), ("_law_names_here" : Str)] (defScope s_l_some) := ⟨rfl, rfl, rfl, by decide +kernel, rfl, by decide +kernel, by decide +kernel⟩
theorem fk_l_some {f : Addr} {fd : FuncData} (F : FunD K ("_law_some" : Str) ("_law_some" : Str) (defArgs s_l_some) (defBody s_l_some) (defScope s_l_some) [] [] f fd) (f_len : mg ("len" : Str) = none) (f_list : mg ("list" : Str) = none) (f_min : mg ("min" : Str) = none) (f_range : mg ("range" : Str) = none) (c_l_take : Cal P w K mg base ("_law_take" : Str) 1 [("_law_box_here" : Str), ("_law_many" : Str)] (SpF (gx K cl fa) [.ow 0, .sh] .sh (F_l_take_k54 clt))) :
  FnG P w K mg base (L2.CX P w) 2 f fd [("_law_box_here" : Str), ("_law_names_here" : Str)] (SpF (gx K cl fa) [.ow 0, .sh] .sh (F_l_some_k18 clt)) :=
  have nd : List.Nodup [("_law_box_here" : Str), ("_law_names_here" : Str), ("_law_most" : Str), ("_law_left" : Str), ("_law_found" : Str), ("_law_k" : Str)] := sc_l_some.nd
  fn_ok cl fa [.ow 0, .sh] .sh F sc_l_some rfl (by decide) (κe := [.ow 0, .sh, .un, .un, .un, .un]) (by rfl) (by intro _ h; cases h) fun cdv A outer s H E gd hr =>
 lx_cons (κ1 := [.ow 0, .sh, .sh, .un, .un, .un]) (Sx.cv (sx_asg (ex_sub' hr (ev_cons (Ex.frz (ex_lst (ax_cons (ex_min2 rfl f_min (ev_cons (ex_int) (ev_cons (ex_len2 rfl f_len (ev_cons (ex_var 1 rfl (.inl rfl) rfl) (ev_nil))) (ev_nil)))) (ax_cons (ex_min2 rfl f_min (ev_cons (ex_int) (ev_cons (ex_len2 rfl f_len (ev_cons (ex_var 1 rfl (.inl rfl) rfl) (ev_nil))) (ev_nil)))) (ax_cons (ex_len2 rfl f_len (ev_cons (ex_var 1 rfl (.inl rfl) rfl) (ev_nil))) (ax_nil)))))) (ev_cons (ex_c c_l_take (hr.mono (by decide)) (ax_io 0 0 rfl (.inl rfl) rfl (ax_cons (ex_int) (ax_nil)))) (ev_nil)))) (gt_name 2 nd rfl (.inl rfl))) rfl)
 (lx_cons (κ1 := [.ow 0, .sh, .sh, .ow 0, .un, .un]) (Sx.cv (sx_asg (ex_list rfl f_list (ev_cons (ex_var 1 rfl (.inl rfl) rfl) (ev_nil))) (gt_name 3 nd rfl (.inl rfl))) rfl)
 (lx_cons (κ1 := [.ow 0, .sh, .sh, .ow 0, .ow 0, .un]) (Sx.cv (sx_asg (ex_lst (ax_nil)) (gt_name 4 nd rfl (.inl rfl))) rfl)
 (lx_cons (κ1 := [.ow 0, .sh, .sh, .ow 0, .ow 0, .un]) (Sx.cv (sx_for (κ1 := [.ow 0, .sh, .sh, .ow 0, .ow 0, .un]) (κ2 := [.ow 0, .sh, .sh, .ow 0, .ow 0, .sh]) (ix_rng1 rfl f_range (ax_cons (ex_c c_l_take (hr.mono (by decide)) (ax_io 0 0 rfl (.inl rfl) rfl (ax_cons (ex_add (ev_cons (ex_var 2 rfl (.inl rfl) rfl) (ev_cons (ex_int) (ev_nil)))) (ax_nil)))) (ax_nil))) (gt_name 5 nd rfl (.inl rfl)) rfl
 (Lx.weakF (κ' := [.ow 0, .sh, .sh, .ow 0, .ow 0, .un]) (lx_cons (κ1 := [.ow 0, .sh, .sh, .ow 0, .ow 0, .sh]) (Sx.cv (sx_exp (ex_append 4 rfl (.inl rfl) rfl (ev_cons (ex_popAt2 3 rfl (.inl rfl) rfl (ev_cons (ex_c c_l_take (hr.mono (by decide)) (ax_io 0 0 rfl (.inl rfl) rfl (ax_cons (ex_len2 rfl f_len (ev_io 3 0 rfl (.inl rfl) rfl (ev_nil))) (ax_nil)))) ev_nil) rfl) ev_nil))) rfl)
 (lx_nil)) rfl)) rfl)
 (lx_cons (sx_ret (ex_share 4 0 rfl (.inl rfl) rfl) rfl) (lx_nil)))))
theorem ok_l_some {f : Addr} {fd : FuncData} (F : FunD K ("_law_some" : Str) ("_law_some" : Str) (defArgs s_l_some) (defBody s_l_some) (defScope s_l_some) [] [] f fd) (hm : mg ("_law_some" : Str) = some (.ref f)) (f_len : mg ("len" : Str) = none) (f_list : mg ("list" : Str) = none) (f_min : mg ("min" : Str) = none) (f_range : mg ("range" : Str) = none) (c_l_take : Cal P w K mg base ("_law_take" : Str) 1 [("_law_box_here" : Str), ("_law_many" : Str)] (SpF (gx K cl fa) [.ow 0, .sh] .sh (F_l_take_k54 clt))) :
  Cal P w K mg base ("_law_some" : Str) 2 [("_law_box_here" : Str), ("_law_names_here" : Str)] (SpF (gx K cl fa) [.ow 0, .sh] .sh (F_l_some_k18 clt)) :=
  Cal.mk' F hm (fk_l_some F f_len f_list f_min f_range c_l_take) (fun _ _ _ _ _ _ us hl => match us, hl with | [_, _], _ => rfl)
theorem sc_l_lists : FnScope [("_law_box_here" : Str), ("_law_names_here" : Str), ("_law_name" : Str)] [("_law_box_here" : Str), ("_law_names_here" : Str)] (defScope s_l_lists) := ⟨rfl, rfl, rfl, by decide +kernel, rfl, by decide +kernel, by decide +kernel⟩
theorem fk_l_lists {f : Addr} {fd : FuncData} (F : FunD K ("_law_lists" : Str) ("_law_lists" : Str) (defArgs s_l_lists) (defBody s_l_lists) (defScope s_l_lists) [] [] f fd) (f_dict : mg ("dict" : Str) = none) (c_l_some : Cal P w K mg base ("_law_some" : Str) 2 [("_law_box_here" : Str), ("_law_names_here" : Str)] (SpF (gx K cl fa) [.ow 0, .sh] .sh (F_l_some_k18 clt))) :
  FnG P w K mg base (L2.CX P w) 3 f fd [("_law_box_here" : Str), ("_law_names_here" : Str)] (SpF (gx K cl fa) [.ow 0, .sh] .sh (F_l_lists clt)) :=
  have nd : List.Nodup [("_law_box_here" : Str), ("_law_names_here" : Str), ("_law_name" : Str)] := sc_l_lists.nd
  fn_ok cl fa [.ow 0, .sh] .sh F sc_l_lists rfl (by decide) (κe := [.ow 0, .sh, .un]) (by rfl) (by intro _ h; cases h) fun cdv A outer s H E gd hr =>
 lx_cons (sx_ret (Ex.frz (ex_dictP rfl f_dict (ev_cons (Ex.frz (ex_lc (κb := [.ow 0, .sh, .un]) (own := [(("_law_name" : Str), 2)]) nd (ixq (ex_var 1 rfl (.inr (.inl rfl)) rfl)) (blkOk_by (by rfl)) (fun _ _ _ _ _ => gt_name 2 nd rfl (by first | exact .inl rfl | exact .inr rfl)) (fun _ _ _ _ _ => cx_nil) (fun _ _ _ _ _ => ex_tup (ax_cons (ex_var 2 rfl (by first | exact .inl rfl | exact .inr (.inl rfl) | exact .inr (.inr rfl)) rfl) (ax_cons (ex_c c_l_some (hr.mono (by decide)) (ax_io 0 0 rfl (by first | exact .inl rfl | exact .inr (.inl rfl) | exact .inr (.inr rfl)) rfl (ax_cons (ex_var 1 rfl (by first | exact .inl rfl | exact .inr (.inl rfl) | exact .inr (.inr rfl)) rfl) (ax_nil)))) (ax_nil)))))) (ev_nil)))) rfl) (lx_nil)
theorem ok_l_lists {f : Addr} {fd : FuncData} (F : FunD K ("_law_lists" : Str) ("_law_lists" : Str) (defArgs s_l_lists) (defBody s_l_lists) (defScope s_l_lists) [] [] f fd) (hm : mg ("_law_lists" : Str) = some (.ref f)) (f_dict : mg ("dict" : Str) = none) (c_l_some : Cal P w K mg base ("_law_some" : Str) 2 [("_law_box_here" : Str), ("_law_names_here" : Str)] (SpF (gx K cl fa) [.ow 0, .sh] .sh (F_l_some_k18 clt))) :
  Cal P w K mg base ("_law_lists" : Str) 3 [("_law_box_here" : Str), ("_law_names_here" : Str)] (SpF (gx K cl fa) [.ow 0, .sh] .sh (F_l_lists clt)) :=
  Cal.mk' F hm (fk_l_lists F f_dict c_l_some) (fun _ _ _ _ _ _ us hl => match us, hl with | [_, _], _ => rfl)
theorem sc_l_handed : FnScope [("_law_box_here" : Str), ("_law_lists_here" : Str), ("_law_order" : Str), ("_law_found" : Str), ("_law_name" : Str)] [("_law_box_here" : Str), ("_law_lists_here" : Str)] (defScope s_l_handed) := ⟨rfl, rfl, rfl, by decide +kernel, rfl, by decide +kernel, by decide +kernel⟩
theorem fk_l_handed {f : Addr} {fd : FuncData} (F : FunD K ("_law_handed" : Str) ("_law_handed" : Str) (defArgs s_l_handed) (defBody s_l_handed) (defScope s_l_handed) [] [] f fd) (f_list : mg ("list" : Str) = none) (f_tuple : mg ("tuple" : Str) = none) (c_l_take : Cal P w K mg base ("_law_take" : Str) 1 [("_law_box_here" : Str), ("_law_many" : Str)] (SpF (gx K cl fa) [.ow 0, .sh] .sh (F_l_take_k54 clt))) :
  FnG P w K mg base (L2.CX P w) 2 f fd [("_law_box_here" : Str), ("_law_lists_here" : Str)] (SpF (gx K cl fa) [.ow 0, .sh] (.ow 1) (F_l_handed_k16 clt)) :=
  have nd : List.Nodup [("_law_box_here" : Str), ("_law_lists_here" : Str), ("_law_order" : Str), ("_law_found" : Str), ("_law_name" : Str)] := sc_l_handed.nd
  fn_ok cl fa [.ow 0, .sh] (.ow 1) F sc_l_handed rfl (by decide) (κe := [.ow 0, .sh, .un, .un, .un]) (by rfl) (by intro _ h; cases h) fun cdv A outer s H E gd hr =>
 lx_cons (κ1 := [.ow 0, .sh, .ow 0, .un, .un]) (Sx.cv (sx_asg (ex_listD rfl f_list (ev_cons (ex_var 1 rfl (.inl rfl) rfl) (ev_nil))) (gt_name 2 nd rfl (.inl rfl))) rfl)
 (lx_cons (κ1 := [.ow 0, .sh, .ow 0, .un, .un]) (Sx.cv (sx_if (tx_cs (cs_eq hr) (ev_cons (ex_c c_l_take (hr.mono (by decide)) (ax_io 0 0 rfl (.inl rfl) rfl (ax_cons (ex_int) (ax_nil)))) (ev_cons (ex_int) (ev_nil))))
 (lx_cons (κ1 := [.ow 0, .sh, .ow 0, .un, .un]) (Sx.cv (sx_exp (ex_rev 2 rfl (.inl rfl) rfl)) rfl)
 (lx_nil))
 (lx_nil)) rfl)
 (lx_cons (κ1 := [.ow 0, .sh, .ow 0, .ow 1, .un]) (Sx.cv (sx_asg (ex_dictN 1) (gt_name 3 nd rfl (.inl rfl))) rfl)
 (lx_cons (κ1 := [.ow 0, .sh, .sh, .ow 1, .un]) (Sx.cv (sx_for (κ1 := [.ow 0, .sh, .sh, .ow 1, .un]) (κ2 := [.ow 0, .sh, .sh, .ow 1, .sh]) (ixq (ex_share 2 0 rfl (.inl rfl) rfl)) (gt_name 4 nd rfl (.inl rfl)) rfl
 (Lx.weakF (κ' := [.ow 0, .sh, .sh, .ow 1, .un]) (lx_cons (κ1 := [.ow 0, .sh, .sh, .ow 1, .sh]) (Sx.cv (sx_setDO (i := 3) 0 hr rfl (.inl rfl) (ex_pickO 0 (ex_lstO 0 2 (ao_cons (some 0) (ex_list rfl f_list (ev_cons (ex_sub' hr (ev_cons (ex_var 1 rfl (.inl rfl) rfl) (ev_cons (ex_var 4 rfl (.inl rfl) rfl) (ev_nil)))) (ev_nil))) (ao_cons (some 0) (ex_leafO 0 (ex_tuple rfl f_tuple (ev_cons (ex_sub' hr (ev_cons (ex_var 1 rfl (.inl rfl) rfl) (ev_cons (ex_var 4 rfl (.inl rfl) rfl) (ev_nil)))) (ev_nil)))) ao_nil))) (ex_c c_l_take (hr.mono (by decide)) (ax_io 0 0 rfl (.inl rfl) rfl (ax_cons (ex_int) (ax_nil))))) rfl (dx_var 4 rfl (.inl rfl) rfl)) rfl)
 (lx_nil)) rfl)) rfl)
 (lx_cons (sx_ret (ex_move 3 1 rfl (.inl rfl) rfl) rfl) (lx_nil)))))
theorem ok_l_handed {f : Addr} {fd : FuncData} (F : FunD K ("_law_handed" : Str) ("_law_handed" : Str) (defArgs s_l_handed) (defBody s_l_handed) (defScope s_l_handed) [] [] f fd) (hm : mg ("_law_handed" : Str) = some (.ref f)) (f_list : mg ("list" : Str) = none) (f_tuple : mg ("tuple" : Str) = none) (c_l_take : Cal P w K mg base ("_law_take" : Str) 1 [("_law_box_here" : Str), ("_law_many" : Str)] (SpF (gx K cl fa) [.ow 0, .sh] .sh (F_l_take_k54 clt))) :
  Cal P w K mg base ("_law_handed" : Str) 2 [("_law_box_here" : Str), ("_law_lists_here" : Str)] (SpF (gx K cl fa) [.ow 0, .sh] (.ow 1) (F_l_handed_k16 clt)) :=
  Cal.mk' F hm (fk_l_handed F f_list f_tuple c_l_take) (fun _ _ _ _ _ _ us hl => match us, hl with | [_, _], _ => rfl)
theorem sc_is_listed : FnScope [("thing" : Str)] [("thing" : Str)] (defScope s_is_listed) := ⟨rfl, rfl, rfl, by decide +kernel, rfl, by decide +kernel, by decide +kernel⟩
theorem fk_is_listed {f : Addr} {fd : FuncData} (F : FunD K ("is_listed" : Str) ("is_listed" : Str) (defArgs s_is_listed) (defBody s_is_listed) (defScope s_is_listed) [] [] f fd) (f_isinstance : mg ("isinstance" : Str) = none) (f_list : mg ("list" : Str) = none) (f_tuple : mg ("tuple" : Str) = none) (isf : IsF (gx K cl fa).toGx0 clt) :
  FnG P w K mg base (L2.CX P w) 1 f fd [("thing" : Str)] (SpF (gx K cl fa) [.sh] .sh (F_is_listed clt)) :=
  have nd : List.Nodup [("thing" : Str)] := sc_is_listed.nd
  fn_ok cl fa [.sh] .sh F sc_is_listed rfl (by decide) (κe := [.sh]) (by rfl) (by intro _ h; cases h) fun cdv A outer s H E gd hr =>
 lx_cons (sx_ret (ex_isiT2 isf rfl f_isinstance (ex_var 0 rfl (.inl rfl) rfl) (ax_cons ((ex_ty rfl f_list (by decide +kernel))) (ax_cons ((ex_ty rfl f_tuple (by decide +kernel))) (ax_nil)))) rfl) (lx_nil)
theorem ok_is_listed {f : Addr} {fd : FuncData} (F : FunD K ("is_listed" : Str) ("is_listed" : Str) (defArgs s_is_listed) (defBody s_is_listed) (defScope s_is_listed) [] [] f fd) (hm : mg ("is_listed" : Str) = some (.ref f)) (f_isinstance : mg ("isinstance" : Str) = none) (f_list : mg ("list" : Str) = none) (f_tuple : mg ("tuple" : Str) = none) (isf : IsF (gx K cl fa).toGx0 clt) :
  Cal P w K mg base ("is_listed" : Str) 1 [("thing" : Str)] (SpF (gx K cl fa) [.sh] .sh (F_is_listed clt)) :=
  Cal.mk' F hm (fk_is_listed F f_isinstance f_list f_tuple isf) (fun _ _ _ _ _ _ us hl => match us, hl with | [_], _ => rfl)
theorem sc_is_name : FnScope [("thing" : Str), ("sign" : Str)] [("thing" : Str)] (defScope s_is_name) := ⟨rfl, rfl, rfl, by decide +kernel, rfl, by decide +kernel, by decide +kernel⟩
theorem fk_is_name {f : Addr} {fd : FuncData} (F : FunD K ("is_name" : Str) ("is_name" : Str) (defArgs s_is_name) (defBody s_is_name) (defScope s_is_name) [] [] f fd) (f_isinstance : mg ("isinstance" : Str) = none) (f_len : mg ("len" : Str) = none) (f_str : mg ("str" : Str) = none) (g_LETTERS : ∃ t, mg ("LETTERS" : Str) = some (.str ("abcdefghijklmnopqrstuvwxyz" : Str) t)) (g_LONGEST : ∃ t, mg ("LONGEST" : Str) = some (.int 6 t)) (isf : IsF (gx K cl fa).toGx0 clt) :
  FnG P w K mg base (L2.CX P w) 1 f fd [("thing" : Str)] (SpF (gx K cl fa) [.sh] .sh (F_is_name clt)) :=
  have nd : List.Nodup [("thing" : Str), ("sign" : Str)] := sc_is_name.nd
  fn_ok cl fa [.sh] .sh F sc_is_name rfl (by decide) (κe := [.sh, .un]) (by rfl) (by intro _ h; cases h) fun cdv A outer s H E gd hr =>
 lx_cons (κ1 := [.sh, .un]) (Sx.cv (sx_if (Wx.tx (wx_or (tx_not (tx_val (ex_isi2 isf rfl f_isinstance (ev_cons (ex_var 0 rfl (.inl rfl) rfl) (ev_cons ((ex_ty rfl f_str (by decide +kernel))) (ev_nil)))))) (wx_or1 (tx_not (tx_le_le (ex_int) (ex_len2 rfl f_len (ev_cons (ex_var 0 rfl (.inl rfl) rfl) (ev_nil))) (ex_gi g_LONGEST))))))
 (lx_cons (sx_ret (ex_bl) rfl) (lx_nil))
 (lx_nil)) rfl)
 (lx_cons (sx_ret (ex_cs (cs_eq hr) (ev_cons (Ex.frz (ex_lc (κb := [.sh, .un]) (own := [(("sign" : Str), 1)]) nd (ixs (ex_var 0 rfl (.inl rfl) rfl)) (blkOk_by (by rfl)) (fun _ _ _ _ _ => gt_name 1 nd rfl (by first | exact .inl rfl | exact .inr rfl)) (fun _ _ _ _ _ => cx_one (tx_cs (cs_notIn2 hr) (ev_cons (ex_var 1 rfl (by first | exact .inl rfl | exact .inr (.inl rfl) | exact .inr (.inr rfl)) rfl) (ev_cons (ex_gs g_LETTERS) (ev_nil))))) (fun _ _ _ _ _ => ex_var 1 rfl (by first | exact .inl rfl | exact .inr (.inl rfl) | exact .inr (.inr rfl)) rfl))) (ev_cons (Ex.frz (ex_lst (ax_nil))) (ev_nil)))) rfl) (lx_nil))
theorem ok_is_name {f : Addr} {fd : FuncData} (F : FunD K ("is_name" : Str) ("is_name" : Str) (defArgs s_is_name) (defBody s_is_name) (defScope s_is_name) [] [] f fd) (hm : mg ("is_name" : Str) = some (.ref f)) (f_isinstance : mg ("isinstance" : Str) = none) (f_len : mg ("len" : Str) = none) (f_str : mg ("str" : Str) = none) (g_LETTERS : ∃ t, mg ("LETTERS" : Str) = some (.str ("abcdefghijklmnopqrstuvwxyz" : Str) t)) (g_LONGEST : ∃ t, mg ("LONGEST" : Str) = some (.int 6 t)) (isf : IsF (gx K cl fa).toGx0 clt) :
  Cal P w K mg base ("is_name" : Str) 1 [("thing" : Str)] (SpF (gx K cl fa) [.sh] .sh (F_is_name clt)) :=
  Cal.mk' F hm (fk_is_name F f_isinstance f_len f_str g_LETTERS g_LONGEST isf) (fun _ _ _ _ _ _ us hl => match us, hl with | [_], _ => rfl)
theorem sc_need_fresh : FnScope [("name" : Str), ("names" : Str)] [("name" : Str), ("names" : Str)] (defScope s_need_fresh) := ⟨rfl, rfl, rfl, by decide +kernel, rfl, by decide +kernel, by decide +kernel⟩
theorem fk_need_fresh_vso {f : Addr} {fd : FuncData} (F : FunD K ("need_fresh" : Str) ("need_fresh" : Str) (defArgs s_need_fresh) (defBody s_need_fresh) (defScope s_need_fresh) [] [] f fd) (x_NoName : ExC P w K mg base ("NoName" : Str) (cl 1) [("found" : Str)]) (x_Twice : ExC P w K mg base ("Twice" : Str) (cl 4) [("found" : Str)]) (c_is_name : Cal P w K mg base ("is_name" : Str) 1 [("thing" : Str)] (SpF (gx K cl fa) [.sh] .sh (F_is_name clt))) :
  FnG P w K mg base (L2.CX P w) 3 f fd [("name" : Str), ("names" : Str)] (SpF (gx K cl fa) [.sh, .ow 0] .sh (F_need_fresh_vso clt)) :=
  have nd : List.Nodup [("name" : Str), ("names" : Str)] := sc_need_fresh.nd
  fn_ok cl fa [.sh, .ow 0] .sh F sc_need_fresh rfl (by decide) (κe := [.sh, .ow 0]) (by rfl) (by intro _ h; cases h) fun cdv A outer s H E gd hr =>
 lx_cons (κ1 := [.sh, .ow 0]) (Sx.cv (sx_if (tx_not (tx_val (ex_c c_is_name (hr.mono (by decide)) (ax_cons (ex_var 0 rfl (.inl rfl) rfl) (ax_nil)))))
 (lx_cons (sx_raise x_NoName hr (ax_cons (ex_var 0 rfl (.inl rfl) rfl) (ax_nil))) (lx_nil))
 (lx_nil)) rfl)
 (lx_cons (κ1 := [.sh, .ow 0]) (Sx.cv (sx_if (tx_cs (κ1 := [.sh, .un]) (cs_in2 hr) (ev_cons (ex_var 0 rfl (.inl rfl) rfl) (ev_io 1 0 rfl (.inl rfl) rfl (ev_nil))))
 (lx_cons (sx_raise x_Twice hr (ax_cons (ex_var 0 rfl (.inl rfl) rfl) (ax_nil))) (lx_nil))
 (lx_nil)) rfl)
 (lx_nil))
theorem ok_need_fresh_vso {f : Addr} {fd : FuncData} (F : FunD K ("need_fresh" : Str) ("need_fresh" : Str) (defArgs s_need_fresh) (defBody s_need_fresh) (defScope s_need_fresh) [] [] f fd) (hm : mg ("need_fresh" : Str) = some (.ref f)) (x_NoName : ExC P w K mg base ("NoName" : Str) (cl 1) [("found" : Str)]) (x_Twice : ExC P w K mg base ("Twice" : Str) (cl 4) [("found" : Str)]) (c_is_name : Cal P w K mg base ("is_name" : Str) 1 [("thing" : Str)] (SpF (gx K cl fa) [.sh] .sh (F_is_name clt))) :
  Cal P w K mg base ("need_fresh" : Str) 3 [("name" : Str), ("names" : Str)] (SpF (gx K cl fa) [.sh, .ow 0] .sh (F_need_fresh_vso clt)) :=
  Cal.mk' F hm (fk_need_fresh_vso F x_NoName x_Twice c_is_name) (fun _ _ _ _ _ _ us hl => match us, hl with | [_, _], _ => rfl)
theorem sc_good_names : FnScope [("names" : Str), ("found" : Str), ("name" : Str)] [("names" : Str)] (defScope s_good_names) := ⟨rfl, rfl, rfl, by decide +kernel, rfl, by decide +kernel, by decide +kernel⟩
theorem fk_good_names {f : Addr} {fd : FuncData} (F : FunD K ("good_names" : Str) ("good_names" : Str) (defArgs s_good_names) (defBody s_good_names) (defScope s_good_names) [] [] f fd) (f_len : mg ("len" : Str) = none) (g_MOST_PLACES : ∃ t, mg ("MOST_PLACES" : Str) = some (.int 12 t)) (x_NoName : ExC P w K mg base ("NoName" : Str) (cl 1) [("found" : Str)]) (x_TooMany : ExC P w K mg base ("TooMany" : Str) (cl 14) [("many" : Str)]) (c_is_listed : Cal P w K mg base ("is_listed" : Str) 1 [("thing" : Str)] (SpF (gx K cl fa) [.sh] .sh (F_is_listed clt))) (c_need_fresh_vso : Cal P w K mg base ("need_fresh" : Str) 3 [("name" : Str), ("names" : Str)] (SpF (gx K cl fa) [.sh, .ow 0] .sh (F_need_fresh_vso clt))) :
  FnG P w K mg base (L2.CX P w) 4 f fd [("names" : Str)] (SpF (gx K cl fa) [.sh] .sh (F_good_names clt)) :=
  have nd : List.Nodup [("names" : Str), ("found" : Str), ("name" : Str)] := sc_good_names.nd
  fn_ok cl fa [.sh] .sh F sc_good_names rfl (by decide) (κe := [.sh, .un, .un]) (by rfl) (by intro _ h; cases h) fun cdv A outer s H E gd hr =>
 lx_cons (κ1 := [.sh, .un, .un]) (Sx.cv (sx_if (tx_not (tx_val (ex_c c_is_listed (hr.mono (by decide)) (ax_cons (ex_var 0 rfl (.inl rfl) rfl) (ax_nil)))))
 (lx_cons (sx_raise x_NoName hr (ax_cons (ex_var 0 rfl (.inl rfl) rfl) (ax_nil))) (lx_nil))
 (lx_nil)) rfl)
 (lx_cons (κ1 := [.sh, .un, .un]) (Sx.cv (sx_if (tx_cs cs_gt (ev_cons (ex_len2 rfl f_len (ev_cons (ex_var 0 rfl (.inl rfl) rfl) (ev_nil))) (ev_cons (ex_gi g_MOST_PLACES) (ev_nil))))
 (lx_cons (sx_raise x_TooMany hr (ax_cons (ex_len2 rfl f_len (ev_cons (ex_var 0 rfl (.inl rfl) rfl) (ev_nil))) (ax_nil))) (lx_nil))
 (lx_nil)) rfl)
 (lx_cons (κ1 := [.sh, .ow 0, .un]) (Sx.cv (sx_asg (ex_dict0) (gt_name 1 nd rfl (.inl rfl))) rfl)
 (lx_cons (κ1 := [.sh, .ow 0, .un]) (Sx.cv (sx_for (κ1 := [.sh, .ow 0, .un]) (κ2 := [.sh, .ow 0, .sh]) (ixq (ex_var 0 rfl (.inl rfl) rfl)) (gt_name 2 nd rfl (.inl rfl)) rfl
 (Lx.weakF (κ' := [.sh, .ow 0, .un]) (lx_cons (κ1 := [.sh, .ow 0, .sh]) (Sx.cv (sx_exp (ex_c c_need_fresh_vso (hr.mono (by decide)) (ax_cons (ex_var 2 rfl (.inl rfl) rfl) (ax_io 1 0 rfl (.inl rfl) rfl (ax_nil))))) rfl)
 (lx_cons (κ1 := [.sh, .ow 0, .sh]) (Sx.cv (sx_setD (i := 1) hr rfl (.inl rfl) (ex_len2 rfl f_len (ev_io 1 0 rfl (.inl rfl) rfl (ev_nil))) rfl (dx_var 2 rfl (.inl rfl) rfl)) rfl)
 (lx_nil))) rfl)) rfl)
 (lx_cons (sx_ret (ex_share 1 0 rfl (.inl rfl) rfl) rfl) (lx_nil)))))
theorem ok_good_names {f : Addr} {fd : FuncData} (F : FunD K ("good_names" : Str) ("good_names" : Str) (defArgs s_good_names) (defBody s_good_names) (defScope s_good_names) [] [] f fd) (hm : mg ("good_names" : Str) = some (.ref f)) (f_len : mg ("len" : Str) = none) (g_MOST_PLACES : ∃ t, mg ("MOST_PLACES" : Str) = some (.int 12 t)) (x_NoName : ExC P w K mg base ("NoName" : Str) (cl 1) [("found" : Str)]) (x_TooMany : ExC P w K mg base ("TooMany" : Str) (cl 14) [("many" : Str)]) (c_is_listed : Cal P w K mg base ("is_listed" : Str) 1 [("thing" : Str)] (SpF (gx K cl fa) [.sh] .sh (F_is_listed clt))) (c_need_fresh_vso : Cal P w K mg base ("need_fresh" : Str) 3 [("name" : Str), ("names" : Str)] (SpF (gx K cl fa) [.sh, .ow 0] .sh (F_need_fresh_vso clt))) :
  Cal P w K mg base ("good_names" : Str) 4 [("names" : Str)] (SpF (gx K cl fa) [.sh] .sh (F_good_names clt)) :=
  Cal.mk' F hm (fk_good_names F f_len g_MOST_PLACES x_NoName x_TooMany c_is_listed c_need_fresh_vso) (fun _ _ _ _ _ _ us hl => match us, hl with | [_], _ => rfl)
theorem sc_are_marks : FnScope [("names" : Str), ("row" : Str), ("seen" : Str), ("mark" : Str)] [("names" : Str), ("row" : Str)] (defScope s_are_marks) := ⟨rfl, rfl, rfl, by decide +kernel, rfl, by decide +kernel, by decide +kernel⟩
theorem fk_are_marks {f : Addr} {fd : FuncData} (F : FunD K ("are_marks" : Str) ("are_marks" : Str) (defArgs s_are_marks) (defBody s_are_marks) (defScope s_are_marks) [] [] f fd) (f_isinstance : mg ("isinstance" : Str) = none) (f_len : mg ("len" : Str) = none) (f_list : mg ("list" : Str) = none) (f_str : mg ("str" : Str) = none) (f_tuple : mg ("tuple" : Str) = none) (isf : IsF (gx K cl fa).toGx0 clt) :
  FnG P w K mg base (L2.CX P w) 1 f fd [("names" : Str), ("row" : Str)] (SpF (gx K cl fa) [.sh, .sh] .sh (F_are_marks clt)) :=
  have nd : List.Nodup [("names" : Str), ("row" : Str), ("seen" : Str), ("mark" : Str)] := sc_are_marks.nd
  fn_ok cl fa [.sh, .sh] .sh F sc_are_marks rfl (by decide) (κe := [.sh, .sh, .un, .un]) (by rfl) (by intro _ h; cases h) fun cdv A outer s H E gd hr =>
 lx_cons (κ1 := [.sh, .sh, .un, .un]) (Sx.cv (sx_if (Wx.tx (wx_or (tx_not (tx_val (ex_isiT2 isf rfl f_isinstance (ex_var 1 rfl (.inl rfl) rfl) (ax_cons ((ex_ty rfl f_list (by decide +kernel))) (ax_cons ((ex_ty rfl f_tuple (by decide +kernel))) (ax_nil)))))) (wx_or1 (tx_cs cs_gt (ev_cons (ex_len2 rfl f_len (ev_cons (ex_var 1 rfl (.inl rfl) rfl) (ev_nil))) (ev_cons (ex_len2 rfl f_len (ev_cons (ex_var 0 rfl (.inl rfl) rfl) (ev_nil))) (ev_nil)))))))
 (lx_cons (sx_ret (ex_bl) rfl) (lx_nil))
 (lx_nil)) rfl)
 (lx_cons (κ1 := [.sh, .sh, .ow 0, .un]) (Sx.cv (sx_asg (ex_lst (ax_nil)) (gt_name 2 nd rfl (.inl rfl))) rfl)
 (lx_cons (κ1 := [.sh, .sh, .ow 0, .un]) (Sx.cv (sx_for (κ1 := [.sh, .sh, .ow 0, .un]) (κ2 := [.sh, .sh, .ow 0, .sh]) (ixq (ex_var 1 rfl (.inl rfl) rfl)) (gt_name 3 nd rfl (.inl rfl)) rfl
 (Lx.weakF (κ' := [.sh, .sh, .ow 0, .un]) (lx_cons (κ1 := [.sh, .sh, .ow 0, .sh]) (Sx.cv (sx_if (Wx.tx (wx_or (tx_not (tx_val (ex_isi2 isf rfl f_isinstance (ev_cons (ex_var 3 rfl (.inl rfl) rfl) (ev_cons ((ex_ty rfl f_str (by decide +kernel))) (ev_nil)))))) (wx_or (tx_cs (cs_notIn2 hr) (ev_cons (ex_var 3 rfl (.inl rfl) rfl) (ev_cons (ex_var 0 rfl (.inl rfl) rfl) (ev_nil)))) (wx_or1 (tx_cs (κ1 := [.sh, .sh, .un, .sh]) (cs_in2 hr) (ev_cons (ex_var 3 rfl (.inl rfl) rfl) (ev_io 2 0 rfl (.inl rfl) rfl (ev_nil))))))))
 (lx_cons (sx_ret (ex_bl) rfl) (lx_nil))
 (lx_nil)) rfl)
 (lx_cons (κ1 := [.sh, .sh, .ow 0, .sh]) (Sx.cv (sx_exp (ex_append 2 rfl (.inl rfl) rfl (ev_cons (ex_var 3 rfl (.inl rfl) rfl) ev_nil))) rfl)
 (lx_nil))) rfl)) rfl)
 (lx_cons (sx_ret (ex_bl) rfl) (lx_nil))))
theorem ok_are_marks {f : Addr} {fd : FuncData} (F : FunD K ("are_marks" : Str) ("are_marks" : Str) (defArgs s_are_marks) (defBody s_are_marks) (defScope s_are_marks) [] [] f fd) (hm : mg ("are_marks" : Str) = some (.ref f)) (f_isinstance : mg ("isinstance" : Str) = none) (f_len : mg ("len" : Str) = none) (f_list : mg ("list" : Str) = none) (f_str : mg ("str" : Str) = none) (f_tuple : mg ("tuple" : Str) = none) (isf : IsF (gx K cl fa).toGx0 clt) :
  Cal P w K mg base ("are_marks" : Str) 1 [("names" : Str), ("row" : Str)] (SpF (gx K cl fa) [.sh, .sh] .sh (F_are_marks clt)) :=
  Cal.mk' F hm (fk_are_marks F f_isinstance f_len f_list f_str f_tuple isf) (fun _ _ _ _ _ _ us hl => match us, hl with | [_, _], _ => rfl)
theorem sc_need_lists : FnScope [("names" : Str), ("lists" : Str), ("name" : Str)] [("names" : Str), ("lists" : Str)] (defScope s_need_lists) := ⟨rfl, rfl, rfl, by decide +kernel, rfl, by decide +kernel, by decide +kernel⟩
theorem fk_need_lists {f : Addr} {fd : FuncData} (F : FunD K ("need_lists" : Str) ("need_lists" : Str) (defArgs s_need_lists) (defBody s_need_lists) (defScope s_need_lists) [] [] f fd) (f_dict : mg ("dict" : Str) = none) (f_isinstance : mg ("isinstance" : Str) = none) (f_len : mg ("len" : Str) = none) (isf : IsF (gx K cl fa).toGx0 clt) (x_NoMarks : ExC P w K mg base ("NoMarks" : Str) (cl 6) [("found" : Str)]) (c_are_marks : Cal P w K mg base ("are_marks" : Str) 1 [("names" : Str), ("row" : Str)] (SpF (gx K cl fa) [.sh, .sh] .sh (F_are_marks clt))) :
  FnG P w K mg base (L2.CX P w) 3 f fd [("names" : Str), ("lists" : Str)] (SpF (gx K cl fa) [.sh, .sh] .sh (F_need_lists clt)) :=
  have nd : List.Nodup [("names" : Str), ("lists" : Str), ("name" : Str)] := sc_need_lists.nd
  fn_ok cl fa [.sh, .sh] .sh F sc_need_lists rfl (by decide) (κe := [.sh, .sh, .un]) (by rfl) (by intro _ h; cases h) fun cdv A outer s H E gd hr =>
 lx_cons (κ1 := [.sh, .sh, .un]) (Sx.cv (sx_if (Wx.tx (wx_or (tx_not (tx_val (ex_isi2 isf rfl f_isinstance (ev_cons (ex_var 1 rfl (.inl rfl) rfl) (ev_cons ((ex_ty rfl f_dict (by decide +kernel))) (ev_nil)))))) (wx_or1 (tx_cs (cs_ne hr) (ev_cons (ex_len2 rfl f_len (ev_cons (ex_var 1 rfl (.inl rfl) rfl) (ev_nil))) (ev_cons (ex_len2 rfl f_len (ev_cons (ex_var 0 rfl (.inl rfl) rfl) (ev_nil))) (ev_nil)))))))
 (lx_cons (sx_raise x_NoMarks hr (ax_cons (ex_var 1 rfl (.inl rfl) rfl) (ax_nil))) (lx_nil))
 (lx_nil)) rfl)
 (lx_cons (κ1 := [.sh, .sh, .un]) (Sx.cv (sx_for (κ1 := [.sh, .sh, .un]) (κ2 := [.sh, .sh, .sh]) (ixq (ex_var 0 rfl (.inl rfl) rfl)) (gt_name 2 nd rfl (.inl rfl)) rfl
 (Lx.weakF (κ' := [.sh, .sh, .un]) (lx_cons (κ1 := [.sh, .sh, .sh]) (Sx.cv (sx_if (tx_not (tx_val (ex_c c_are_marks (hr.mono (by decide)) (ax_cons (ex_var 0 rfl (.inl rfl) rfl) (ax_cons (ex_dget hr (ex_var 1 rfl (.inl rfl) rfl) (ex_var 2 rfl (.inl rfl) rfl)) (ax_nil))))))
 (lx_cons (sx_raise x_NoMarks hr (ax_cons (ex_var 1 rfl (.inl rfl) rfl) (ax_nil))) (lx_nil))
 (lx_nil)) rfl)
 (lx_nil)) rfl)) rfl)
 (lx_nil))
theorem ok_need_lists {f : Addr} {fd : FuncData} (F : FunD K ("need_lists" : Str) ("need_lists" : Str) (defArgs s_need_lists) (defBody s_need_lists) (defScope s_need_lists) [] [] f fd) (hm : mg ("need_lists" : Str) = some (.ref f)) (f_dict : mg ("dict" : Str) = none) (f_isinstance : mg ("isinstance" : Str) = none) (f_len : mg ("len" : Str) = none) (isf : IsF (gx K cl fa).toGx0 clt) (x_NoMarks : ExC P w K mg base ("NoMarks" : Str) (cl 6) [("found" : Str)]) (c_are_marks : Cal P w K mg base ("are_marks" : Str) 1 [("names" : Str), ("row" : Str)] (SpF (gx K cl fa) [.sh, .sh] .sh (F_are_marks clt))) :
  Cal P w K mg base ("need_lists" : Str) 3 [("names" : Str), ("lists" : Str)] (SpF (gx K cl fa) [.sh, .sh] .sh (F_need_lists clt)) :=
  Cal.mk' F hm (fk_need_lists F f_dict f_isinstance f_len isf x_NoMarks c_are_marks) (fun _ _ _ _ _ _ us hl => match us, hl with | [_, _], _ => rfl)
theorem sc_Marks_d_initd_ : FnScope [("self" : Str), ("names" : Str), ("ahead" : Str), ("behind" : Str), ("name" : Str)] [("self" : Str), ("names" : Str), ("ahead" : Str), ("behind" : Str)] (defScope s_Marks_d_initd_) := ⟨rfl, rfl, rfl, by decide +kernel, rfl, by decide +kernel, by decide +kernel⟩
theorem fk_Marks_d_initd_ {f : Addr} {fd : FuncData} (F : FunD K ("__init__" : Str) ("Marks.__init__" : Str) (defArgs s_Marks_d_initd_) (defBody s_Marks_d_initd_) (defScope s_Marks_d_initd_) [] [] f fd) (f_list : mg ("list" : Str) = none) (f_tuple : mg ("tuple" : Str) = none) (o_Marks_called : FldOk (gx K cl fa) [20] ("called" : Str)) (o_Marks_sides : FldOk (gx K cl fa) [20] ("sides" : Str)) (c_good_names : Cal P w K mg base ("good_names" : Str) 4 [("names" : Str)] (SpF (gx K cl fa) [.sh] .sh (F_good_names clt))) (c_need_lists : Cal P w K mg base ("need_lists" : Str) 3 [("names" : Str), ("lists" : Str)] (SpF (gx K cl fa) [.sh, .sh] .sh (F_need_lists clt))) :
  FnG P w K mg base (L2.CX P w) 5 f fd [("self" : Str), ("names" : Str), ("ahead" : Str), ("behind" : Str)] (SpG (gx K cl fa) [.ow (.ob []), .sh, .sh, .sh] [.ow (.ob [some 0, some 1]), .un, .un, .un] .sh (F_Marks_d_initd__k16 clt)) :=
  have nd : List.Nodup [("self" : Str), ("names" : Str), ("ahead" : Str), ("behind" : Str), ("name" : Str)] := sc_Marks_d_initd_.nd
  fn_okG cl fa [.ow (.ob []), .sh, .sh, .sh] [.ow (.ob [some 0, some 1]), .un, .un, .un] .sh F sc_Marks_d_initd_ rfl rfl (by decide) (κe := [.ow (.ob [some 0, some 1]), .sh, .sh, .sh, .un]) (by rfl) (by intro _ h; cases h) fun cdv A outer s H E gd hr =>
 lx_cons (κ1 := [.ow (.ob [some 0]), .sh, .sh, .sh, .un]) (Sx.cv (sx_fldN (kf := (some 0)) (i := 0) rfl (.inl rfl) o_Marks_called (ex_listD rfl f_list (ev_cons (ex_noX [.un, .un, .un, .un, .un] (ex_c c_good_names (hr.mono (by decide)) (ax_cons (ex_var 1 rfl (.inl rfl) rfl) (ax_nil)))) (ev_nil))) rfl) rfl)
 (lx_cons (κ1 := [.ow (.ob [some 0]), .sh, .sh, .sh, .un]) (Sx.cv (sx_exp (ex_noX [.un, .un, .un, .un, .un] (ex_c c_need_lists (hr.mono (by decide)) (ax_cons (ex_var 1 rfl (.inl rfl) rfl) (ax_cons (ex_var 2 rfl (.inl rfl) rfl) (ax_nil)))))) rfl)
 (lx_cons (κ1 := [.ow (.ob [some 0]), .sh, .sh, .sh, .un]) (Sx.cv (sx_exp (ex_noX [.un, .un, .un, .un, .un] (ex_c c_need_lists (hr.mono (by decide)) (ax_cons (ex_var 1 rfl (.inl rfl) rfl) (ax_cons (ex_var 3 rfl (.inl rfl) rfl) (ax_nil)))))) rfl)
 (lx_cons (κ1 := [.ow (.ob [some 0, some 1]), .sh, .sh, .sh, .un]) (Sx.cv (sx_fldN (kf := (some 1)) (i := 0) rfl (.inl rfl) o_Marks_sides (ex_disp (ko := some 0) (dp_cons (ex_str) (ex_dictN 0) (dp_cons (ex_str) (ex_dictN 0) (dp_nil)))) rfl) rfl)
 (lx_cons (κ1 := [.ow (.ob [some 0, some 1]), .sh, .sh, .sh, .un]) (Sx.cv (sx_for (κ1 := [.ow (.ob [some 0, some 1]), .sh, .sh, .sh, .un]) (κ2 := [.ow (.ob [some 0, some 1]), .sh, .sh, .sh, .sh]) (ixq (ex_var 1 rfl (.inl rfl) rfl)) (gt_name 4 nd rfl (.inl rfl)) rfl
 (Lx.weakF (κ' := [.ow (.ob [some 0, some 1]), .sh, .sh, .sh, .un]) (lx_cons (κ1 := [.ow (.ob [some 0, some 1]), .sh, .sh, .sh, .sh]) (Sx.cv (sx_putP (i := 0) (c := 20) hr (ex_tuple rfl f_tuple (ev_cons (ex_sub' hr (ev_cons (ex_var 2 rfl (.inl rfl) rfl) (ev_cons (ex_var 4 rfl (.inl rfl) rfl) (ev_nil)))) (ev_nil))) rfl (px_key hr (px_fld rfl (.inl rfl) o_Marks_sides) (dx_str)) (dx_var 4 rfl (.inl rfl) rfl)) rfl)
 (lx_cons (κ1 := [.ow (.ob [some 0, some 1]), .sh, .sh, .sh, .sh]) (Sx.cv (sx_putP (i := 0) (c := 20) hr (ex_tuple rfl f_tuple (ev_cons (ex_sub' hr (ev_cons (ex_var 3 rfl (.inl rfl) rfl) (ev_cons (ex_var 4 rfl (.inl rfl) rfl) (ev_nil)))) (ev_nil))) rfl (px_key hr (px_fld rfl (.inl rfl) o_Marks_sides) (dx_str)) (dx_var 4 rfl (.inl rfl) rfl)) rfl)
 (lx_nil))) rfl)) rfl)
 (lx_nil)))))
theorem ok_Marks_d_initd_ {f : Addr} {fd : FuncData} (F : FunD K ("__init__" : Str) ("Marks.__init__" : Str) (defArgs s_Marks_d_initd_) (defBody s_Marks_d_initd_) (defScope s_Marks_d_initd_) [] [] f fd) (hM : Mk K (cl 20) f) (hm : mg ("Marks" : Str) = some (.ref (cl 20))) (f_list : mg ("list" : Str) = none) (f_tuple : mg ("tuple" : Str) = none) (o_Marks_called : FldOk (gx K cl fa) [20] ("called" : Str)) (o_Marks_sides : FldOk (gx K cl fa) [20] ("sides" : Str)) (c_good_names : Cal P w K mg base ("good_names" : Str) 4 [("names" : Str)] (SpF (gx K cl fa) [.sh] .sh (F_good_names clt))) (c_need_lists : Cal P w K mg base ("need_lists" : Str) 3 [("names" : Str), ("lists" : Str)] (SpF (gx K cl fa) [.sh, .sh] .sh (F_need_lists clt))) :
  CalK P w K mg base ("Marks" : Str) (cl 20) 5 [("self" : Str), ("names" : Str), ("ahead" : Str), ("behind" : Str)] (SpG (gx K cl fa) [.ow (.ob []), .sh, .sh, .sh] [.ow (.ob [some 0, some 1]), .un, .un, .un] .sh (F_Marks_d_initd__k16 clt)) :=
  ⟨f, fd, hM, fk_Marks_d_initd_ F f_list f_tuple o_Marks_called o_Marks_sides c_good_names c_need_lists, hm, F.bindsN (fun _ _ _ _ _ _ us hl => match us, hl with | [_, _, _, _], _ => rfl)⟩
theorem sc_l_scene : FnScope [("_law_cell_here" : Str), ("_law_box_here" : Str), ("_law_names_here" : Str), ("_law_ahead" : Str), ("_law_behind" : Str), ("_law_handed_here" : Str), ("_law_called" : Str), ("_law_marks" : Str), ("_law_lists_here" : Str), ("_law_row" : Str)] [("_law_cell_here" : Str)] (defScope s_l_scene) := ⟨rfl, rfl, rfl, by decide +kernel, rfl, by decide +kernel, by decide +kernel⟩
theorem fk_l_scene {f : Addr} {fd : FuncData} (F : FunD K ("_law_scene" : Str) ("_law_scene" : Str) (defArgs s_l_scene) (defBody s_l_scene) (defScope s_l_scene) [] [] f fd) (f_isinstance : mg ("isinstance" : Str) = none) (f_list : mg ("list" : Str) = none) (f_tuple : mg ("tuple" : Str) = none) (isf : IsF (gx K cl fa).toGx0 clt) (c_l_box : Cal P w K mg base ("_law_box" : Str) 1 [("_law_cell_here" : Str)] (SpF (gx K cl fa) [.sh] (.ow 0) (F_l_box clt))) (c_l_handed : Cal P w K mg base ("_law_handed" : Str) 2 [("_law_box_here" : Str), ("_law_lists_here" : Str)] (SpF (gx K cl fa) [.ow 0, .sh] (.ow 1) (F_l_handed_k16 clt))) (c_l_lists : Cal P w K mg base ("_law_lists" : Str) 3 [("_law_box_here" : Str), ("_law_names_here" : Str)] (SpF (gx K cl fa) [.ow 0, .sh] .sh (F_l_lists clt))) (c_l_names : Cal P w K mg base ("_law_names" : Str) 2 [("_law_box_here" : Str), ("_law_many" : Str)] (SpF (gx K cl fa) [.ow 0, .sh] .sh (F_l_names clt))) (c_l_take : Cal P w K mg base ("_law_take" : Str) 1 [("_law_box_here" : Str), ("_law_many" : Str)] (SpF (gx K cl fa) [.ow 0, .sh] .sh (F_l_take_k54 clt))) (k_Marks_d_initd_ : CalK P w K mg base ("Marks" : Str) (cl 20) 5 [("self" : Str), ("names" : Str), ("ahead" : Str), ("behind" : Str)] (SpG (gx K cl fa) [.ow (.ob []), .sh, .sh, .sh] [.ow (.ob [some 0, some 1]), .un, .un, .un] .sh (F_Marks_d_initd__k16 clt))) :
  FnG P w K mg base (L2.CX P w) 7 f fd [("_law_cell_here" : Str)] (SpF (gx K cl fa) [.sh] .sh (F_l_scene clt)) :=
  have nd : List.Nodup [("_law_cell_here" : Str), ("_law_box_here" : Str), ("_law_names_here" : Str), ("_law_ahead" : Str), ("_law_behind" : Str), ("_law_handed_here" : Str), ("_law_called" : Str), ("_law_marks" : Str), ("_law_lists_here" : Str), ("_law_row" : Str)] := sc_l_scene.nd
  fn_ok cl fa [.sh] .sh F sc_l_scene rfl (by decide) (κe := [.sh, .un, .un, .un, .un, .un, .un, .un, .un, .un]) (by rfl) (by intro _ h; cases h) fun cdv A outer s H E gd hr =>
 lx_cons (κ1 := [.sh, .ow 0, .un, .un, .un, .un, .un, .un, .un, .un]) (Sx.cv (sx_asg (ex_c c_l_box (hr.mono (by decide)) (ax_cons (ex_var 0 rfl (.inl rfl) rfl) (ax_nil))) (gt_name 1 nd rfl (.inl rfl))) rfl)
 (lx_cons (κ1 := [.sh, .ow 0, .sh, .un, .un, .un, .un, .un, .un, .un]) (Sx.cv (sx_asg (ex_c c_l_names (hr.mono (by decide)) (ax_ioL 1 0 rfl (.inl rfl) rfl (ax_cons (ex_c c_l_take (hr.mono (by decide)) (ax_io 1 0 rfl (.inl rfl) rfl (ax_cons (ex_int) (ax_nil)))) (ax_nil)) rfl)) (gt_name 2 nd rfl (.inl rfl))) rfl)
 (lx_cons (κ1 := [.sh, .ow 0, .sh, .sh, .sh, .un, .un, .un, .un, .un]) (Sx.cv (sx_par 3 4 nd rfl rfl (ax_cons (ex_c c_l_lists (hr.mono (by decide)) (ax_io 1 0 rfl (.inl rfl) rfl (ax_cons (ex_var 2 rfl (.inl rfl) rfl) (ax_nil)))) (ax_cons (ex_c c_l_lists (hr.mono (by decide)) (ax_io 1 0 rfl (.inl rfl) rfl (ax_cons (ex_var 2 rfl (.inl rfl) rfl) (ax_nil)))) (ax_nil)))) rfl)
 (lx_cons (κ1 := [.sh, .ow 0, .sh, .sh, .sh, .ow 2, .un, .un, .un, .un]) (Sx.cv (sx_asg (ex_lstO 1 2 (ao_cons (some 1) (ex_c c_l_handed (hr.mono (by decide)) (ax_io 1 0 rfl (.inl rfl) rfl (ax_cons (ex_var 3 rfl (.inl rfl) rfl) (ax_nil)))) (ao_cons (some 1) (ex_c c_l_handed (hr.mono (by decide)) (ax_io 1 0 rfl (.inl rfl) rfl (ax_cons (ex_var 4 rfl (.inl rfl) rfl) (ax_nil)))) (ao_nil)))) (gt_name 5 nd rfl (.inl rfl))) rfl)
 (lx_cons (κ1 := [.sh, .ow 0, .sh, .sh, .sh, .ow 2, .ow 0, .un, .un, .un]) (Sx.cv (sx_asg (ex_pickO 0 (ex_lstO 0 2 (ao_cons (some 0) (ex_list rfl f_list (ev_cons (ex_var 2 rfl (.inl rfl) rfl) (ev_nil))) (ao_cons (some 0) (ex_leafO 0 (ex_tuple rfl f_tuple (ev_cons (ex_var 2 rfl (.inl rfl) rfl) (ev_nil)))) ao_nil))) (ex_c c_l_take (hr.mono (by decide)) (ax_io 1 0 rfl (.inl rfl) rfl (ax_cons (ex_int) (ax_nil))))) (gt_name 6 nd rfl (.inl rfl))) rfl)
 (lx_viewB (κ := [.sh, .ow 0, .sh, .sh, .sh, .ow 2, .ow 0, .un, .un, .un]) (κf := [.sh, .sh, .sh, .sh, .sh, .sh, .sh, .un, .un, .un]) (κ' := [.sh, .sh, .sh, .sh, .sh, .sh, .sh, .ow (.ob [some 0, some 1]), .un, .un]) (κ2 := [.sh, .ow 0, .sh, .sh, .sh, .ow 2, .ow 0, .ow (.ob [some 0, some 1]), .un, .un]) [7] [.sh, .sh, .sh, .sh, .sh, .sh, .sh, .un, .un, .un] [.un, .un, .un, .un, .un, .un, .un, .ow (.ob [some 0, some 1]), .un, .un] (vx_cons (κ1 := [.sh, .sh, .sh, .sh, .sh, .sh, .sh, .ow (.ob [some 0, some 1]), .un, .un]) (Sx.cv (sx_asg (ex_make k_Marks_d_initd_ (hr.mono (by decide)) (ax_cons (ex_var 6 rfl (.inl rfl) rfl) (ax_cons (ex_sub' hr (ev_cons (ex_var 5 rfl (.inl rfl) rfl) (ev_cons (ex_int) (ev_nil)))) (ax_cons (ex_sub' hr (ev_cons (ex_var 5 rfl (.inl rfl) rfl) (ev_cons (ex_int) (ev_nil)))) (ax_nil))))) (gt_name 7 nd rfl (.inl rfl))) rfl)
 (vx_nil))
 (lx_cons (κ1 := [.sh, .ow 0, .sh, .sh, .sh, .ow 2, .ow 0, .ow (.ob [some 0, some 1]), .un, .un]) (Sx.cv (sx_if (tx_val (ex_isi2 (κ1 := [.sh, .ow 0, .sh, .sh, .sh, .ow 2, .un, .ow (.ob [some 0, some 1]), .un, .un]) isf rfl f_isinstance (ev_io 6 0 rfl (.inl rfl) rfl (ev_cons ((ex_ty rfl f_list (by decide +kernel))) (ev_nil)))))
 (lx_cons (κ1 := [.sh, .ow 0, .sh, .sh, .sh, .ow 2, .ow 0, .ow (.ob [some 0, some 1]), .un, .un]) (Sx.cv (sx_exp (ex_append 6 rfl (.inl rfl) rfl (ev_cons (ex_str) ev_nil))) rfl)
 (lx_nil))
 (lx_nil)) rfl)
 (lx_cons (κ1 := [.sh, .ow 0, .sh, .sh, .sh, .un, .ow 0, .ow (.ob [some 0, some 1]), .un, .un]) (Sx.cv (sx_empty 5 8 9 nd rfl (.inl rfl) rfl rfl (.inl rfl) (.inl rfl) rfl (.inl rfl) (.inl rfl) (by rfl) f_isinstance (by rfl) f_list) rfl)
 (lx_cons (sx_ret (Ex.frz (ex_lst (ax_cons (ex_share 7 (.ob [some 0, some 1]) rfl (.inl rfl) rfl) (ax_cons (ex_var 2 rfl (.inl rfl) rfl) (ax_cons (ex_var 3 rfl (.inl rfl) rfl) (ax_cons (ex_var 4 rfl (.inl rfl) rfl) (ax_cons (ex_c c_l_take (hr.mono (by decide)) (ax_io 1 0 rfl (.inl rfl) rfl (ax_cons (ex_int) (ax_nil)))) (ax_nil)))))))) rfl) (lx_nil)))))))))
theorem ok_l_scene {f : Addr} {fd : FuncData} (F : FunD K ("_law_scene" : Str) ("_law_scene" : Str) (defArgs s_l_scene) (defBody s_l_scene) (defScope s_l_scene) [] [] f fd) (hm : mg ("_law_scene" : Str) = some (.ref f)) (f_isinstance : mg ("isinstance" : Str) = none) (f_list : mg ("list" : Str) = none) (f_tuple : mg ("tuple" : Str) = none) (isf : IsF (gx K cl fa).toGx0 clt) (c_l_box : Cal P w K mg base ("_law_box" : Str) 1 [("_law_cell_here" : Str)] (SpF (gx K cl fa) [.sh] (.ow 0) (F_l_box clt))) (c_l_handed : Cal P w K mg base ("_law_handed" : Str) 2 [("_law_box_here" : Str), ("_law_lists_here" : Str)] (SpF (gx K cl fa) [.ow 0, .sh] (.ow 1) (F_l_handed_k16 clt))) (c_l_lists : Cal P w K mg base ("_law_lists" : Str) 3 [("_law_box_here" : Str), ("_law_names_here" : Str)] (SpF (gx K cl fa) [.ow 0, .sh] .sh (F_l_lists clt))) (c_l_names : Cal P w K mg base ("_law_names" : Str) 2 [("_law_box_here" : Str), ("_law_many" : Str)] (SpF (gx K cl fa) [.ow 0, .sh] .sh (F_l_names clt))) (c_l_take : Cal P w K mg base ("_law_take" : Str) 1 [("_law_box_here" : Str), ("_law_many" : Str)] (SpF (gx K cl fa) [.ow 0, .sh] .sh (F_l_take_k54 clt))) (k_Marks_d_initd_ : CalK P w K mg base ("Marks" : Str) (cl 20) 5 [("self" : Str), ("names" : Str), ("ahead" : Str), ("behind" : Str)] (SpG (gx K cl fa) [.ow (.ob []), .sh, .sh, .sh] [.ow (.ob [some 0, some 1]), .un, .un, .un] .sh (F_Marks_d_initd__k16 clt))) :
  Cal P w K mg base ("_law_scene" : Str) 7 [("_law_cell_here" : Str)] (SpF (gx K cl fa) [.sh] .sh (F_l_scene clt)) :=
  Cal.mk' F hm (fk_l_scene F f_isinstance f_list f_tuple isf c_l_box c_l_handed c_l_lists c_l_names c_l_take k_Marks_d_initd_) (fun _ _ _ _ _ _ us hl => match us, hl with | [_], _ => rfl)
theorem sc_l_cell : FnScope [("_law_script" : Str), ("_law_k" : Str)] [("_law_script" : Str), ("_law_k" : Str)] (defScope s_l_cell) := ⟨rfl, rfl, rfl, by decide +kernel, rfl, by decide +kernel, by decide +kernel⟩
theorem fk_l_cell {f : Addr} {fd : FuncData} (F : FunD K ("_law_cell" : Str) ("_law_cell" : Str) (defArgs s_l_cell) (defBody s_l_cell) (defScope s_l_cell) [] [] f fd) (f_len : mg ("len" : Str) = none) :
  FnG P w K mg base (L2.CX P w) 1 f fd [("_law_script" : Str), ("_law_k" : Str)] (SpF (gx K cl fa) [.sh, .sh] .sh (F_l_cell clt)) :=
  have nd : List.Nodup [("_law_script" : Str), ("_law_k" : Str)] := sc_l_cell.nd
  fn_ok cl fa [.sh, .sh] .sh F sc_l_cell rfl (by decide) (κe := [.sh, .sh]) (by rfl) (by intro _ h; cases h) fun cdv A outer s H E gd hr =>
 lx_cons (κ1 := [.sh, .sh]) (Sx.cv (sx_if (tx_cs cs_lt (ev_cons (ex_var 1 rfl (.inl rfl) rfl) (ev_cons (ex_len2 rfl f_len (ev_cons (ex_var 0 rfl (.inl rfl) rfl) (ev_nil))) (ev_nil))))
 (lx_cons (sx_ret (ex_sub' hr (ev_cons (ex_var 0 rfl (.inl rfl) rfl) (ev_cons (ex_var 1 rfl (.inl rfl) rfl) (ev_nil)))) rfl) (lx_nil))
 (lx_nil)) rfl)
 (lx_cons (sx_ret (ex_add (ev_cons (ex_mul (ev_cons (ex_int) (ev_cons (ex_var 1 rfl (.inl rfl) rfl) (ev_nil)))) (ev_cons (ex_int) (ev_nil)))) rfl) (lx_nil))
theorem ok_l_cell {f : Addr} {fd : FuncData} (F : FunD K ("_law_cell" : Str) ("_law_cell" : Str) (defArgs s_l_cell) (defBody s_l_cell) (defScope s_l_cell) [] [] f fd) (hm : mg ("_law_cell" : Str) = some (.ref f)) (f_len : mg ("len" : Str) = none) :
  Cal P w K mg base ("_law_cell" : Str) 1 [("_law_script" : Str), ("_law_k" : Str)] (SpF (gx K cl fa) [.sh, .sh] .sh (F_l_cell clt)) :=
  Cal.mk' F hm (fk_l_cell F f_len) (fun _ _ _ _ _ _ us hl => match us, hl with | [_, _], _ => rfl)
theorem sc_Marks_need_name : FnScope [("self" : Str), ("name" : Str)] [("self" : Str), ("name" : Str)] (defScope s_Marks_need_name) := ⟨rfl, rfl, rfl, by decide +kernel, rfl, by decide +kernel, by decide +kernel⟩
theorem fk_Marks_need_name {f : Addr} {fd : FuncData} (F : FunD K ("need_name" : Str) ("Marks.need_name" : Str) (defArgs s_Marks_need_name) (defBody s_Marks_need_name) (defScope s_Marks_need_name) [] [] f fd) (f_isinstance : mg ("isinstance" : Str) = none) (f_str : mg ("str" : Str) = none) (isf : IsF (gx K cl fa).toGx0 clt) (o_Marks_called : FldOk (gx K cl fa) [20] ("called" : Str)) (x_NoPlace : ExC P w K mg base ("NoPlace" : Str) (cl 2) [("found" : Str)]) :
  FnG P w K mg base (L2.CX P w) 3 f fd [("self" : Str), ("name" : Str)] (SpF (gx K cl fa) [.sh, .sh] .sh (F_Marks_need_name clt)) :=
  have nd : List.Nodup [("self" : Str), ("name" : Str)] := sc_Marks_need_name.nd
  fn_ok cl fa [.sh, .sh] .sh F sc_Marks_need_name rfl (by decide) (κe := [.sh, .sh]) (by rfl) (by intro _ h; cases h) fun cdv A outer s H E gd hr =>
 lx_cons (κ1 := [.sh, .sh]) (Sx.cv (sx_if (Wx.tx (wx_or (tx_not (tx_val (ex_isi2 isf rfl f_isinstance (ev_cons (ex_var 1 rfl (.inl rfl) rfl) (ev_cons ((ex_ty rfl f_str (by decide +kernel))) (ev_nil)))))) (wx_or1 (tx_cs (cs_notIn2 hr) (ev_cons (ex_var 1 rfl (.inl rfl) rfl) (ev_cons (ex_fld o_Marks_called (ev_cons (ex_var 0 rfl (.inl rfl) rfl) (ev_nil))) (ev_nil)))))))
 (lx_cons (sx_raise x_NoPlace hr (ax_cons (ex_var 1 rfl (.inl rfl) rfl) (ax_nil))) (lx_nil))
 (lx_nil)) rfl)
 (lx_nil)
theorem ok_Marks_need_name {f : Addr} {fd : FuncData} (F : FunD K ("need_name" : Str) ("Marks.need_name" : Str) (defArgs s_Marks_need_name) (defBody s_Marks_need_name) (defScope s_Marks_need_name) [] [] f fd) (hC : Cls K (cl 20)) (hm : Meth K (cl 20) ("need_name" : Str) f) (f_isinstance : mg ("isinstance" : Str) = none) (f_str : mg ("str" : Str) = none) (isf : IsF (gx K cl fa).toGx0 clt) (o_Marks_called : FldOk (gx K cl fa) [20] ("called" : Str)) (x_NoPlace : ExC P w K mg base ("NoPlace" : Str) (cl 2) [("found" : Str)]) :
  CalM P w K mg base (cl 20) ("need_name" : Str) 3 [("self" : Str), ("name" : Str)] (SpF (gx K cl fa) [.sh, .sh] .sh (F_Marks_need_name clt)) :=
  ⟨f, fd, fk_Marks_need_name F f_isinstance f_str isf o_Marks_called x_NoPlace, hC, hm, F.bindsN (fun _ _ _ _ _ _ us hl => match us, hl with | [_, _], _ => rfl)⟩
theorem sc_Marks_meeting : FnScope [("self" : Str), ("one" : Str), ("other" : Str), ("here" : Str), ("there" : Str), ("name" : Str)] [("self" : Str), ("one" : Str), ("other" : Str)] (defScope s_Marks_meeting) := ⟨rfl, rfl, rfl, by decide +kernel, rfl, by decide +kernel, by decide +kernel⟩
theorem fk_Marks_meeting {f : Addr} {fd : FuncData} (F : FunD K ("meeting" : Str) ("Marks.meeting" : Str) (defArgs s_Marks_meeting) (defBody s_Marks_meeting) (defScope s_Marks_meeting) [] [] f fd) (o_Marks_called : FldOk (gx K cl fa) [20] ("called" : Str)) (o_Marks_sides : FldOk (gx K cl fa) [20] ("sides" : Str)) (m_Marks_need_name : CalM P w K mg base (cl 20) ("need_name" : Str) 3 [("self" : Str), ("name" : Str)] (SpF (gx K cl fa) [.sh, .sh] .sh (F_Marks_need_name clt))) :
  FnG P w K mg base (L2.CX P w) 4 f fd [("self" : Str), ("one" : Str), ("other" : Str)] (SpF (gx K cl fa) [.sh, .sh, .sh] (.ow 0) (F_Marks_meeting clt)) :=
  have nd : List.Nodup [("self" : Str), ("one" : Str), ("other" : Str), ("here" : Str), ("there" : Str), ("name" : Str)] := sc_Marks_meeting.nd
  fn_ok cl fa [.sh, .sh, .sh] (.ow 0) F sc_Marks_meeting rfl (by decide) (κe := [.sh, .sh, .sh, .un, .un, .un]) (by rfl) (by intro _ h; cases h) fun cdv A outer s H E gd hr =>
 lx_cons (κ1 := [.sh, .sh, .sh, .un, .un, .un]) (Sx.cv (sx_exp (ex_meth m_Marks_need_name (hr.mono (by decide)) (ex_var 0 rfl (.inl rfl) rfl) (ax_cons (ex_var 1 rfl (.inl rfl) rfl) (ax_nil)))) rfl)
 (lx_cons (κ1 := [.sh, .sh, .sh, .un, .un, .un]) (Sx.cv (sx_exp (ex_meth m_Marks_need_name (hr.mono (by decide)) (ex_var 0 rfl (.inl rfl) rfl) (ax_cons (ex_var 2 rfl (.inl rfl) rfl) (ax_nil)))) rfl)
 (lx_cons (κ1 := [.sh, .sh, .sh, .sh, .sh, .un]) (Sx.cv (sx_asg (ex_tup (ax_cons (ex_sub' hr (ev_cons (ex_sub' hr (ev_cons (ex_fld o_Marks_sides (ev_cons (ex_var 0 rfl (.inl rfl) rfl) (ev_nil))) (ev_cons (ex_str) (ev_nil)))) (ev_cons (ex_var 1 rfl (.inl rfl) rfl) (ev_nil)))) (ax_cons (ex_sub' hr (ev_cons (ex_sub' hr (ev_cons (ex_fld o_Marks_sides (ev_cons (ex_var 0 rfl (.inl rfl) rfl) (ev_nil))) (ev_cons (ex_str) (ev_nil)))) (ev_cons (ex_var 2 rfl (.inl rfl) rfl) (ev_nil)))) (ax_nil)))) (gt_tup (gts_cons (gt_name 3 nd rfl (.inr rfl)) (gts_cons (gt_name 4 nd rfl (.inr rfl)) (gts_nil))))) rfl)
 (lx_cons (sx_ret (ex_lc (κb := [.sh, .sh, .sh, .sh, .sh, .un]) (own := [(("name" : Str), 5)]) nd (ixq (ex_fld o_Marks_called (ev_cons (ex_var 0 rfl (.inl rfl) rfl) (ev_nil)))) (blkOk_by (by rfl)) (fun _ _ _ _ _ => gt_name 5 nd rfl (by first | exact .inl rfl | exact .inr rfl)) (fun _ _ _ _ _ => cx_one (Wx.tx (wx_and (tx_cs (cs_in2 hr) (ev_cons (ex_var 5 rfl (by first | exact .inl rfl | exact .inr (.inl rfl) | exact .inr (.inr rfl)) rfl) (ev_cons (ex_var 3 rfl (by first | exact .inl rfl | exact .inr (.inl rfl) | exact .inr (.inr rfl)) rfl) (ev_nil)))) (wx_and1 (tx_cs (cs_in2 hr) (ev_cons (ex_var 5 rfl (by first | exact .inl rfl | exact .inr (.inl rfl) | exact .inr (.inr rfl)) rfl) (ev_cons (ex_var 4 rfl (by first | exact .inl rfl | exact .inr (.inl rfl) | exact .inr (.inr rfl)) rfl) (ev_nil)))))))) (fun _ _ _ _ _ => ex_var 5 rfl (by first | exact .inl rfl | exact .inr (.inl rfl) | exact .inr (.inr rfl)) rfl)) rfl) (lx_nil))))
theorem ok_Marks_meeting {f : Addr} {fd : FuncData} (F : FunD K ("meeting" : Str) ("Marks.meeting" : Str) (defArgs s_Marks_meeting) (defBody s_Marks_meeting) (defScope s_Marks_meeting) [] [] f fd) (hC : Cls K (cl 20)) (hm : Meth K (cl 20) ("meeting" : Str) f) (o_Marks_called : FldOk (gx K cl fa) [20] ("called" : Str)) (o_Marks_sides : FldOk (gx K cl fa) [20] ("sides" : Str)) (m_Marks_need_name : CalM P w K mg base (cl 20) ("need_name" : Str) 3 [("self" : Str), ("name" : Str)] (SpF (gx K cl fa) [.sh, .sh] .sh (F_Marks_need_name clt))) :
  CalM P w K mg base (cl 20) ("meeting" : Str) 4 [("self" : Str), ("one" : Str), ("other" : Str)] (SpF (gx K cl fa) [.sh, .sh, .sh] (.ow 0) (F_Marks_meeting clt)) :=
  ⟨f, fd, fk_Marks_meeting F o_Marks_called o_Marks_sides m_Marks_need_name, hC, hm, F.bindsN (fun _ _ _ _ _ _ us hl => match us, hl with | [_, _, _], _ => rfl)⟩
theorem sc_Marks_tells : FnScope [("self" : Str), ("one" : Str), ("other" : Str)] [("self" : Str), ("one" : Str), ("other" : Str)] (defScope s_Marks_tells) := ⟨rfl, rfl, rfl, by decide +kernel, rfl, by decide +kernel, by decide +kernel⟩
theorem fk_Marks_tells {f : Addr} {fd : FuncData} (F : FunD K ("tells" : Str) ("Marks.tells" : Str) (defArgs s_Marks_tells) (defBody s_Marks_tells) (defScope s_Marks_tells) [] [] f fd) (m_Marks_meeting : CalM P w K mg base (cl 20) ("meeting" : Str) 4 [("self" : Str), ("one" : Str), ("other" : Str)] (SpF (gx K cl fa) [.sh, .sh, .sh] (.ow 0) (F_Marks_meeting clt))) :
  FnG P w K mg base (L2.CX P w) 5 f fd [("self" : Str), ("one" : Str), ("other" : Str)] (SpF (gx K cl fa) [.sh, .sh, .sh] .sh (F_Marks_tells clt)) :=
  have nd : List.Nodup [("self" : Str), ("one" : Str), ("other" : Str)] := sc_Marks_tells.nd
  fn_ok cl fa [.sh, .sh, .sh] .sh F sc_Marks_tells rfl (by decide) (κe := [.sh, .sh, .sh]) (by rfl) (by intro _ h; cases h) fun cdv A outer s H E gd hr =>
 lx_cons (sx_ret (ex_cs (cs_ne hr) (ev_cons (Ex.frz (ex_meth m_Marks_meeting (hr.mono (by decide)) (ex_var 0 rfl (.inl rfl) rfl) (ax_cons (ex_var 1 rfl (.inl rfl) rfl) (ax_cons (ex_var 2 rfl (.inl rfl) rfl) (ax_nil))))) (ev_cons (Ex.frz (ex_lst (ax_nil))) (ev_nil)))) rfl) (lx_nil)
theorem ok_Marks_tells {f : Addr} {fd : FuncData} (F : FunD K ("tells" : Str) ("Marks.tells" : Str) (defArgs s_Marks_tells) (defBody s_Marks_tells) (defScope s_Marks_tells) [] [] f fd) (hC : Cls K (cl 20)) (hm : Meth K (cl 20) ("tells" : Str) f) (m_Marks_meeting : CalM P w K mg base (cl 20) ("meeting" : Str) 4 [("self" : Str), ("one" : Str), ("other" : Str)] (SpF (gx K cl fa) [.sh, .sh, .sh] (.ow 0) (F_Marks_meeting clt))) :
  CalM P w K mg base (cl 20) ("tells" : Str) 5 [("self" : Str), ("one" : Str), ("other" : Str)] (SpF (gx K cl fa) [.sh, .sh, .sh] .sh (F_Marks_tells clt)) :=
  ⟨f, fd, fk_Marks_tells F m_Marks_meeting, hC, hm, F.bindsN (fun _ _ _ _ _ _ us hl => match us, hl with | [_, _, _], _ => rfl)⟩
theorem sc_l_met_right : FnScope [("_law_marks" : Str), ("_law_names_here" : Str), ("_law_ahead" : Str), ("_law_behind" : Str), ("_law_one" : Str), ("_law_other" : Str), ("_law_due" : Str), ("_law_found" : Str), ("_law_truth" : Str), ("_law_name" : Str)] [("_law_marks" : Str), ("_law_names_here" : Str), ("_law_ahead" : Str), ("_law_behind" : Str)] (defScope s_l_met_right) := ⟨rfl, rfl, rfl, by decide +kernel, rfl, by decide +kernel, by decide +kernel⟩
theorem fk_l_met_right {f : Addr} {fd : FuncData} (F : FunD K ("_law_met_right" : Str) ("_law_met_right" : Str) (defArgs s_l_met_right) (defBody s_l_met_right) (defScope s_l_met_right) [] [] f fd) (f_bool : mg ("bool" : Str) = none) (f_isinstance : mg ("isinstance" : Str) = none) (f_list : mg ("list" : Str) = none) (isf : IsF (gx K cl fa).toGx0 clt) (m_Marks_meeting : CalM P w K mg base (cl 20) ("meeting" : Str) 4 [("self" : Str), ("one" : Str), ("other" : Str)] (SpF (gx K cl fa) [.sh, .sh, .sh] (.ow 0) (F_Marks_meeting clt))) (m_Marks_tells : CalM P w K mg base (cl 20) ("tells" : Str) 5 [("self" : Str), ("one" : Str), ("other" : Str)] (SpF (gx K cl fa) [.sh, .sh, .sh] .sh (F_Marks_tells clt))) :
  FnG P w K mg base (L2.CX P w) 6 f fd [("_law_marks" : Str), ("_law_names_here" : Str), ("_law_ahead" : Str), ("_law_behind" : Str)] (SpF (gx K cl fa) [.sh, .sh, .sh, .sh] .sh (F_l_met_right clt)) :=
  have nd : List.Nodup [("_law_marks" : Str), ("_law_names_here" : Str), ("_law_ahead" : Str), ("_law_behind" : Str), ("_law_one" : Str), ("_law_other" : Str), ("_law_due" : Str), ("_law_found" : Str), ("_law_truth" : Str), ("_law_name" : Str)] := sc_l_met_right.nd
  fn_ok cl fa [.sh, .sh, .sh, .sh] .sh F sc_l_met_right rfl (by decide) (κe := [.sh, .sh, .sh, .sh, .un, .un, .un, .un, .un, .un]) (by rfl) (by intro _ h; cases h) fun cdv A outer s H E gd hr =>
 lx_cons (κ1 := [.sh, .sh, .sh, .sh, .un, .un, .un, .un, .un, .un]) (Sx.cv (sx_for (κ1 := [.sh, .sh, .sh, .sh, .un, .un, .un, .un, .un, .un]) (κ2 := [.sh, .sh, .sh, .sh, .sh, .un, .un, .un, .un, .un]) (ixq (ex_var 1 rfl (.inl rfl) rfl)) (gt_name 4 nd rfl (.inr rfl)) rfl
 (Lx.weakF (κ' := [.sh, .sh, .sh, .sh, .un, .un, .un, .un, .un, .un]) (lx_cons (κ1 := [.sh, .sh, .sh, .sh, .sh, .un, .un, .un, .un, .un]) (Sx.cv (sx_for (κ1 := [.sh, .sh, .sh, .sh, .sh, .un, .un, .un, .un, .un]) (κ2 := [.sh, .sh, .sh, .sh, .sh, .sh, .un, .un, .un, .un]) (ixq (ex_var 1 rfl (.inl rfl) rfl)) (gt_name 5 nd rfl (.inr rfl)) rfl
 (Lx.weakF (κ' := [.sh, .sh, .sh, .sh, .sh, .un, .un, .un, .un, .un]) (lx_cons (κ1 := [.sh, .sh, .sh, .sh, .sh, .sh, .ow 0, .un, .un, .un]) (Sx.cv (sx_setLc (i := 6) (κb := [.sh, .sh, .sh, .sh, .sh, .sh, .un, .un, .un, .un]) (own := [(("_law_name" : Str), 9)]) nd rfl rfl rfl (ixq (ex_var 1 rfl (.inl rfl) rfl)) (blkOk_by (by rfl)) (fun _ _ _ _ _ => gt_name 9 nd rfl (by first | exact .inl rfl | exact .inr rfl)) (fun _ _ _ _ _ => cx_one (Wx.tx (wx_and (tx_cs (cs_in2 hr) (ev_cons (ex_var 9 rfl (by first | exact .inl rfl | exact .inr (.inl rfl) | exact .inr (.inr rfl)) rfl) (ev_cons (ex_sub' hr (ev_cons (ex_var 2 rfl (by first | exact .inl rfl | exact .inr (.inl rfl) | exact .inr (.inr rfl)) rfl) (ev_cons (ex_var 4 rfl (by first | exact .inl rfl | exact .inr (.inl rfl) | exact .inr (.inr rfl)) rfl) (ev_nil)))) (ev_nil)))) (wx_and1 (tx_cs (cs_in2 hr) (ev_cons (ex_var 9 rfl (by first | exact .inl rfl | exact .inr (.inl rfl) | exact .inr (.inr rfl)) rfl) (ev_cons (ex_sub' hr (ev_cons (ex_var 3 rfl (by first | exact .inl rfl | exact .inr (.inl rfl) | exact .inr (.inr rfl)) rfl) (ev_cons (ex_var 5 rfl (by first | exact .inl rfl | exact .inr (.inl rfl) | exact .inr (.inr rfl)) rfl) (ev_nil)))) (ev_nil)))))))) (fun _ _ _ _ _ => ex_var 9 rfl (by first | exact .inl rfl | exact .inr (.inl rfl) | exact .inr (.inr rfl)) rfl)) rfl)
 (lx_cons (κ1 := [.sh, .sh, .sh, .sh, .sh, .sh, .ow 0, .ow 0, .un, .un]) (Sx.cv (sx_asg (ex_meth m_Marks_meeting (hr.mono (by decide)) (ex_var 0 rfl (.inl rfl) rfl) (ax_cons (ex_var 4 rfl (.inr (.inl rfl)) rfl) (ax_cons (ex_var 5 rfl (.inr (.inl rfl)) rfl) (ax_nil)))) (gt_name 7 nd rfl (.inl rfl))) rfl)
 (lx_cons (κ1 := [.sh, .sh, .sh, .sh, .sh, .sh, .ow 0, .ow 0, .sh, .un]) (Sx.cv (sx_asg (ex_meth m_Marks_tells (hr.mono (by decide)) (ex_var 0 rfl (.inl rfl) rfl) (ax_cons (ex_var 4 rfl (.inr (.inl rfl)) rfl) (ax_cons (ex_var 5 rfl (.inr (.inl rfl)) rfl) (ax_nil)))) (gt_name 8 nd rfl (.inl rfl))) rfl)
 (lx_cons (κ1 := [.sh, .sh, .sh, .sh, .sh, .sh, .ow 0, .ow 0, .sh, .un]) (Sx.cv (sx_if (Wx.tx (wx_or (tx_not (tx_val (ex_isi2 (κ1 := [.sh, .sh, .sh, .sh, .sh, .sh, .ow 0, .un, .sh, .un]) isf rfl f_isinstance (ev_io 7 0 rfl (.inl rfl) rfl (ev_cons ((ex_ty rfl f_list (by decide +kernel))) (ev_nil)))))) (wx_or (tx_cs (κ1 := [.sh, .sh, .sh, .sh, .sh, .sh, .un, .un, .sh, .un]) (cs_ne hr) (ev_io 7 0 rfl (.inl rfl) rfl (ev_io 6 0 rfl (.inl rfl) rfl (ev_nil)))) (wx_or (tx_not (tx_val (ex_isi2 isf rfl f_isinstance (ev_cons (ex_var 8 rfl (.inl rfl) rfl) (ev_cons ((ex_ty rfl f_bool (by decide +kernel))) (ev_nil)))))) (wx_or1 (tx_cs (cs_ne hr) (ev_cons (ex_var 8 rfl (.inl rfl) rfl) (ev_cons (ex_cs (κ1 := [.sh, .sh, .sh, .sh, .sh, .sh, .un, .ow 0, .sh, .un]) (cs_ne hr) (ev_io 6 0 rfl (.inl rfl) rfl (ev_cons (Ex.frz (ex_lst (ax_nil))) (ev_nil)))) (ev_nil)))))))))
 (lx_cons (sx_ret (ex_bl) rfl) (lx_nil))
 (lx_nil)) rfl)
 (lx_cons (κ1 := [.sh, .sh, .sh, .sh, .sh, .sh, .ow 0, .ow 0, .sh, .un]) (Sx.cv (sx_exp (ex_append 7 rfl (.inl rfl) rfl (ev_cons (ex_var 4 rfl (.inr (.inl rfl)) rfl) ev_nil))) rfl)
 (lx_cons (κ1 := [.sh, .sh, .sh, .sh, .sh, .sh, .ow 0, .ow 0, .sh, .un]) (Sx.cv (sx_if (tx_cs (κ1 := [.sh, .sh, .sh, .sh, .sh, .sh, .un, .ow 0, .sh, .un]) (cs_ne hr) (ev_cons (Ex.frz (ex_meth m_Marks_meeting (hr.mono (by decide)) (ex_var 0 rfl (.inl rfl) rfl) (ax_cons (ex_var 4 rfl (.inr (.inl rfl)) rfl) (ax_cons (ex_var 5 rfl (.inr (.inl rfl)) rfl) (ax_nil))))) (ev_io 6 0 rfl (.inl rfl) rfl (ev_nil))))
 (lx_cons (sx_ret (ex_bl) rfl) (lx_nil))
 (lx_nil)) rfl)
 (lx_nil))))))) rfl)) rfl)
 (lx_nil)) rfl)) rfl)
 (lx_cons (sx_ret (ex_bl) rfl) (lx_nil))
theorem ok_l_met_right {f : Addr} {fd : FuncData} (F : FunD K ("_law_met_right" : Str) ("_law_met_right" : Str) (defArgs s_l_met_right) (defBody s_l_met_right) (defScope s_l_met_right) [] [] f fd) (hm : mg ("_law_met_right" : Str) = some (.ref f)) (f_bool : mg ("bool" : Str) = none) (f_isinstance : mg ("isinstance" : Str) = none) (f_list : mg ("list" : Str) = none) (isf : IsF (gx K cl fa).toGx0 clt) (m_Marks_meeting : CalM P w K mg base (cl 20) ("meeting" : Str) 4 [("self" : Str), ("one" : Str), ("other" : Str)] (SpF (gx K cl fa) [.sh, .sh, .sh] (.ow 0) (F_Marks_meeting clt))) (m_Marks_tells : CalM P w K mg base (cl 20) ("tells" : Str) 5 [("self" : Str), ("one" : Str), ("other" : Str)] (SpF (gx K cl fa) [.sh, .sh, .sh] .sh (F_Marks_tells clt))) :
  Cal P w K mg base ("_law_met_right" : Str) 6 [("_law_marks" : Str), ("_law_names_here" : Str), ("_law_ahead" : Str), ("_law_behind" : Str)] (SpF (gx K cl fa) [.sh, .sh, .sh, .sh] .sh (F_l_met_right clt)) :=
  Cal.mk' F hm (fk_l_met_right F f_bool f_isinstance f_list isf m_Marks_meeting m_Marks_tells) (fun _ _ _ _ _ _ us hl => match us, hl with | [_, _, _, _], _ => rfl)
theorem sc_Marks_names : FnScope [("self" : Str)] [("self" : Str)] (defScope s_Marks_names) := ⟨rfl, rfl, rfl, by decide +kernel, rfl, by decide +kernel, by decide +kernel⟩
theorem fk_Marks_names {f : Addr} {fd : FuncData} (F : FunD K ("names" : Str) ("Marks.names" : Str) (defArgs s_Marks_names) (defBody s_Marks_names) (defScope s_Marks_names) [] [] f fd) (f_list : mg ("list" : Str) = none) (o_Marks_called : FldOk (gx K cl fa) [20] ("called" : Str)) :
  FnG P w K mg base (L2.CX P w) 1 f fd [("self" : Str)] (SpF (gx K cl fa) [.sh] (.ow 0) (F_Marks_names clt)) :=
  have nd : List.Nodup [("self" : Str)] := sc_Marks_names.nd
  fn_ok cl fa [.sh] (.ow 0) F sc_Marks_names rfl (by decide) (κe := [.sh]) (by rfl) (by intro _ h; cases h) fun cdv A outer s H E gd hr =>
 lx_cons (sx_ret (ex_list rfl f_list (ev_cons (ex_fld o_Marks_called (ev_cons (ex_var 0 rfl (.inl rfl) rfl) (ev_nil))) (ev_nil))) rfl) (lx_nil)
theorem ok_Marks_names {f : Addr} {fd : FuncData} (F : FunD K ("names" : Str) ("Marks.names" : Str) (defArgs s_Marks_names) (defBody s_Marks_names) (defScope s_Marks_names) [] [] f fd) (hC : Cls K (cl 20)) (hm : Meth K (cl 20) ("names" : Str) f) (f_list : mg ("list" : Str) = none) (o_Marks_called : FldOk (gx K cl fa) [20] ("called" : Str)) :
  CalM P w K mg base (cl 20) ("names" : Str) 1 [("self" : Str)] (SpF (gx K cl fa) [.sh] (.ow 0) (F_Marks_names clt)) :=
  ⟨f, fd, fk_Marks_names F f_list o_Marks_called, hC, hm, F.bindsN (fun _ _ _ _ _ _ us hl => match us, hl with | [_], _ => rfl)⟩
theorem sc_Marks_told : FnScope [("self" : Str), ("ahead" : Str), ("behind" : Str), ("name" : Str)] [("self" : Str)] (defScope s_Marks_told) := ⟨rfl, rfl, rfl, by decide +kernel, rfl, by decide +kernel, by decide +kernel⟩
theorem fk_Marks_told {f : Addr} {fd : FuncData} (F : FunD K ("told" : Str) ("Marks.told" : Str) (defArgs s_Marks_told) (defBody s_Marks_told) (defScope s_Marks_told) [] [] f fd) (f_tuple : mg ("tuple" : Str) = none) (o_Marks_called : FldOk (gx K cl fa) [20] ("called" : Str)) (o_Marks_sides : FldOk (gx K cl fa) [20] ("sides" : Str)) :
  FnG P w K mg base (L2.CX P w) 1 f fd [("self" : Str)] (SpF (gx K cl fa) [.sh] .sh (F_Marks_told clt)) :=
  have nd : List.Nodup [("self" : Str), ("ahead" : Str), ("behind" : Str), ("name" : Str)] := sc_Marks_told.nd
  fn_ok cl fa [.sh] .sh F sc_Marks_told rfl (by decide) (κe := [.sh, .un, .un, .un]) (by rfl) (by intro _ h; cases h) fun cdv A outer s H E gd hr =>
 lx_cons (κ1 := [.sh, .sh, .sh, .un]) (Sx.cv (sx_asg (ex_tup (ax_cons (ex_sub' hr (ev_cons (ex_fld o_Marks_sides (ev_cons (ex_var 0 rfl (.inl rfl) rfl) (ev_nil))) (ev_cons (ex_str) (ev_nil)))) (ax_cons (ex_sub' hr (ev_cons (ex_fld o_Marks_sides (ev_cons (ex_var 0 rfl (.inl rfl) rfl) (ev_nil))) (ev_cons (ex_str) (ev_nil)))) (ax_nil)))) (gt_tup (gts_cons (gt_name 1 nd rfl (.inr rfl)) (gts_cons (gt_name 2 nd rfl (.inr rfl)) (gts_nil))))) rfl)
 (lx_cons (sx_ret (ex_tuple rfl f_tuple (ev_cons (Ex.frz (ex_lc (κb := [.sh, .sh, .sh, .un]) (own := [(("name" : Str), 3)]) nd (ixq (ex_fld o_Marks_called (ev_cons (ex_var 0 rfl (.inl rfl) rfl) (ev_nil)))) (blkOk_by (by rfl)) (fun _ _ _ _ _ => gt_name 3 nd rfl (by first | exact .inl rfl | exact .inr rfl)) (fun _ _ _ _ _ => cx_nil) (fun _ _ _ _ _ => ex_tup (ax_cons (ex_var 3 rfl (by first | exact .inl rfl | exact .inr (.inl rfl) | exact .inr (.inr rfl)) rfl) (ax_cons (ex_sub' hr (ev_cons (ex_var 1 rfl (by first | exact .inl rfl | exact .inr (.inl rfl) | exact .inr (.inr rfl)) rfl) (ev_cons (ex_var 3 rfl (by first | exact .inl rfl | exact .inr (.inl rfl) | exact .inr (.inr rfl)) rfl) (ev_nil)))) (ax_cons (ex_sub' hr (ev_cons (ex_var 2 rfl (by first | exact .inl rfl | exact .inr (.inl rfl) | exact .inr (.inr rfl)) rfl) (ev_cons (ex_var 3 rfl (by first | exact .inl rfl | exact .inr (.inl rfl) | exact .inr (.inr rfl)) rfl) (ev_nil)))) (ax_nil))))))) (ev_nil))) rfl) (lx_nil))
theorem ok_Marks_told {f : Addr} {fd : FuncData} (F : FunD K ("told" : Str) ("Marks.told" : Str) (defArgs s_Marks_told) (defBody s_Marks_told) (defScope s_Marks_told) [] [] f fd) (hC : Cls K (cl 20)) (hm : Meth K (cl 20) ("told" : Str) f) (f_tuple : mg ("tuple" : Str) = none) (o_Marks_called : FldOk (gx K cl fa) [20] ("called" : Str)) (o_Marks_sides : FldOk (gx K cl fa) [20] ("sides" : Str)) :
  CalM P w K mg base (cl 20) ("told" : Str) 1 [("self" : Str)] (SpF (gx K cl fa) [.sh] .sh (F_Marks_told clt)) :=
  ⟨f, fd, fk_Marks_told F f_tuple o_Marks_called o_Marks_sides, hC, hm, F.bindsN (fun _ _ _ _ _ _ us hl => match us, hl with | [_], _ => rfl)⟩
theorem sc_Marks_total : FnScope [("self" : Str), ("name" : Str), ("ahead" : Str), ("behind" : Str)] [("self" : Str)] (defScope s_Marks_total) := ⟨rfl, rfl, rfl, by decide +kernel, rfl, by decide +kernel, by decide +kernel⟩
theorem fk_Marks_total {f : Addr} {fd : FuncData} (F : FunD K ("total" : Str) ("Marks.total" : Str) (defArgs s_Marks_total) (defBody s_Marks_total) (defScope s_Marks_total) [] [] f fd) (f_len : mg ("len" : Str) = none) (f_sum : mg ("sum" : Str) = none) (m_Marks_told : CalM P w K mg base (cl 20) ("told" : Str) 1 [("self" : Str)] (SpF (gx K cl fa) [.sh] .sh (F_Marks_told clt))) :
  FnG P w K mg base (L2.CX P w) 2 f fd [("self" : Str)] (SpF (gx K cl fa) [.sh] .sh (F_Marks_total clt)) :=
  have nd : List.Nodup [("self" : Str), ("name" : Str), ("ahead" : Str), ("behind" : Str)] := sc_Marks_total.nd
  fn_ok cl fa [.sh] .sh F sc_Marks_total rfl (by decide) (κe := [.sh, .un, .un, .un]) (by rfl) (by intro _ h; cases h) fun cdv A outer s H E gd hr =>
 lx_cons (sx_ret (ex_sum rfl f_sum (ev_cons (Ex.frz (ex_lc (κb := [.sh, .un, .un, .un]) (own := [(("name" : Str), 1), (("ahead" : Str), 2), (("behind" : Str), 3)]) nd (ixq (ex_meth0 m_Marks_told (hr.mono (by decide)) (ex_var 0 rfl (.inl rfl) rfl))) (blkOk_by (by rfl)) (fun _ _ _ _ _ => gt_tup (gts_cons (gt_name 1 nd rfl (by first | exact .inl rfl | exact .inr rfl)) (gts_cons (gt_name 2 nd rfl (by first | exact .inl rfl | exact .inr rfl)) (gts_cons (gt_name 3 nd rfl (by first | exact .inl rfl | exact .inr rfl)) (gts_nil))))) (fun _ _ _ _ _ => cx_nil) (fun _ _ _ _ _ => ex_add (ev_cons (ex_len2 rfl f_len (ev_cons (ex_var 2 rfl (by first | exact .inl rfl | exact .inr (.inl rfl) | exact .inr (.inr rfl)) rfl) (ev_nil))) (ev_cons (ex_len2 rfl f_len (ev_cons (ex_var 3 rfl (by first | exact .inl rfl | exact .inr (.inl rfl) | exact .inr (.inr rfl)) rfl) (ev_nil))) (ev_nil)))))) (ev_nil))) rfl) (lx_nil)
theorem ok_Marks_total {f : Addr} {fd : FuncData} (F : FunD K ("total" : Str) ("Marks.total" : Str) (defArgs s_Marks_total) (defBody s_Marks_total) (defScope s_Marks_total) [] [] f fd) (hC : Cls K (cl 20)) (hm : Meth K (cl 20) ("total" : Str) f) (f_len : mg ("len" : Str) = none) (f_sum : mg ("sum" : Str) = none) (m_Marks_told : CalM P w K mg base (cl 20) ("told" : Str) 1 [("self" : Str)] (SpF (gx K cl fa) [.sh] .sh (F_Marks_told clt))) :
  CalM P w K mg base (cl 20) ("total" : Str) 2 [("self" : Str)] (SpF (gx K cl fa) [.sh] .sh (F_Marks_total clt)) :=
  ⟨f, fd, fk_Marks_total F f_len f_sum m_Marks_told, hC, hm, F.bindsN (fun _ _ _ _ _ _ us hl => match us, hl with | [_], _ => rfl)⟩
theorem sc_Marks_ahead : FnScope [("self" : Str), ("name" : Str)] [("self" : Str), ("name" : Str)] (defScope s_Marks_ahead) := ⟨rfl, rfl, rfl, by decide +kernel, rfl, by decide +kernel, by decide +kernel⟩
theorem fk_Marks_ahead {f : Addr} {fd : FuncData} (F : FunD K ("ahead" : Str) ("Marks.ahead" : Str) (defArgs s_Marks_ahead) (defBody s_Marks_ahead) (defScope s_Marks_ahead) [] [] f fd) (f_list : mg ("list" : Str) = none) (o_Marks_sides : FldOk (gx K cl fa) [20] ("sides" : Str)) (m_Marks_need_name : CalM P w K mg base (cl 20) ("need_name" : Str) 3 [("self" : Str), ("name" : Str)] (SpF (gx K cl fa) [.sh, .sh] .sh (F_Marks_need_name clt))) :
  FnG P w K mg base (L2.CX P w) 4 f fd [("self" : Str), ("name" : Str)] (SpF (gx K cl fa) [.sh, .sh] (.ow 0) (F_Marks_ahead clt)) :=
  have nd : List.Nodup [("self" : Str), ("name" : Str)] := sc_Marks_ahead.nd
  fn_ok cl fa [.sh, .sh] (.ow 0) F sc_Marks_ahead rfl (by decide) (κe := [.sh, .sh]) (by rfl) (by intro _ h; cases h) fun cdv A outer s H E gd hr =>
 lx_cons (κ1 := [.sh, .sh]) (Sx.cv (sx_exp (ex_meth m_Marks_need_name (hr.mono (by decide)) (ex_var 0 rfl (.inl rfl) rfl) (ax_cons (ex_var 1 rfl (.inl rfl) rfl) (ax_nil)))) rfl)
 (lx_cons (sx_ret (ex_list rfl f_list (ev_cons (ex_sub' hr (ev_cons (ex_sub' hr (ev_cons (ex_fld o_Marks_sides (ev_cons (ex_var 0 rfl (.inl rfl) rfl) (ev_nil))) (ev_cons (ex_str) (ev_nil)))) (ev_cons (ex_var 1 rfl (.inl rfl) rfl) (ev_nil)))) (ev_nil))) rfl) (lx_nil))
theorem ok_Marks_ahead {f : Addr} {fd : FuncData} (F : FunD K ("ahead" : Str) ("Marks.ahead" : Str) (defArgs s_Marks_ahead) (defBody s_Marks_ahead) (defScope s_Marks_ahead) [] [] f fd) (hC : Cls K (cl 20)) (hm : Meth K (cl 20) ("ahead" : Str) f) (f_list : mg ("list" : Str) = none) (o_Marks_sides : FldOk (gx K cl fa) [20] ("sides" : Str)) (m_Marks_need_name : CalM P w K mg base (cl 20) ("need_name" : Str) 3 [("self" : Str), ("name" : Str)] (SpF (gx K cl fa) [.sh, .sh] .sh (F_Marks_need_name clt))) :
  CalM P w K mg base (cl 20) ("ahead" : Str) 4 [("self" : Str), ("name" : Str)] (SpF (gx K cl fa) [.sh, .sh] (.ow 0) (F_Marks_ahead clt)) :=
  ⟨f, fd, fk_Marks_ahead F f_list o_Marks_sides m_Marks_need_name, hC, hm, F.bindsN (fun _ _ _ _ _ _ us hl => match us, hl with | [_, _], _ => rfl)⟩
theorem sc_Marks_behind : FnScope [("self" : Str), ("name" : Str)] [("self" : Str), ("name" : Str)] (defScope s_Marks_behind) := ⟨rfl, rfl, rfl, by decide +kernel, rfl, by decide +kernel, by decide +kernel⟩
theorem fk_Marks_behind {f : Addr} {fd : FuncData} (F : FunD K ("behind" : Str) ("Marks.behind" : Str) (defArgs s_Marks_behind) (defBody s_Marks_behind) (defScope s_Marks_behind) [] [] f fd) (f_list : mg ("list" : Str) = none) (o_Marks_sides : FldOk (gx K cl fa) [20] ("sides" : Str)) (m_Marks_need_name : CalM P w K mg base (cl 20) ("need_name" : Str) 3 [("self" : Str), ("name" : Str)] (SpF (gx K cl fa) [.sh, .sh] .sh (F_Marks_need_name clt))) :
  FnG P w K mg base (L2.CX P w) 4 f fd [("self" : Str), ("name" : Str)] (SpF (gx K cl fa) [.sh, .sh] (.ow 0) (F_Marks_behind clt)) :=
  have nd : List.Nodup [("self" : Str), ("name" : Str)] := sc_Marks_behind.nd
  fn_ok cl fa [.sh, .sh] (.ow 0) F sc_Marks_behind rfl (by decide) (κe := [.sh, .sh]) (by rfl) (by intro _ h; cases h) fun cdv A outer s H E gd hr =>
 lx_cons (κ1 := [.sh, .sh]) (Sx.cv (sx_exp (ex_meth m_Marks_need_name (hr.mono (by decide)) (ex_var 0 rfl (.inl rfl) rfl) (ax_cons (ex_var 1 rfl (.inl rfl) rfl) (ax_nil)))) rfl)
 (lx_cons (sx_ret (ex_list rfl f_list (ev_cons (ex_sub' hr (ev_cons (ex_sub' hr (ev_cons (ex_fld o_Marks_sides (ev_cons (ex_var 0 rfl (.inl rfl) rfl) (ev_nil))) (ev_cons (ex_str) (ev_nil)))) (ev_cons (ex_var 1 rfl (.inl rfl) rfl) (ev_nil)))) (ev_nil))) rfl) (lx_nil))
theorem ok_Marks_behind {f : Addr} {fd : FuncData} (F : FunD K ("behind" : Str) ("Marks.behind" : Str) (defArgs s_Marks_behind) (defBody s_Marks_behind) (defScope s_Marks_behind) [] [] f fd) (hC : Cls K (cl 20)) (hm : Meth K (cl 20) ("behind" : Str) f) (f_list : mg ("list" : Str) = none) (o_Marks_sides : FldOk (gx K cl fa) [20] ("sides" : Str)) (m_Marks_need_name : CalM P w K mg base (cl 20) ("need_name" : Str) 3 [("self" : Str), ("name" : Str)] (SpF (gx K cl fa) [.sh, .sh] .sh (F_Marks_need_name clt))) :
  CalM P w K mg base (cl 20) ("behind" : Str) 4 [("self" : Str), ("name" : Str)] (SpF (gx K cl fa) [.sh, .sh] (.ow 0) (F_Marks_behind clt)) :=
  ⟨f, fd, fk_Marks_behind F f_list o_Marks_sides m_Marks_need_name, hC, hm, F.bindsN (fun _ _ _ _ _ _ us hl => match us, hl with | [_, _], _ => rfl)⟩
theorem sc_l_lists_right : FnScope [("_law_marks" : Str), ("_law_names_here" : Str), ("_law_ahead" : Str), ("_law_behind" : Str), ("_law_total" : Str), ("_law_due" : Str), ("_law_name" : Str), ("_law_turn" : Str), ("_law_here" : Str), ("_law_there" : Str)] [("_law_marks" : Str), ("_law_names_here" : Str), ("_law_ahead" : Str), ("_law_behind" : Str)] (defScope s_l_lists_right) := ⟨rfl, rfl, rfl, by decide +kernel, rfl, by decide +kernel, by decide +kernel⟩
theorem fk_l_lists_right {f : Addr} {fd : FuncData} (F : FunD K ("_law_lists_right" : Str) ("_law_lists_right" : Str) (defArgs s_l_lists_right) (defBody s_l_lists_right) (defScope s_l_lists_right) [] [] f fd) (f_bool : mg ("bool" : Str) = none) (f_isinstance : mg ("isinstance" : Str) = none) (f_len : mg ("len" : Str) = none) (f_list : mg ("list" : Str) = none) (f_range : mg ("range" : Str) = none) (f_sum : mg ("sum" : Str) = none) (f_tuple : mg ("tuple" : Str) = none) (isf : IsF (gx K cl fa).toGx0 clt) (m_Marks_ahead : CalM P w K mg base (cl 20) ("ahead" : Str) 4 [("self" : Str), ("name" : Str)] (SpF (gx K cl fa) [.sh, .sh] (.ow 0) (F_Marks_ahead clt))) (m_Marks_behind : CalM P w K mg base (cl 20) ("behind" : Str) 4 [("self" : Str), ("name" : Str)] (SpF (gx K cl fa) [.sh, .sh] (.ow 0) (F_Marks_behind clt))) (m_Marks_names : CalM P w K mg base (cl 20) ("names" : Str) 1 [("self" : Str)] (SpF (gx K cl fa) [.sh] (.ow 0) (F_Marks_names clt))) (m_Marks_told : CalM P w K mg base (cl 20) ("told" : Str) 1 [("self" : Str)] (SpF (gx K cl fa) [.sh] .sh (F_Marks_told clt))) (m_Marks_total : CalM P w K mg base (cl 20) ("total" : Str) 2 [("self" : Str)] (SpF (gx K cl fa) [.sh] .sh (F_Marks_total clt))) :
  FnG P w K mg base (L2.CX P w) 5 f fd [("_law_marks" : Str), ("_law_names_here" : Str), ("_law_ahead" : Str), ("_law_behind" : Str)] (SpF (gx K cl fa) [.sh, .sh, .sh, .sh] .sh (F_l_lists_right_k16 clt)) :=
  have nd : List.Nodup [("_law_marks" : Str), ("_law_names_here" : Str), ("_law_ahead" : Str), ("_law_behind" : Str), ("_law_total" : Str), ("_law_due" : Str), ("_law_name" : Str), ("_law_turn" : Str), ("_law_here" : Str), ("_law_there" : Str)] := sc_l_lists_right.nd
  fn_ok cl fa [.sh, .sh, .sh, .sh] .sh F sc_l_lists_right rfl (by decide) (κe := [.sh, .sh, .sh, .sh, .un, .un, .un, .un, .un, .un]) (by rfl) (by intro _ h; cases h) fun cdv A outer s H E gd hr =>
 lx_cons (κ1 := [.sh, .sh, .sh, .sh, .sh, .un, .un, .un, .un, .un]) (Sx.cv (sx_asg (ex_sum rfl f_sum (ev_cons (Ex.frz (ex_lc (κb := [.sh, .sh, .sh, .sh, .un, .un, .un, .un, .un, .un]) (own := [(("_law_name" : Str), 6)]) nd (ixq (ex_var 1 rfl (.inl rfl) rfl)) (blkOk_by (by rfl)) (fun _ _ _ _ _ => gt_name 6 nd rfl (by first | exact .inl rfl | exact .inr rfl)) (fun _ _ _ _ _ => cx_nil) (fun _ _ _ _ _ => ex_add (ev_cons (ex_len2 rfl f_len (ev_cons (ex_sub' hr (ev_cons (ex_var 2 rfl (by first | exact .inl rfl | exact .inr (.inl rfl) | exact .inr (.inr rfl)) rfl) (ev_cons (ex_var 6 rfl (by first | exact .inl rfl | exact .inr (.inl rfl) | exact .inr (.inr rfl)) rfl) (ev_nil)))) (ev_nil))) (ev_cons (ex_len2 rfl f_len (ev_cons (ex_sub' hr (ev_cons (ex_var 3 rfl (by first | exact .inl rfl | exact .inr (.inl rfl) | exact .inr (.inr rfl)) rfl) (ev_cons (ex_var 6 rfl (by first | exact .inl rfl | exact .inr (.inl rfl) | exact .inr (.inr rfl)) rfl) (ev_nil)))) (ev_nil))) (ev_nil)))))) (ev_nil))) (gt_name 4 nd rfl (.inl rfl))) rfl)
 (lx_cons (κ1 := [.sh, .sh, .sh, .sh, .sh, .un, .un, .un, .un, .un]) (Sx.cv (sx_if (Wx.tx (wx_or (tx_cs (cs_ne hr) (ev_cons (Ex.frz (ex_meth0 m_Marks_names (hr.mono (by decide)) (ex_var 0 rfl (.inl rfl) rfl))) (ev_cons (ex_var 1 rfl (.inl rfl) rfl) (ev_nil)))) (wx_or1 (tx_cs (cs_ne hr) (ev_cons (ex_meth0 m_Marks_total (hr.mono (by decide)) (ex_var 0 rfl (.inl rfl) rfl)) (ev_cons (ex_var 4 rfl (.inl rfl) rfl) (ev_nil)))))))
 (lx_cons (sx_ret (ex_bl) rfl) (lx_nil))
 (lx_nil)) rfl)
 (lx_cons (κ1 := [.sh, .sh, .sh, .sh, .sh, .sh, .un, .un, .un, .un]) (Sx.cv (sx_asg (ex_tuple rfl f_tuple (ev_cons (Ex.frz (ex_lc (κb := [.sh, .sh, .sh, .sh, .sh, .un, .un, .un, .un, .un]) (own := [(("_law_name" : Str), 6)]) nd (ixq (ex_var 1 rfl (.inl rfl) rfl)) (blkOk_by (by rfl)) (fun _ _ _ _ _ => gt_name 6 nd rfl (by first | exact .inl rfl | exact .inr rfl)) (fun _ _ _ _ _ => cx_nil) (fun _ _ _ _ _ => ex_tup (ax_cons (ex_var 6 rfl (by first | exact .inl rfl | exact .inr (.inl rfl) | exact .inr (.inr rfl)) rfl) (ax_cons (ex_tuple rfl f_tuple (ev_cons (ex_sub' hr (ev_cons (ex_var 2 rfl (by first | exact .inl rfl | exact .inr (.inl rfl) | exact .inr (.inr rfl)) rfl) (ev_cons (ex_var 6 rfl (by first | exact .inl rfl | exact .inr (.inl rfl) | exact .inr (.inr rfl)) rfl) (ev_nil)))) (ev_nil))) (ax_cons (ex_tuple rfl f_tuple (ev_cons (ex_sub' hr (ev_cons (ex_var 3 rfl (by first | exact .inl rfl | exact .inr (.inl rfl) | exact .inr (.inr rfl)) rfl) (ev_cons (ex_var 6 rfl (by first | exact .inl rfl | exact .inr (.inl rfl) | exact .inr (.inr rfl)) rfl) (ev_nil)))) (ev_nil))) (ax_nil))))))) (ev_nil))) (gt_name 5 nd rfl (.inl rfl))) rfl)
 (lx_cons (κ1 := [.sh, .sh, .sh, .sh, .sh, .sh, .un, .un, .un, .un]) (Sx.cv (sx_if (Wx.tx (wx_or (tx_cs (cs_ne hr) (ev_cons (ex_meth0 m_Marks_told (hr.mono (by decide)) (ex_var 0 rfl (.inl rfl) rfl)) (ev_cons (ex_var 5 rfl (.inl rfl) rfl) (ev_nil)))) (wx_or1 (tx_val (ex_isi2 isf rfl f_isinstance (ev_cons (ex_meth0 m_Marks_total (hr.mono (by decide)) (ex_var 0 rfl (.inl rfl) rfl)) (ev_cons ((ex_ty rfl f_bool (by decide +kernel))) (ev_nil))))))))
 (lx_cons (sx_ret (ex_bl) rfl) (lx_nil))
 (lx_nil)) rfl)
 (lx_cons (κ1 := [.sh, .sh, .sh, .sh, .sh, .sh, .un, .un, .un, .un]) (Sx.cv (sx_exp (ex_clearT (ex_meth0 m_Marks_names (hr.mono (by decide)) (ex_var 0 rfl (.inl rfl) rfl)))) rfl)
 (lx_cons (κ1 := [.sh, .sh, .sh, .sh, .sh, .sh, .un, .un, .un, .un]) (Sx.cv (sx_for (κ1 := [.sh, .sh, .sh, .sh, .sh, .sh, .un, .un, .un, .un]) (κ2 := [.sh, .sh, .sh, .sh, .sh, .sh, .sh, .un, .un, .un]) (ixq (ex_var 1 rfl (.inl rfl) rfl)) (gt_name 6 nd rfl (.inl rfl)) rfl
 (Lx.weakF (κ' := [.sh, .sh, .sh, .sh, .sh, .sh, .un, .un, .un, .un]) (lx_cons (κ1 := [.sh, .sh, .sh, .sh, .sh, .sh, .sh, .un, .un, .un]) (Sx.cv (sx_for (κ1 := [.sh, .sh, .sh, .sh, .sh, .sh, .sh, .un, .un, .un]) (κ2 := [.sh, .sh, .sh, .sh, .sh, .sh, .sh, .sh, .un, .un]) (ix_rng1 rfl f_range (ax_cons (ex_int) (ax_nil))) (gt_name 7 nd rfl (.inl rfl)) rfl
 (Lx.weakF (κ' := [.sh, .sh, .sh, .sh, .sh, .sh, .sh, .un, .un, .un]) (lx_cons (κ1 := [.sh, .sh, .sh, .sh, .sh, .sh, .sh, .sh, .ow 0, .ow 0]) (Sx.cv (sx_parO 8 9 nd rfl rfl (ao_cons (some 0) (ex_meth m_Marks_ahead (hr.mono (by decide)) (ex_var 0 rfl (.inl rfl) rfl) (ax_cons (ex_var 6 rfl (.inl rfl) rfl) (ax_nil))) (ao_cons (some 0) (ex_meth m_Marks_behind (hr.mono (by decide)) (ex_var 0 rfl (.inl rfl) rfl) (ax_cons (ex_var 6 rfl (.inl rfl) rfl) (ax_nil))) (ao_nil)))) rfl)
 (lx_cons (κ1 := [.sh, .sh, .sh, .sh, .sh, .sh, .sh, .sh, .ow 0, .ow 0]) (Sx.cv (sx_if (Wx.tx (wx_or (tx_not (tx_val (ex_isi2 (κ1 := [.sh, .sh, .sh, .sh, .sh, .sh, .sh, .sh, .un, .ow 0]) isf rfl f_isinstance (ev_io 8 0 rfl (.inl rfl) rfl (ev_cons ((ex_ty rfl f_list (by decide +kernel))) (ev_nil)))))) (wx_or1 (tx_not (tx_val (ex_isi2 (κ1 := [.sh, .sh, .sh, .sh, .sh, .sh, .sh, .sh, .ow 0, .un]) isf rfl f_isinstance (ev_io 9 0 rfl (.inl rfl) rfl (ev_cons ((ex_ty rfl f_list (by decide +kernel))) (ev_nil)))))))))
 (lx_cons (sx_ret (ex_bl) rfl) (lx_nil))
 (lx_nil)) rfl)
 (lx_cons (κ1 := [.sh, .sh, .sh, .sh, .sh, .sh, .sh, .sh, .ow 0, .ow 0]) (Sx.cv (sx_if (Wx.tx (wx_or (tx_cs (κ1 := [.sh, .sh, .sh, .sh, .sh, .sh, .sh, .sh, .un, .ow 0]) (cs_ne hr) (ev_io 8 0 rfl (.inl rfl) rfl (ev_cons (ex_sub' hr (ev_cons (ex_var 2 rfl (.inr (.inl rfl)) rfl) (ev_cons (ex_var 6 rfl (.inl rfl) rfl) (ev_nil)))) (ev_nil)))) (wx_or1 (tx_cs (κ1 := [.sh, .sh, .sh, .sh, .sh, .sh, .sh, .sh, .ow 0, .un]) (cs_ne hr) (ev_io 9 0 rfl (.inl rfl) rfl (ev_cons (ex_sub' hr (ev_cons (ex_var 3 rfl (.inr (.inl rfl)) rfl) (ev_cons (ex_var 6 rfl (.inl rfl) rfl) (ev_nil)))) (ev_nil)))))))
 (lx_cons (sx_ret (ex_bl) rfl) (lx_nil))
 (lx_nil)) rfl)
 (lx_cons (κ1 := [.sh, .sh, .sh, .sh, .sh, .sh, .sh, .sh, .ow 0, .ow 0]) (Sx.cv (sx_exp (ex_clear 8 rfl (.inl rfl) rfl)) rfl)
 (lx_cons (κ1 := [.sh, .sh, .sh, .sh, .sh, .sh, .sh, .sh, .ow 0, .ow 0]) (Sx.cv (sx_exp (ex_append 9 rfl (.inl rfl) rfl (ev_cons (ex_var 6 rfl (.inl rfl) rfl) ev_nil))) rfl)
 (lx_nil)))))) rfl)) rfl)
 (lx_nil)) rfl)) rfl)
 (lx_cons (sx_ret (ex_cs (cs_eq hr) (ev_cons (Ex.frz (ex_meth0 m_Marks_names (hr.mono (by decide)) (ex_var 0 rfl (.inl rfl) rfl))) (ev_cons (ex_var 1 rfl (.inl rfl) rfl) (ev_nil)))) rfl) (lx_nil)))))))
theorem ok_l_lists_right {f : Addr} {fd : FuncData} (F : FunD K ("_law_lists_right" : Str) ("_law_lists_right" : Str) (defArgs s_l_lists_right) (defBody s_l_lists_right) (defScope s_l_lists_right) [] [] f fd) (hm : mg ("_law_lists_right" : Str) = some (.ref f)) (f_bool : mg ("bool" : Str) = none) (f_isinstance : mg ("isinstance" : Str) = none) (f_len : mg ("len" : Str) = none) (f_list : mg ("list" : Str) = none) (f_range : mg ("range" : Str) = none) (f_sum : mg ("sum" : Str) = none) (f_tuple : mg ("tuple" : Str) = none) (isf : IsF (gx K cl fa).toGx0 clt) (m_Marks_ahead : CalM P w K mg base (cl 20) ("ahead" : Str) 4 [("self" : Str), ("name" : Str)] (SpF (gx K cl fa) [.sh, .sh] (.ow 0) (F_Marks_ahead clt))) (m_Marks_behind : CalM P w K mg base (cl 20) ("behind" : Str) 4 [("self" : Str), ("name" : Str)] (SpF (gx K cl fa) [.sh, .sh] (.ow 0) (F_Marks_behind clt))) (m_Marks_names : CalM P w K mg base (cl 20) ("names" : Str) 1 [("self" : Str)] (SpF (gx K cl fa) [.sh] (.ow 0) (F_Marks_names clt))) (m_Marks_told : CalM P w K mg base (cl 20) ("told" : Str) 1 [("self" : Str)] (SpF (gx K cl fa) [.sh] .sh (F_Marks_told clt))) (m_Marks_total : CalM P w K mg base (cl 20) ("total" : Str) 2 [("self" : Str)] (SpF (gx K cl fa) [.sh] .sh (F_Marks_total clt))) :
  Cal P w K mg base ("_law_lists_right" : Str) 5 [("_law_marks" : Str), ("_law_names_here" : Str), ("_law_ahead" : Str), ("_law_behind" : Str)] (SpF (gx K cl fa) [.sh, .sh, .sh, .sh] .sh (F_l_lists_right_k16 clt)) :=
  Cal.mk' F hm (fk_l_lists_right F f_bool f_isinstance f_len f_list f_range f_sum f_tuple isf m_Marks_ahead m_Marks_behind m_Marks_names m_Marks_told m_Marks_total) (fun _ _ _ _ _ _ us hl => match us, hl with | [_, _, _, _], _ => rfl)
theorem sc_law : FnScope [("_law_script" : Str), ("_law_scenes" : Str), ("_law_marks" : Str), ("_law_names_here" : Str), ("_law_ahead" : Str), ("_law_behind" : Str), ("_law_mode" : Str), ("_law_k" : Str)] [("_law_script" : Str)] (defScope s_law) := ⟨rfl, rfl, rfl, by decide +kernel, rfl, by decide +kernel, by decide +kernel⟩
theorem fk_law {f : Addr} {fd : FuncData} (F : FunD K ("law" : Str) ("law" : Str) (defArgs s_law) (defBody s_law) (defScope s_law) [] [] f fd) (f_len : mg ("len" : Str) = none) (f_max : mg ("max" : Str) = none) (f_min : mg ("min" : Str) = none) (f_range : mg ("range" : Str) = none) (c_l_cell : Cal P w K mg base ("_law_cell" : Str) 1 [("_law_script" : Str), ("_law_k" : Str)] (SpF (gx K cl fa) [.sh, .sh] .sh (F_l_cell clt))) (c_l_lists_right : Cal P w K mg base ("_law_lists_right" : Str) 5 [("_law_marks" : Str), ("_law_names_here" : Str), ("_law_ahead" : Str), ("_law_behind" : Str)] (SpF (gx K cl fa) [.sh, .sh, .sh, .sh] .sh (F_l_lists_right_k16 clt))) (c_l_met_right : Cal P w K mg base ("_law_met_right" : Str) 6 [("_law_marks" : Str), ("_law_names_here" : Str), ("_law_ahead" : Str), ("_law_behind" : Str)] (SpF (gx K cl fa) [.sh, .sh, .sh, .sh] .sh (F_l_met_right clt))) (c_l_scene : Cal P w K mg base ("_law_scene" : Str) 7 [("_law_cell_here" : Str)] (SpF (gx K cl fa) [.sh] .sh (F_l_scene clt))) :
  FnG P w K mg base (L2.CX P w) 8 f fd [("_law_script" : Str)] (SpF (gx K cl fa) [.sh] .sh (F_law_k16 clt)) :=
  have nd : List.Nodup [("_law_script" : Str), ("_law_scenes" : Str), ("_law_marks" : Str), ("_law_names_here" : Str), ("_law_ahead" : Str), ("_law_behind" : Str), ("_law_mode" : Str), ("_law_k" : Str)] := sc_law.nd
  fn_ok cl fa [.sh] .sh F sc_law rfl (by decide) (κe := [.sh, .un, .un, .un, .un, .un, .un, .un]) (by rfl) (by intro _ h; cases h) fun cdv A outer s H E gd hr =>
 lx_cons (κ1 := [.sh, .ow 0, .un, .un, .un, .un, .un, .un]) (Sx.cv (sx_setLc (i := 1) (κb := [.sh, .un, .un, .un, .un, .un, .un, .un]) (own := [(("_law_k" : Str), 7)]) nd rfl rfl rfl (ix_rng1 rfl f_range (ax_cons (ex_max2 rfl f_max (ev_cons (ex_int) (ev_cons (ex_min2 rfl f_min (ev_cons (ex_int) (ev_cons (ex_len2 rfl f_len (ev_cons (ex_var 0 rfl (.inr (.inl rfl)) rfl) (ev_nil))) (ev_nil)))) (ev_nil)))) (ax_nil))) (blkOk_by (by rfl)) (fun _ _ _ _ _ => gt_name 7 nd rfl (by first | exact .inl rfl | exact .inr rfl)) (fun _ _ _ _ _ => cx_nil) (fun _ _ _ _ _ => ex_c c_l_scene (hr.mono (by decide)) (ax_cons (ex_c c_l_cell (hr.mono (by decide)) (ax_cons (ex_var 0 rfl (by first | exact .inl rfl | exact .inr (.inl rfl) | exact .inr (.inr rfl)) rfl) (ax_cons (ex_var 7 rfl (by first | exact .inl rfl | exact .inr (.inl rfl) | exact .inr (.inr rfl)) rfl) (ax_nil)))) (ax_nil)))) rfl)
 (lx_cons (κ1 := [.sh, .sh, .un, .un, .un, .un, .un, .un]) (Sx.cv (sx_for (κ1 := [.sh, .sh, .un, .un, .un, .un, .un, .un]) (κ2 := [.sh, .sh, .sh, .sh, .sh, .sh, .sh, .un]) (ixq (Ex.frz (ex_cat (ev_cons (ex_share 1 0 rfl (.inl rfl) rfl) (ev_cons (Ex.frz (ex_st (ex_var 1 rfl (.inl rfl) rfl) (ex_neg (ev_cons (ex_int) (ev_nil))))) (ev_nil)))))) (gt_lst (gts_cons (gt_name 2 nd rfl (.inl rfl)) (gts_cons (gt_name 3 nd rfl (.inl rfl)) (gts_cons (gt_name 4 nd rfl (.inl rfl)) (gts_cons (gt_name 5 nd rfl (.inl rfl)) (gts_cons (gt_name 6 nd rfl (.inl rfl)) (gts_nil))))))) rfl
 (Lx.weakF (κ' := [.sh, .sh, .un, .un, .un, .un, .un, .un]) (lx_cons (κ1 := [.sh, .sh, .sh, .sh, .sh, .sh, .sh, .un]) (Sx.cv (sx_if (Wx.tx (wx_and (tx_cs (cs_eq hr) (ev_cons (ex_var 6 rfl (.inl rfl) rfl) (ev_cons (ex_int) (ev_nil)))) (wx_and1 (tx_not (tx_val (ex_c c_l_met_right (hr.mono (by decide)) (ax_cons (ex_var 2 rfl (.inl rfl) rfl) (ax_cons (ex_var 3 rfl (.inl rfl) rfl) (ax_cons (ex_var 4 rfl (.inl rfl) rfl) (ax_cons (ex_var 5 rfl (.inl rfl) rfl) (ax_nil)))))))))))
 (lx_cons (sx_ret (ex_bl) rfl) (lx_nil))
 (lx_nil)) rfl)
 (lx_cons (κ1 := [.sh, .sh, .sh, .sh, .sh, .sh, .sh, .un]) (Sx.cv (sx_if (tx_not (tx_val (ex_c c_l_lists_right (hr.mono (by decide)) (ax_cons (ex_var 2 rfl (.inl rfl) rfl) (ax_cons (ex_var 3 rfl (.inl rfl) rfl) (ax_cons (ex_var 4 rfl (.inl rfl) rfl) (ax_cons (ex_var 5 rfl (.inl rfl) rfl) (ax_nil))))))))
 (lx_cons (sx_ret (ex_bl) rfl) (lx_nil))
 (lx_nil)) rfl)
 (lx_cons (κ1 := [.sh, .sh, .sh, .sh, .sh, .sh, .sh, .un]) (Sx.cv (sx_if (Wx.tx (wx_and (tx_cs (cs_eq hr) (ev_cons (ex_var 6 rfl (.inl rfl) rfl) (ev_cons (ex_int) (ev_nil)))) (wx_and1 (tx_not (tx_val (ex_c c_l_met_right (hr.mono (by decide)) (ax_cons (ex_var 2 rfl (.inl rfl) rfl) (ax_cons (ex_var 3 rfl (.inl rfl) rfl) (ax_cons (ex_var 4 rfl (.inl rfl) rfl) (ax_cons (ex_var 5 rfl (.inl rfl) rfl) (ax_nil)))))))))))
 (lx_cons (sx_ret (ex_bl) rfl) (lx_nil))
 (lx_nil)) rfl)
 (lx_nil)))) rfl)) rfl)
 (lx_cons (sx_ret (ex_bl) rfl) (lx_nil)))
end
end K16
namespace K16
open PySem PySem.Spec L2 Rm RP
theorem facts {P : Program} {w : World} {K : PySem.W.Frag} {h : Heap} {mg : Str → Option Value} {f : Addr} (X : K.In h) (G : h.Ns mainGlobals mg) (hfa : mg ("law" : Str) = some (.ref f)) (c : SaysR fcs dfs exB K) :
  ∃ fd : FuncData, (∀ (s : Shared) (v : Value), BindsTo s fd ⟨[v], []⟩ [(("_law_script" : Str), v)]) ∧ ∀ base : Heap, K.In base → base.Ns mainGlobals mg → FnG P w K mg base (L2.CX P w) 8 f fd [("_law_script" : Str)] (SpF (gx K (clN K) (fun n => n)) [.sh] .sh (F_law_k16 clt)) := by
  have e := hfa.symm.trans (He.glo_ok X G (c.d.fact 50 (f := .glo ("law" : Str)) rfl))
  cases e
  obtain ⟨fdl, Dl⟩ := c.d.def_ 25 (d := dd_law) rfl
  have b := FunD.bindsA (ps := [("_law_script" : Str)]) Dl fun _ _ _ _ _ _ us hl => match us, hl with | [_], _ => rfl
  refine ⟨fdl, fun s v => b s [v] rfl, fun base _ _ => ?_⟩
  have f_bool := He.free_ok X G (c.d.fact 0 (f := .free ("bool" : Str)) rfl)
  have f_dict := He.free_ok X G (c.d.fact 1 (f := .free ("dict" : Str)) rfl)
  have f_int := He.free_ok X G (c.d.fact 2 (f := .free ("int" : Str)) rfl)
  have f_isinstance := He.free_ok X G (c.d.fact 3 (f := .free ("isinstance" : Str)) rfl)
  have f_len := He.free_ok X G (c.d.fact 4 (f := .free ("len" : Str)) rfl)
  have f_list := He.free_ok X G (c.d.fact 5 (f := .free ("list" : Str)) rfl)
  have f_max := He.free_ok X G (c.d.fact 6 (f := .free ("max" : Str)) rfl)
  have f_min := He.free_ok X G (c.d.fact 7 (f := .free ("min" : Str)) rfl)
  have f_range := He.free_ok X G (c.d.fact 8 (f := .free ("range" : Str)) rfl)
  have f_str := He.free_ok X G (c.d.fact 9 (f := .free ("str" : Str)) rfl)
  have f_sum := He.free_ok X G (c.d.fact 10 (f := .free ("sum" : Str)) rfl)
  have f_tuple := He.free_ok X G (c.d.fact 11 (f := .free ("tuple" : Str)) rfl)
  have g_LETTERS := He.str_ok X G (c.d.fact 12 (f := .str ("LETTERS" : Str) ("abcdefghijklmnopqrstuvwxyz" : Str)) rfl)
  have g_LONGEST := He.int_ok X G (c.d.fact 13 (f := .int ("LONGEST" : Str) 6) rfl)
  have g_MOST_PLACES := He.int_ok X G (c.d.fact 14 (f := .int ("MOST_PLACES" : Str) 12) rfl)
  have isf : IsF (gx K (clN K) (fun n => n)).toGx0 clt := isfB_ok (ba2 c.more).1
  have exb : ExB K (clN K 0) := exbB_ok (ba2 (ba2 c.more).2).1
  have gr : mg "ReachError" = some (.ref (clN K 0)) := He.glo_ok X G (c.d.fact 15 (f := .glo "ReachError") rfl)
  obtain ⟨fdx_NoMarks, Dx_NoMarks⟩ := c.d.def_ 26 (d := dd_x_NoMarks) rfl
  have x_NoMarks : ExC P w K mg base ("NoMarks" : Str) (clN K 6) [("found" : Str)] := ExC.mk1 (st := s_x_NoMarks) Dx_NoMarks (ba2 (ba2 (ba2 c.more).2).2).1 (He.glo_ok X G (c.d.fact 16 (f := .glo ("NoMarks" : Str)) rfl)) (fun T n0 => fk_exc1 (st := s_x_NoMarks) Dx_NoMarks sc_x_NoMarks (fun cdv A outer s H E => pss_cons (ps_expr (pe_reinit rfl gr exb.rd exb.at_ (pa_cons (pv 0) (pa_cons pe_str pa_nil)))) (pss_one (ps_ost (pv 0) (pv 1)))) T n0) (Dx_NoMarks.bindsN (fun _ _ _ _ _ _ us hl => match us, hl with | [_, _], _ => rfl))
  obtain ⟨fdx_NoName, Dx_NoName⟩ := c.d.def_ 27 (d := dd_x_NoName) rfl
  have x_NoName : ExC P w K mg base ("NoName" : Str) (clN K 1) [("found" : Str)] := ExC.mk1 (st := s_x_NoName) Dx_NoName (ba2 (ba2 (ba2 (ba2 c.more).2).2).2).1 (He.glo_ok X G (c.d.fact 17 (f := .glo ("NoName" : Str)) rfl)) (fun T n0 => fk_exc1 (st := s_x_NoName) Dx_NoName sc_x_NoName (fun cdv A outer s H E => pss_cons (ps_expr (pe_reinit rfl gr exb.rd exb.at_ (pa_cons (pv 0) (pa_cons pe_str pa_nil)))) (pss_one (ps_ost (pv 0) (pv 1)))) T n0) (Dx_NoName.bindsN (fun _ _ _ _ _ _ us hl => match us, hl with | [_, _], _ => rfl))
  obtain ⟨fdx_NoPlace, Dx_NoPlace⟩ := c.d.def_ 28 (d := dd_x_NoPlace) rfl
  have x_NoPlace : ExC P w K mg base ("NoPlace" : Str) (clN K 2) [("found" : Str)] := ExC.mk1 (st := s_x_NoPlace) Dx_NoPlace (ba2 (ba2 (ba2 (ba2 (ba2 c.more).2).2).2).2).1 (He.glo_ok X G (c.d.fact 18 (f := .glo ("NoPlace" : Str)) rfl)) (fun T n0 => fk_exc1 (st := s_x_NoPlace) Dx_NoPlace sc_x_NoPlace (fun cdv A outer s H E => pss_cons (ps_expr (pe_reinit rfl gr exb.rd exb.at_ (pa_cons (pv 0) (pa_cons pe_str pa_nil)))) (pss_one (ps_ost (pv 0) (pv 1)))) T n0) (Dx_NoPlace.bindsN (fun _ _ _ _ _ _ us hl => match us, hl with | [_, _], _ => rfl))
  obtain ⟨fdx_TooMany, Dx_TooMany⟩ := c.d.def_ 29 (d := dd_x_TooMany) rfl
  have x_TooMany : ExC P w K mg base ("TooMany" : Str) (clN K 14) [("many" : Str)] := ExC.mk1 (st := s_x_TooMany) Dx_TooMany (ba2 (ba2 (ba2 (ba2 (ba2 (ba2 c.more).2).2).2).2).2).1 (He.glo_ok X G (c.d.fact 19 (f := .glo ("TooMany" : Str)) rfl)) (fun T n0 => fk_exc1 (st := s_x_TooMany) Dx_TooMany sc_x_TooMany (fun cdv A outer s H E => pss_cons (ps_expr (pe_reinit rfl gr exb.rd exb.at_ (pa_cons (pv 0) (pa_cons pe_str pa_nil)))) (pss_one (ps_ost (pv 0) (pv 1)))) T n0) (Dx_TooMany.bindsN (fun _ _ _ _ _ _ us hl => match us, hl with | [_, _], _ => rfl))
  obtain ⟨fdx_Twice, Dx_Twice⟩ := c.d.def_ 30 (d := dd_x_Twice) rfl
  have x_Twice : ExC P w K mg base ("Twice" : Str) (clN K 4) [("found" : Str)] := ExC.mk1 (st := s_x_Twice) Dx_Twice (ba2 (ba2 (ba2 (ba2 (ba2 (ba2 c.more).2).2).2).2).2).2 (He.glo_ok X G (c.d.fact 20 (f := .glo ("Twice" : Str)) rfl)) (fun T n0 => fk_exc1 (st := s_x_Twice) Dx_Twice sc_x_Twice (fun cdv A outer s H E => pss_cons (ps_expr (pe_reinit rfl gr exb.rd exb.at_ (pa_cons (pv 0) (pa_cons pe_str pa_nil)))) (pss_one (ps_ost (pv 0) (pv 1)))) T n0) (Dx_Twice.bindsN (fun _ _ _ _ _ _ us hl => match us, hl with | [_, _], _ => rfl))
  have o_Marks_called : FldOk (gx K (clN K) (fun n => n)) [20] ("called" : Str) := fun z hz => by
    cases List.mem_singleton.mp hz
    exact ⟨He.cls_ok (c.d.fact 21 (f := .cls ("Marks" : Str)) rfl), He.noat_ok (c.d.fact 22 (f := .noat ("Marks" : Str) ("called" : Str)) rfl)⟩
  have o_Marks_sides : FldOk (gx K (clN K) (fun n => n)) [20] ("sides" : Str) := fun z hz => by
    cases List.mem_singleton.mp hz
    exact ⟨He.cls_ok (c.d.fact 21 (f := .cls ("Marks" : Str)) rfl), He.noat_ok (c.d.fact 23 (f := .noat ("Marks" : Str) ("sides" : Str)) rfl)⟩
  obtain ⟨fd0, D0⟩ := c.d.def_ 0 (d := dd_l_box) rfl
  have c_l_box := ok_l_box (P := P) (w := w) (base := base) (mg := mg) (cl := clN K) (fa := fun n => n) D0 (He.glo_ok X G (c.d.fact 24 (f := .glo ("_law_box" : Str)) rfl)) f_max
  obtain ⟨fd1, D1⟩ := c.d.def_ 1 (d := dd_l_take) rfl
  have c_l_take := ok_l_take (P := P) (w := w) (base := base) (mg := mg) (cl := clN K) (fa := fun n => n) D1 (He.glo_ok X G (c.d.fact 25 (f := .glo ("_law_take" : Str)) rfl)) 
  obtain ⟨fd2, D2⟩ := c.d.def_ 2 (d := dd_l_names) rfl
  have c_l_names := ok_l_names (P := P) (w := w) (base := base) (mg := mg) (cl := clN K) (fa := fun n => n) D2 (He.glo_ok X G (c.d.fact 26 (f := .glo ("_law_names" : Str)) rfl)) f_int f_range c_l_take
  obtain ⟨fd3, D3⟩ := c.d.def_ 3 (d := dd_l_some) rfl
  have c_l_some := ok_l_some (P := P) (w := w) (base := base) (mg := mg) (cl := clN K) (fa := fun n => n) D3 (He.glo_ok X G (c.d.fact 27 (f := .glo ("_law_some" : Str)) rfl)) f_len f_list f_min f_range c_l_take
  obtain ⟨fd4, D4⟩ := c.d.def_ 4 (d := dd_l_lists) rfl
  have c_l_lists := ok_l_lists (P := P) (w := w) (base := base) (mg := mg) (cl := clN K) (fa := fun n => n) D4 (He.glo_ok X G (c.d.fact 28 (f := .glo ("_law_lists" : Str)) rfl)) f_dict c_l_some
  obtain ⟨fd5, D5⟩ := c.d.def_ 5 (d := dd_l_handed) rfl
  have c_l_handed := ok_l_handed (P := P) (w := w) (base := base) (mg := mg) (cl := clN K) (fa := fun n => n) D5 (He.glo_ok X G (c.d.fact 29 (f := .glo ("_law_handed" : Str)) rfl)) f_list f_tuple c_l_take
  obtain ⟨fd6, D6⟩ := c.d.def_ 6 (d := dd_is_listed) rfl
  have c_is_listed := ok_is_listed (P := P) (w := w) (base := base) (mg := mg) (cl := clN K) (fa := fun n => n) D6 (He.glo_ok X G (c.d.fact 30 (f := .glo ("is_listed" : Str)) rfl)) f_isinstance f_list f_tuple isf
  obtain ⟨fd7, D7⟩ := c.d.def_ 7 (d := dd_is_name) rfl
  have c_is_name := ok_is_name (P := P) (w := w) (base := base) (mg := mg) (cl := clN K) (fa := fun n => n) D7 (He.glo_ok X G (c.d.fact 31 (f := .glo ("is_name" : Str)) rfl)) f_isinstance f_len f_str g_LETTERS g_LONGEST isf
  obtain ⟨fd8, D8⟩ := c.d.def_ 8 (d := dd_need_fresh) rfl
  have c_need_fresh_vso := ok_need_fresh_vso (P := P) (w := w) (base := base) (mg := mg) (cl := clN K) (fa := fun n => n) D8 (He.glo_ok X G (c.d.fact 32 (f := .glo ("need_fresh" : Str)) rfl)) x_NoName x_Twice c_is_name
  obtain ⟨fd9, D9⟩ := c.d.def_ 9 (d := dd_good_names) rfl
  have c_good_names := ok_good_names (P := P) (w := w) (base := base) (mg := mg) (cl := clN K) (fa := fun n => n) D9 (He.glo_ok X G (c.d.fact 33 (f := .glo ("good_names" : Str)) rfl)) f_len g_MOST_PLACES x_NoName x_TooMany c_is_listed c_need_fresh_vso
  obtain ⟨fd10, D10⟩ := c.d.def_ 10 (d := dd_are_marks) rfl
  have c_are_marks := ok_are_marks (P := P) (w := w) (base := base) (mg := mg) (cl := clN K) (fa := fun n => n) D10 (He.glo_ok X G (c.d.fact 34 (f := .glo ("are_marks" : Str)) rfl)) f_isinstance f_len f_list f_str f_tuple isf
  obtain ⟨fd11, D11⟩ := c.d.def_ 11 (d := dd_need_lists) rfl
  have c_need_lists := ok_need_lists (P := P) (w := w) (base := base) (mg := mg) (cl := clN K) (fa := fun n => n) D11 (He.glo_ok X G (c.d.fact 35 (f := .glo ("need_lists" : Str)) rfl)) f_dict f_isinstance f_len isf x_NoMarks c_are_marks
  obtain ⟨fd12, D12⟩ := c.d.def_ 12 (d := dd_Marks_d_initd_) rfl
  have k_Marks_d_initd_ := ok_Marks_d_initd_ (P := P) (w := w) (base := base) (mg := mg) (cl := clN K) (fa := fun n => n) D12 (He.mkr_ok (c.d.fact 36 (f := .mkr ("Marks" : Str)) rfl)) (He.glo_ok X G (c.d.fact 37 (f := .glo ("Marks" : Str)) rfl)) f_list f_tuple o_Marks_called o_Marks_sides c_good_names c_need_lists
  obtain ⟨fd13, D13⟩ := c.d.def_ 13 (d := dd_l_scene) rfl
  have c_l_scene := ok_l_scene (P := P) (w := w) (base := base) (mg := mg) (cl := clN K) (fa := fun n => n) D13 (He.glo_ok X G (c.d.fact 38 (f := .glo ("_law_scene" : Str)) rfl)) f_isinstance f_list f_tuple isf c_l_box c_l_handed c_l_lists c_l_names c_l_take k_Marks_d_initd_
  obtain ⟨fd14, D14⟩ := c.d.def_ 14 (d := dd_l_cell) rfl
  have c_l_cell := ok_l_cell (P := P) (w := w) (base := base) (mg := mg) (cl := clN K) (fa := fun n => n) D14 (He.glo_ok X G (c.d.fact 39 (f := .glo ("_law_cell" : Str)) rfl)) f_len
  obtain ⟨fd15, D15⟩ := c.d.def_ 15 (d := dd_Marks_need_name) rfl
  have m_Marks_need_name := ok_Marks_need_name (P := P) (w := w) (base := base) (mg := mg) (cl := clN K) (fa := fun n => n) D15 (He.cls_ok (c.d.fact 21 (f := .cls ("Marks" : Str)) rfl)) (He.meth_ok (c.d.fact 40 (f := .meth ("Marks" : Str) ("need_name" : Str)) rfl)) f_isinstance f_str isf o_Marks_called x_NoPlace
  obtain ⟨fd16, D16⟩ := c.d.def_ 16 (d := dd_Marks_meeting) rfl
  have m_Marks_meeting := ok_Marks_meeting (P := P) (w := w) (base := base) (mg := mg) (cl := clN K) (fa := fun n => n) D16 (He.cls_ok (c.d.fact 21 (f := .cls ("Marks" : Str)) rfl)) (He.meth_ok (c.d.fact 41 (f := .meth ("Marks" : Str) ("meeting" : Str)) rfl)) o_Marks_called o_Marks_sides m_Marks_need_name
  obtain ⟨fd17, D17⟩ := c.d.def_ 17 (d := dd_Marks_tells) rfl
  have m_Marks_tells := ok_Marks_tells (P := P) (w := w) (base := base) (mg := mg) (cl := clN K) (fa := fun n => n) D17 (He.cls_ok (c.d.fact 21 (f := .cls ("Marks" : Str)) rfl)) (He.meth_ok (c.d.fact 42 (f := .meth ("Marks" : Str) ("tells" : Str)) rfl)) m_Marks_meeting
  obtain ⟨fd18, D18⟩ := c.d.def_ 18 (d := dd_l_met_right) rfl
  have c_l_met_right := ok_l_met_right (P := P) (w := w) (base := base) (mg := mg) (cl := clN K) (fa := fun n => n) D18 (He.glo_ok X G (c.d.fact 43 (f := .glo ("_law_met_right" : Str)) rfl)) f_bool f_isinstance f_list isf m_Marks_meeting m_Marks_tells
  obtain ⟨fd19, D19⟩ := c.d.def_ 19 (d := dd_Marks_names) rfl
  have m_Marks_names := ok_Marks_names (P := P) (w := w) (base := base) (mg := mg) (cl := clN K) (fa := fun n => n) D19 (He.cls_ok (c.d.fact 21 (f := .cls ("Marks" : Str)) rfl)) (He.meth_ok (c.d.fact 44 (f := .meth ("Marks" : Str) ("names" : Str)) rfl)) f_list o_Marks_called
  obtain ⟨fd20, D20⟩ := c.d.def_ 20 (d := dd_Marks_told) rfl
  have m_Marks_told := ok_Marks_told (P := P) (w := w) (base := base) (mg := mg) (cl := clN K) (fa := fun n => n) D20 (He.cls_ok (c.d.fact 21 (f := .cls ("Marks" : Str)) rfl)) (He.meth_ok (c.d.fact 45 (f := .meth ("Marks" : Str) ("told" : Str)) rfl)) f_tuple o_Marks_called o_Marks_sides
  obtain ⟨fd21, D21⟩ := c.d.def_ 21 (d := dd_Marks_total) rfl
  have m_Marks_total := ok_Marks_total (P := P) (w := w) (base := base) (mg := mg) (cl := clN K) (fa := fun n => n) D21 (He.cls_ok (c.d.fact 21 (f := .cls ("Marks" : Str)) rfl)) (He.meth_ok (c.d.fact 46 (f := .meth ("Marks" : Str) ("total" : Str)) rfl)) f_len f_sum m_Marks_told
  obtain ⟨fd22, D22⟩ := c.d.def_ 22 (d := dd_Marks_ahead) rfl
  have m_Marks_ahead := ok_Marks_ahead (P := P) (w := w) (base := base) (mg := mg) (cl := clN K) (fa := fun n => n) D22 (He.cls_ok (c.d.fact 21 (f := .cls ("Marks" : Str)) rfl)) (He.meth_ok (c.d.fact 47 (f := .meth ("Marks" : Str) ("ahead" : Str)) rfl)) f_list o_Marks_sides m_Marks_need_name
  obtain ⟨fd23, D23⟩ := c.d.def_ 23 (d := dd_Marks_behind) rfl
  have m_Marks_behind := ok_Marks_behind (P := P) (w := w) (base := base) (mg := mg) (cl := clN K) (fa := fun n => n) D23 (He.cls_ok (c.d.fact 21 (f := .cls ("Marks" : Str)) rfl)) (He.meth_ok (c.d.fact 48 (f := .meth ("Marks" : Str) ("behind" : Str)) rfl)) f_list o_Marks_sides m_Marks_need_name
  obtain ⟨fd24, D24⟩ := c.d.def_ 24 (d := dd_l_lists_right) rfl
  have c_l_lists_right := ok_l_lists_right (P := P) (w := w) (base := base) (mg := mg) (cl := clN K) (fa := fun n => n) D24 (He.glo_ok X G (c.d.fact 49 (f := .glo ("_law_lists_right" : Str)) rfl)) f_bool f_isinstance f_len f_list f_range f_sum f_tuple isf m_Marks_ahead m_Marks_behind m_Marks_names m_Marks_told m_Marks_total
  obtain ⟨fd25, D25⟩ := c.d.def_ 25 (d := dd_law) rfl
  exact fk_law (P := P) (w := w) (base := base) (mg := mg) (cl := clN K) (fa := fun n => n) Dl f_len f_max f_min f_range c_l_cell c_l_lists_right c_l_met_right c_l_scene
end K16
open PySem PySem.W PySem.Calls PyProof.Rows
theorem PySem.Challenge.cw_reachmarks_k16_markings_told_holds : PySem.Challenge.rw_reachmarks_k16_markings_told.Holds := by
  w_on; o_law
  refine HandSHeadRun.head_any (r := OpenLaw.row PySem.Challenge.rw_reachmarks_k16_markings_told) (q := view (OpenLaw.row PySem.Challenge.rw_reachmarks_k16_markings_told).prog [32]) (H := K16.hk) (ob := K16.ob) (M := 9000) (loose := K16.lse) (d := HandSHeadRun.topDef (OpenLaw.row PySem.Challenge.rw_reachmarks_k16_markings_told).prog 32) (kwd := []) K16.ob_eq
    (by kernel_rfl) (fun s => by kernel_rfl) K16.run (by kernel_rfl) (by kernel_rfl) (by kernel_rfl) (by rfl) (by first | assumption | decide +kernel) (by decide +kernel) ⟨rfl, rfl, rfl, rfl, rfl, by decide +kernel⟩ ?hw ?hc
  case hw => w_witness2
  case hc =>
    refine Rm.walk_rm (l := PySem.Challenge.rw_reachmarks_k16_markings_told) (n := 63) (k := 8) (x := ("_law_script" : PySem.Str)) rfl (by decide) (by kernel_rfl) ⟨rfl, by decide, by decide⟩ ?F
    intro w mg fa h Y G hmg0
    obtain ⟨K, KX, c⟩ := Y
    have hmg : mg ("law" : PySem.Str) = some (.ref fa) := by
      have e : (HandSHeadRun.topDef (OpenLaw.row PySem.Challenge.rw_reachmarks_k16_markings_told).prog 32).name = ("law" : PySem.Str) := by kernel_rfl
      rw [← e]
      exact hmg0
    obtain ⟨fd, hb, hF⟩ := K16.facts (P := (PySem.Challenge.rw_reachmarks_k16_markings_told).prog) (w := w) KX G hmg c
    exact ⟨K, fd, _, KX, hb, fun H a ns hl hbits _ hS => Rm.law_sp hS (K16.data_law ns hl hbits), hF⟩
