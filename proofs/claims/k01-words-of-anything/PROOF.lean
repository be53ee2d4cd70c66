import PyProof.Rows.All
import Wide.All
import OpenK.AllK
import Wide.FinOn
import HandS.ForMost
import HandS.ForExc
import HandS.Defaults
import HandS.Deep
import HandS.Wide
import HandS.IsInst
import HandS.SetFor
import HandS.More
import HandS.Words
import HandS.WordsExc
import HandS.Head0
import HandS.Head1
import HandS.Head2
import HandS.HeadEnd
import HandS.HeadHook1
import HandS.HeadHook2
import HandS.EndBits
import KE.KStateDown
import HandS.Codes
import PySem.Challenge.RW_reachmarks_k01_words_of_anything
set_option Elab.async false
set_option linter.all false
set_option maxRecDepth 100000
set_option maxHeartbeats 0
namespace Rm
open PySem PySem.Spec L2

/-- pure data -/
inductive D where
  | non | bl (b : Bool) | int (i : Int) | str (x : Str)
  | tup (xs : List D) | lst (xs : List D)
  | dK (kvs : List (Key × D)) | dT (kvs : List (List Key × D))
  | ins (c : Nat) (fs : List (Str × D))
  | fn (n : Nat)
  /-- a list that is only read (the script) -/
  | rol (xs : List D)
  /-- a built-in class, a class of the text -/
  | ty (n : String) | cls (c : Nat)
  deriving Inhabited

/-- where the text's classes and defs stand -/
structure Gx where
  K : PySem.W.Frag
  cl : Nat → Addr
  fa : Nat → Addr

abbrev Rg := Addr → Prop

mutual
def Den (G : Gx) (S : Rg) (H : Hp) : D → V → Prop
  | .non, v => v = .non
  | .bl b, v => v = .bl b
  | .int i, v => v = .int i
  | .str x, v => v = .str x
  | .tup ds, v => ∃ a vs, v = .ref a ∧ ((S a ∧ Rd H a (.tup vs)) ∨ (∀ H', SqT G.K H' a vs)) ∧ DenL G S H ds vs
  | .lst ds, v => ∃ a vs, v = .ref a ∧ S a ∧ H a = some (.lst vs) ∧ DenL G S H ds vs
  | .rol ds, v => ∃ a vs, v = .ref a ∧ ((S a ∧ Rd H a (.lst vs)) ∨ (∀ H', SqL G.K H' a vs)) ∧ DenL G S H ds vs
  | .dK kvs, v => ∃ a ws, v = .ref a ∧ S a ∧ Rd H a (.dK ws) ∧ DenK G S H kvs ws
  | .dT kvs, v => ∃ a ws, v = .ref a ∧ S a ∧ Rd H a (.dT ws) ∧ DenT G S H kvs ws
  | .ins c fs, v => ∃ a dx ws, v = .ref a ∧ S a ∧ S dx ∧ H a = some (.ins (G.cl c) dx ws) ∧ H dx = some (.own a) ∧ DenF G S H fs ws
  | .fn n, v => v = .ref (G.fa n)
  | .ty n, v => v = .ty n
  | .cls c, v => v = .ref (G.cl c)
def DenL (G : Gx) (S : Rg) (H : Hp) : List D → List V → Prop
  | [], vs => vs = []
  | d :: ds, vs => ∃ v r, vs = v :: r ∧ Den G S H d v ∧ DenL G S H ds r
def DenK (G : Gx) (S : Rg) (H : Hp) : List (Key × D) → List (Key × V) → Prop
  | [], vs => vs = []
  | (k, d) :: ds, vs => ∃ v r, vs = (k, v) :: r ∧ Den G S H d v ∧ DenK G S H ds r
def DenT (G : Gx) (S : Rg) (H : Hp) : List (List Key × D) → List (List Key × V) → Prop
  | [], vs => vs = []
  | (k, d) :: ds, vs => ∃ v r, vs = (k, v) :: r ∧ Den G S H d v ∧ DenT G S H ds r
def DenF (G : Gx) (S : Rg) (H : Hp) : List (Str × D) → List (Str × V) → Prop
  | [], vs => vs = []
  | (k, d) :: ds, vs => ∃ v r, vs = (k, v) :: r ∧ Den G S H d v ∧ DenF G S H ds r
end

/-- a dict that a loop walks is locked: it reads as ever -/
def vw : Option HO → Option HO
  | some (.frz _ (.dK k)) => some (.dK k)
  | some (.frz _ (.dT k)) => some (.dT k)
  | o => o
/-- more is shared; what is shared stays (a dict may be locked, unlocked) -/
def Grow (S : Rg) (H : Hp) (S' : Rg) (H' : Hp) : Prop := ∀ a, S a → S' a ∧ vw (H' a) = vw (H a) ∧ ∀ o u, H a = some (.frz o u) → H' a = some (.frz o u)
theorem Grow.refl {S H} : Grow S H S H := fun _ h => ⟨h, rfl, fun _ _ q => q⟩
theorem Grow.trans {S H S' H' S'' H''} (h : Grow S H S' H') (k : Grow S' H' S'' H'') : Grow S H S'' H'' := fun a s =>
  have p := h a s
  have q := k a p.1
  ⟨q.1, q.2.1.trans p.2.1, fun o u z => q.2.2 o u (p.2.2 o u z)⟩
theorem Grow.of {S H S' H'} (h : ∀ a, S a → S' a ∧ H' a = H a) : Grow S H S' H' := fun a s => ⟨(h a s).1, by rw [(h a s).2], fun o u z => by rw [(h a s).2]; exact z⟩

theorem vw_lst {o : Option HO} {vs} (h : vw o = some (.lst vs)) : o = some (.lst vs) := by
  unfold vw at h; split at h <;> first | exact h | cases h
theorem vw_tup {o : Option HO} {vs} (h : vw o = some (.tup vs)) : o = some (.tup vs) := by
  unfold vw at h; split at h <;> first | exact h | cases h
theorem vw_ins {o : Option HO} {c d fs} (h : vw o = some (.ins c d fs)) : o = some (.ins c d fs) := by
  unfold vw at h; split at h <;> first | exact h | cases h
theorem vw_own {o : Option HO} {c} (h : vw o = some (.own c)) : o = some (.own c) := by
  unfold vw at h; split at h <;> first | exact h | cases h
theorem vw_xd {o : Option HO} {c} (h : vw o = some (.xd c)) : o = some (.xd c) := by
  unfold vw at h; split at h <;> first | exact h | cases h
theorem vw_frz {o : Option HO} {ob u} (h : vw o = some (.frz ob u)) : o = some (.frz ob u) := by
  unfold vw at h; split at h <;> first | exact h | cases h
theorem vw_dK {o : Option HO} {k} (h : vw o = some (.dK k)) : o = some (.dK k) ∨ ∃ ob, o = some (.frz ob (.dK k)) := by
  unfold vw at h
  split at h
  · cases h; exact .inr ⟨_, rfl⟩
  · cases h
  · exact .inl h
theorem vw_dT {o : Option HO} {k} (h : vw o = some (.dT k)) : o = some (.dT k) ∨ ∃ ob, o = some (.frz ob (.dT k)) := by
  unfold vw at h
  split at h
  · cases h
  · cases h; exact .inr ⟨_, rfl⟩
  · exact .inl h
theorem vw_none {o : Option HO} (h : o ≠ none) : vw o ≠ none := by
  unfold vw
  split
  · intro q; cases q
  · intro q; cases q
  · exact h
theorem vw_none' {o : Option HO} (h : vw o ≠ none) : o ≠ none := fun e => h (by rw [e]; rfl)

theorem Rd.grow {S H S' H' a u} (g : Grow S H S' H') (s : S a) (h : Rd H a u) (hu : (∃ vs, u = .lst vs) ∨ (∃ vs, u = .tup vs) ∨ (∃ k, u = .dK k) ∨ (∃ k, u = .dT k)) : Rd H' a u := by
  have e := (g a s).2.1
  rcases hu with ⟨vs, rfl⟩ | ⟨vs, rfl⟩ | ⟨vs, rfl⟩ | ⟨vs, rfl⟩
  · rcases h with h | ⟨o, h⟩
    · rw [h] at e; exact .inl (vw_lst e)
    · rw [h] at e; exact .inr ⟨o, vw_frz e⟩
  · rcases h with h | ⟨o, h⟩
    · rw [h] at e; exact .inl (vw_tup e)
    · rw [h] at e; exact .inr ⟨o, vw_frz e⟩
  · rcases h with h | ⟨o, h⟩
    · rw [h] at e; exact vw_dK e
    · rw [h] at e; exact vw_dK e
  · rcases h with h | ⟨o, h⟩
    · rw [h] at e; exact vw_dT e
    · rw [h] at e; exact vw_dT e

mutual
theorem Den.grow {G S H S' H'} (g : Grow S H S' H') : ∀ {d v}, Den G S H d v → Den G S' H' d v
  | .non, _, h | .bl _, _, h | .int _, _, h | .str _, _, h | .fn _, _, h | .ty _, _, h | .cls _, _, h => by simpa only [Den] using h
  | .tup ds, v, h => by
    simp only [Den] at h ⊢
    obtain ⟨a, vs, e, q, l⟩ := h
    refine ⟨a, vs, e, ?_, DenL.grow g l⟩
    rcases q with ⟨s, r⟩ | q
    · exact .inl ⟨(g a s).1, Rd.grow g s r (.inr (.inl ⟨_, rfl⟩))⟩
    · exact .inr q
  | .lst ds, v, h => by
    simp only [Den] at h ⊢
    obtain ⟨a, vs, e, s, r, l⟩ := h
    exact ⟨a, vs, e, (g a s).1, vw_lst ((g a s).2.1.trans (by rw [r]; rfl)), DenL.grow g l⟩
  | .rol ds, v, h => by
    simp only [Den] at h ⊢
    obtain ⟨a, vs, e, q, l⟩ := h
    refine ⟨a, vs, e, ?_, DenL.grow g l⟩
    rcases q with ⟨s, r⟩ | q
    · exact .inl ⟨(g a s).1, Rd.grow g s r (.inl ⟨_, rfl⟩)⟩
    · exact .inr q
  | .dK ds, v, h => by
    simp only [Den] at h ⊢
    obtain ⟨a, vs, e, s, r, l⟩ := h
    exact ⟨a, vs, e, (g a s).1, Rd.grow g s r (.inr (.inr (.inl ⟨_, rfl⟩))), DenK.grow g l⟩
  | .dT ds, v, h => by
    simp only [Den] at h ⊢
    obtain ⟨a, vs, e, s, r, l⟩ := h
    exact ⟨a, vs, e, (g a s).1, Rd.grow g s r (.inr (.inr (.inr ⟨_, rfl⟩))), DenT.grow g l⟩
  | .ins c ds, v, h => by
    simp only [Den] at h ⊢
    obtain ⟨a, dx, vs, e, s, s2, r, r2, l⟩ := h
    exact ⟨a, dx, vs, e, (g a s).1, (g dx s2).1, vw_ins ((g a s).2.1.trans (by rw [r]; rfl)), vw_own ((g dx s2).2.1.trans (by rw [r2]; rfl)), DenF.grow g l⟩
theorem DenL.grow {G S H S' H'} (g : Grow S H S' H') : ∀ {d v}, DenL G S H d v → DenL G S' H' d v
  | [], _, h => by simpa only [DenL] using h
  | d :: ds, v, h => by
    simp only [DenL] at h ⊢
    obtain ⟨v, r, e, p, q⟩ := h
    exact ⟨v, r, e, Den.grow g p, DenL.grow g q⟩
theorem DenK.grow {G S H S' H'} (g : Grow S H S' H') : ∀ {d v}, DenK G S H d v → DenK G S' H' d v
  | [], _, h => by simpa only [DenK] using h
  | (k, d) :: ds, v, h => by
    simp only [DenK] at h ⊢
    obtain ⟨v, r, e, p, q⟩ := h
    exact ⟨v, r, e, Den.grow g p, DenK.grow g q⟩
theorem DenT.grow {G S H S' H'} (g : Grow S H S' H') : ∀ {d v}, DenT G S H d v → DenT G S' H' d v
  | [], _, h => by simpa only [DenT] using h
  | (k, d) :: ds, v, h => by
    simp only [DenT] at h ⊢
    obtain ⟨v, r, e, p, q⟩ := h
    exact ⟨v, r, e, Den.grow g p, DenT.grow g q⟩
theorem DenF.grow {G S H S' H'} (g : Grow S H S' H') : ∀ {d v}, DenF G S H d v → DenF G S' H' d v
  | [], _, h => by simpa only [DenF] using h
  | (k, d) :: ds, v, h => by
    simp only [DenF] at h ⊢
    obtain ⟨v, r, e, p, q⟩ := h
    exact ⟨v, r, e, Den.grow g p, DenF.grow g q⟩
end

end Rm
namespace Rm
open PySem PySem.Spec L2

def All3 (P : D → V → List Addr → Prop) : List D → List V → List Addr → Prop
  | [], vs, M => vs = [] ∧ M = []
  | d :: ds, vs, M => ∃ v r L1 L2, vs = v :: r ∧ M = L1 ++ L2 ∧ P d v L1 ∧ All3 P ds r L2

/-- owned down to a depth; the addresses that are owned -/
def DenO (G : Gx) (S : Rg) (H : Hp) : Nat → D → V → List Addr → Prop
  | 0, d, v, L => Den G S H d v ∧ L = []
  | k + 1, .lst ds, v, L => ∃ a vs M, v = .ref a ∧ H a = some (.lst vs) ∧ L = a :: M ∧ All3 (DenO G S H k) ds vs M
  | k + 1, .dK ds, v, L => ∃ a ws M, v = .ref a ∧ H a = some (.dK ws) ∧ L = a :: M ∧ ws.map (·.1) = ds.map (·.1) ∧ All3 (DenO G S H k) (ds.map (·.2)) (ws.map (·.2)) M
  | k + 1, .dT ds, v, L => ∃ a ws M, v = .ref a ∧ H a = some (.dT ws) ∧ L = a :: M ∧ ws.map (·.1) = ds.map (·.1) ∧ All3 (DenO G S H k) (ds.map (·.2)) (ws.map (·.2)) M
  | k + 1, .ins c ds, v, L => ∃ a dx ws M, v = .ref a ∧ H a = some (.ins (G.cl c) dx ws) ∧ H dx = some (.own a) ∧ L = a :: dx :: M ∧ ws.map (·.1) = ds.map (·.1) ∧ All3 (DenO G S H k) (ds.map (·.2)) (ws.map (·.2)) M
  | _ + 1, d, v, L => Den G S H d v ∧ L = []

theorem All3.imp {P Q : D → V → List Addr → Prop} : ∀ {ds vs M}, (∀ d v L, (∀ a ∈ L, a ∈ M) → P d v L → Q d v L) → All3 P ds vs M → All3 Q ds vs M
  | [], _, _, _, h => h
  | d :: ds, vs, M, f, h => by
    obtain ⟨v, r, L1, L2, e1, e2, p, q⟩ := h
    subst e2
    exact ⟨v, r, L1, L2, e1, rfl, f _ _ _ (fun a m => List.mem_append_left _ m) p, All3.imp (fun d v L hs => f d v L fun a m => List.mem_append_right _ (hs a m)) q⟩

theorem DenK_iff {G S H} : ∀ {kvs : List (Key × D)} {ws}, DenK G S H kvs ws ↔ ws.map (·.1) = kvs.map (·.1) ∧ DenL G S H (kvs.map (·.2)) (ws.map (·.2))
  | [], ws => by cases ws <;> simp [DenK, DenL]
  | (k, d) :: r, ws => by
    cases ws with
    | nil => simp [DenK, DenL]
    | cons w ws =>
      obtain ⟨k', v⟩ := w
      simp only [DenK, DenL, List.map_cons, List.cons.injEq, Prod.mk.injEq]
      constructor
      · rintro ⟨v', r', ⟨⟨rfl, rfl⟩, rfl⟩, h, q⟩
        have := DenK_iff.mp q
        exact ⟨⟨rfl, this.1⟩, _, _, ⟨rfl, rfl⟩, h, this.2⟩
      · rintro ⟨⟨rfl, e⟩, v', r', ⟨rfl, e2⟩, h, q⟩
        subst e2
        exact ⟨_, _, ⟨⟨rfl, rfl⟩, rfl⟩, h, DenK_iff.mpr ⟨e, q⟩⟩
theorem DenT_iff {G S H} : ∀ {kvs : List (List Key × D)} {ws}, DenT G S H kvs ws ↔ ws.map (·.1) = kvs.map (·.1) ∧ DenL G S H (kvs.map (·.2)) (ws.map (·.2))
  | [], ws => by cases ws <;> simp [DenT, DenL]
  | (k, d) :: r, ws => by
    cases ws with
    | nil => simp [DenT, DenL]
    | cons w ws =>
      obtain ⟨k', v⟩ := w
      simp only [DenT, DenL, List.map_cons, List.cons.injEq, Prod.mk.injEq]
      constructor
      · rintro ⟨v', r', ⟨⟨rfl, rfl⟩, rfl⟩, h, q⟩
        have := DenT_iff.mp q
        exact ⟨⟨rfl, this.1⟩, _, _, ⟨rfl, rfl⟩, h, this.2⟩
      · rintro ⟨⟨rfl, e⟩, v', r', ⟨rfl, e2⟩, h, q⟩
        subst e2
        exact ⟨_, _, ⟨⟨rfl, rfl⟩, rfl⟩, h, DenT_iff.mpr ⟨e, q⟩⟩
theorem DenF_iff {G S H} : ∀ {kvs : List (Str × D)} {ws}, DenF G S H kvs ws ↔ ws.map (·.1) = kvs.map (·.1) ∧ DenL G S H (kvs.map (·.2)) (ws.map (·.2))
  | [], ws => by cases ws <;> simp [DenF, DenL]
  | (k, d) :: r, ws => by
    cases ws with
    | nil => simp [DenF, DenL]
    | cons w ws =>
      obtain ⟨k', v⟩ := w
      simp only [DenF, DenL, List.map_cons, List.cons.injEq, Prod.mk.injEq]
      constructor
      · rintro ⟨v', r', ⟨⟨rfl, rfl⟩, rfl⟩, h, q⟩
        have := DenF_iff.mp q
        exact ⟨⟨rfl, this.1⟩, _, _, ⟨rfl, rfl⟩, h, this.2⟩
      · rintro ⟨⟨rfl, e⟩, v', r', ⟨rfl, e2⟩, h, q⟩
        subst e2
        exact ⟨_, _, ⟨⟨rfl, rfl⟩, rfl⟩, h, DenF_iff.mpr ⟨e, q⟩⟩

theorem All3_zero {G S H} : ∀ {ds vs M}, All3 (DenO G S H 0) ds vs M ↔ DenL G S H ds vs ∧ M = []
  | [], vs, M => by simp [All3, DenL]
  | d :: ds, vs, M => by
    constructor
    · rintro ⟨v, r, L1, L2, rfl, rfl, p, q⟩
      have q' := All3_zero.mp q
      have p' : Den G S H d v ∧ L1 = [] := p
      exact ⟨by simp only [DenL]; exact ⟨v, r, rfl, p'.1, q'.1⟩, by rw [p'.2, q'.2]; rfl⟩
    · rintro ⟨h, rfl⟩
      simp only [DenL] at h
      obtain ⟨v, r, rfl, p, q⟩ := h
      exact ⟨v, r, [], [], rfl, rfl, ⟨p, rfl⟩, All3_zero.mpr ⟨q, rfl⟩⟩

/-- what is owned becomes shared -/
theorem All3.freeze {G S H S'} {k : Nat} (ih : ∀ d v L, (∀ a ∈ L, S' a) → DenO G S H k d v L → Den G S' H d v) : ∀ {ds vs M}, (∀ a ∈ M, S' a) → All3 (DenO G S H k) ds vs M → DenL G S' H ds vs
  | [], _, _, _, h => h.1
  | d :: ds, vs, M, f, h => by
    obtain ⟨v, r, L1, L2, e1, e2, p, q⟩ := h
    subst e2
    exact ⟨v, r, e1, ih _ _ _ (fun a m => f a (List.mem_append_left _ m)) p, All3.freeze ih (fun a m => f a (List.mem_append_right _ m)) q⟩
theorem DenO.freeze {G S H S'} (g : ∀ a, S a → S' a) : ∀ {k : Nat} {d v L}, (∀ a ∈ L, S' a) → DenO G S H k d v L → Den G S' H d v
  | 0, d, v, L, _, h => h.1.grow (Grow.of fun a s => ⟨g a s, rfl⟩)
  | k + 1, .lst ds, v, L, f, h => by
    obtain ⟨a, vs, M, rfl, e, rfl, q⟩ := h
    simp only [Den]
    exact ⟨a, vs, rfl, f a (List.mem_cons_self ..), e, All3.freeze (fun _ _ _ f h => DenO.freeze g f h) (fun b m => f b (List.mem_cons_of_mem _ m)) q⟩
  | k + 1, .dK ds, v, L, f, h => by
    obtain ⟨a, vs, M, rfl, e, rfl, kk, q⟩ := h
    simp only [Den]
    exact ⟨a, vs, rfl, f a (List.mem_cons_self ..), .inl e, DenK_iff.mpr ⟨kk, All3.freeze (fun _ _ _ f h => DenO.freeze g f h) (fun b m => f b (List.mem_cons_of_mem _ m)) q⟩⟩
  | k + 1, .dT ds, v, L, f, h => by
    obtain ⟨a, vs, M, rfl, e, rfl, kk, q⟩ := h
    simp only [Den]
    exact ⟨a, vs, rfl, f a (List.mem_cons_self ..), .inl e, DenT_iff.mpr ⟨kk, All3.freeze (fun _ _ _ f h => DenO.freeze g f h) (fun b m => f b (List.mem_cons_of_mem _ m)) q⟩⟩
  | k + 1, .ins c ds, v, L, f, h => by
    obtain ⟨a, dx, vs, M, rfl, e, e2, rfl, kk, q⟩ := h
    simp only [Den]
    exact ⟨a, dx, vs, rfl, f a (List.mem_cons_self ..), f dx (List.mem_cons_of_mem _ (List.mem_cons_self ..)), e, e2, DenF_iff.mpr ⟨kk, All3.freeze (fun _ _ _ f h => DenO.freeze g f h) (fun b m => f b (List.mem_cons_of_mem _ (List.mem_cons_of_mem _ m))) q⟩⟩
  | k + 1, .non, v, L, _, h | k + 1, .bl _, v, L, _, h | k + 1, .int _, v, L, _, h | k + 1, .str _, v, L, _, h | k + 1, .tup _, v, L, _, h | k + 1, .fn _, v, L, _, h | k + 1, .rol _, v, L, _, h | k + 1, .ty _, v, L, _, h | k + 1, .cls _, v, L, _, h => by
    simp only [DenO] at h
    exact h.1.grow (Grow.of fun a s => ⟨g a s, rfl⟩)

theorem DenO.grow {G S H S' H'} (g : Grow S H S' H') : ∀ {k : Nat} {d v L}, (∀ a ∈ L, H' a = H a) → DenO G S H k d v L → DenO G S' H' k d v L
  | 0, d, v, L, _, h => ⟨h.1.grow g, h.2⟩
  | k + 1, .lst ds, v, L, f, h => by
    obtain ⟨a, vs, M, rfl, e, rfl, q⟩ := h
    exact ⟨a, vs, M, rfl, (f a (List.mem_cons_self ..)).trans e, rfl, All3.imp (fun d v L hs h => DenO.grow g (fun b m => f b (List.mem_cons_of_mem _ (hs b m))) h) q⟩
  | k + 1, .dK ds, v, L, f, h => by
    obtain ⟨a, vs, M, rfl, e, rfl, kk, q⟩ := h
    exact ⟨a, vs, M, rfl, (f a (List.mem_cons_self ..)).trans e, rfl, kk, All3.imp (fun d v L hs h => DenO.grow g (fun b m => f b (List.mem_cons_of_mem _ (hs b m))) h) q⟩
  | k + 1, .dT ds, v, L, f, h => by
    obtain ⟨a, vs, M, rfl, e, rfl, kk, q⟩ := h
    exact ⟨a, vs, M, rfl, (f a (List.mem_cons_self ..)).trans e, rfl, kk, All3.imp (fun d v L hs h => DenO.grow g (fun b m => f b (List.mem_cons_of_mem _ (hs b m))) h) q⟩
  | k + 1, .ins c ds, v, L, f, h => by
    obtain ⟨a, dx, vs, M, rfl, e, e2, rfl, kk, q⟩ := h
    exact ⟨a, dx, vs, M, rfl, (f a (List.mem_cons_self ..)).trans e, (f dx (List.mem_cons_of_mem _ (List.mem_cons_self ..))).trans e2, rfl, kk, All3.imp (fun d v L hs h => DenO.grow g (fun b m => f b (List.mem_cons_of_mem _ (List.mem_cons_of_mem _ (hs b m)))) h) q⟩
  | k + 1, .non, v, L, _, h | k + 1, .bl _, v, L, _, h | k + 1, .int _, v, L, _, h | k + 1, .str _, v, L, _, h | k + 1, .tup _, v, L, _, h | k + 1, .fn _, v, L, _, h | k + 1, .rol _, v, L, _, h | k + 1, .ty _, v, L, _, h | k + 1, .cls _, v, L, _, h => by
    simp only [DenO] at h ⊢
    exact ⟨h.1.grow g, h.2⟩

/-- kinds: unknown, shared, owned down to a depth -/
inductive Kd where
  | un | sh | ow (k : Nat)
  deriving DecidableEq

structure Ent where
  k : Kd
  d : D
  v : Option V

def EntOk (G : Gx) (S : Rg) (H : Hp) (x : Ent) (L : List Addr) : Prop :=
  match x.k with
  | .un => L = []
  | .sh => L = [] ∧ ∃ v, x.v = some v ∧ Den G S H x.d v
  | .ow k => ∃ v, x.v = some v ∧ DenO G S H (k + 1) x.d v L

theorem EntOk.grow {G S H S' H' x L} (g : Grow S H S' H') (f : ∀ a ∈ L, H' a = H a) (h : EntOk G S H x L) : EntOk G S' H' x L := by
  unfold EntOk at h ⊢
  cases e : x.k with
  | un => rw [e] at h; exact h
  | sh => rw [e] at h; obtain ⟨h1, v, h2, h3⟩ := h; exact ⟨h1, v, h2, h3.grow g⟩
  | ow k => rw [e] at h; obtain ⟨v, h2, h3⟩ := h; exact ⟨v, h2, h3.grow g f⟩

/-- entries with the addresses that they own -/
inductive RelP (G : Gx) (S : Rg) (H : Hp) : List Ent → List Addr → Prop
  | nil : RelP G S H [] []
  | cons {x xs L M} : EntOk G S H x L → L.Nodup → (∀ a ∈ L, ¬ S a ∧ H a ≠ none ∧ a ∉ M) → RelP G S H xs M → RelP G S H (x :: xs) (L ++ M)

theorem RelP.off {G S H xs L} (h : RelP G S H xs L) : ∀ a ∈ L, ¬ S a ∧ H a ≠ none := by
  induction h with
  | nil => intro a m; cases m
  | cons _ _ f _ ih =>
    intro a m
    rcases List.mem_append.mp m with m | m
    · exact ⟨(f a m).1, (f a m).2.1⟩
    · exact ih a m
theorem RelP.split {G S H} : ∀ {ys xs L}, RelP G S H (ys ++ xs) L → ∃ L1 L2, L = L1 ++ L2 ∧ RelP G S H ys L1 ∧ RelP G S H xs L2 ∧ ∀ a ∈ L1, a ∉ L2
  | [], xs, L, h => ⟨[], L, rfl, .nil, h, fun _ m => nomatch m⟩
  | y :: ys, xs, L, h => by
    cases h with
    | @cons _ _ L0 M he nd f hr =>
      obtain ⟨L1, L2, rfl, h1, h2, dj⟩ := RelP.split hr
      refine ⟨L0 ++ L1, L2, by rw [List.append_assoc], .cons he nd (fun a m => ⟨(f a m).1, (f a m).2.1, fun q => (f a m).2.2 (List.mem_append_left _ q)⟩) h1, h2, fun a m => ?_⟩
      rcases List.mem_append.mp m with m | m
      · exact fun q => (f a m).2.2 (List.mem_append_right _ q)
      · exact dj a m
theorem RelP.join {G S H} : ∀ {ys xs L1 L2}, RelP G S H ys L1 → RelP G S H xs L2 → (∀ a ∈ L1, a ∉ L2) → RelP G S H (ys ++ xs) (L1 ++ L2)
  | _, _, _, _, .nil, h, _ => h
  | _, _, _, L2, .cons (x := x) (xs := xs) (L := L) (M := M) he nd f hr, h, dj => by
    rw [List.append_assoc]
    refine .cons he nd (fun a m => ⟨(f a m).1, (f a m).2.1, fun q => ?_⟩) (RelP.join hr h fun a m => dj a (List.mem_append_right _ m))
    rcases List.mem_append.mp q with q | q
    · exact (f a m).2.2 q
    · exact dj a (List.mem_append_left _ m) q
theorem RelP.keep {G S H S' H'} (g : Grow S H S' H') : ∀ {xs L}, (∀ a ∈ L, H' a = H a ∧ ¬ S' a) → RelP G S H xs L → RelP G S' H' xs L
  | _, _, _, .nil => .nil
  | _, _, k, .cons he nd f hr => .cons (he.grow g fun a m => (k a (List.mem_append_left _ m)).1) nd
      (fun a m => ⟨(k a (List.mem_append_left _ m)).2, by rw [(k a (List.mem_append_left _ m)).1]; exact (f a m).2.1, (f a m).2.2⟩)
      (RelP.keep g (fun a m => k a (List.mem_append_right _ m)) hr)
theorem RelP.perm {G S H xs ys} (p : xs.Perm ys) : ∀ {L}, RelP G S H xs L → ∃ L', L'.Perm L ∧ RelP G S H ys L' := by
  induction p with
  | nil => exact fun h => ⟨_, .refl _, h⟩
  | cons x p ih =>
    intro L h
    cases h with
    | @cons _ _ L0 M he nd f hr =>
      obtain ⟨L', pl, h'⟩ := ih hr
      exact ⟨L0 ++ L', List.Perm.append_left _ pl, .cons he nd (fun a m => ⟨(f a m).1, (f a m).2.1, fun q => (f a m).2.2 (pl.mem_iff.mp q)⟩) h'⟩
  | swap x y l =>
    intro L h
    cases h with
    | @cons _ _ L0 M he nd f hr =>
      cases hr with
      | @cons _ _ L1 M1 he1 nd1 f1 hr1 =>
        refine ⟨L1 ++ (L0 ++ M1), ?_, .cons he1 nd1 (fun a m => ⟨(f1 a m).1, (f1 a m).2.1, fun q => ?_⟩) (.cons he nd (fun a m => ⟨(f a m).1, (f a m).2.1, fun q => (f a m).2.2 (List.mem_append_right _ q)⟩) hr1)⟩
        · rw [← List.append_assoc, ← List.append_assoc]
          exact List.Perm.append_right _ List.perm_append_comm
        · rcases List.mem_append.mp q with q | q
          · exact (f a q).2.2 (List.mem_append_left _ m)
          · exact (f1 a m).2.2 q
  | trans _ _ ih1 ih2 =>
    intro L h
    obtain ⟨L1, p1, h1⟩ := ih1 h
    obtain ⟨L2, p2, h2⟩ := ih2 h1
    exact ⟨L2, p2.trans p1, h2⟩

def Rel (G : Gx) (S : Rg) (H : Hp) (xs : List Ent) : Prop := (∀ a, S a → H a ≠ none) ∧ ∃ L, RelP G S H xs L
theorem Rel.perm {G S H xs ys} (h : Rel G S H xs) (p : xs.Perm ys) : Rel G S H ys := by
  obtain ⟨al, L, h⟩ := h
  obtain ⟨L', _, h'⟩ := h.perm p
  exact ⟨al, L', h'⟩
/-- the head entry is made into others: the one step of all that is done -/
theorem Rel.step {G S H x xs S' H'} (h : Rel G S H (x :: xs)) {ys : List Ent}
    (f : ∀ L, EntOk G S H x L → L.Nodup → (∀ a ∈ L, ¬ S a ∧ H a ≠ none) → Grow S H S' H' ∧ (∀ a, H a ≠ none → a ∉ L → (S a ∨ H' a = H a)) ∧ (∀ a, S' a → S a ∨ a ∈ L ∨ H a = none) ∧ (∀ a, S' a → H' a ≠ none) ∧
      ∃ L', (∀ a ∈ L', a ∈ L ∨ H a = none) ∧ RelP G S' H' ys L') : Grow S H S' H' ∧ Rel G S' H' (ys ++ xs) := by
  obtain ⟨al, L, h⟩ := h
  cases h with
  | @cons _ _ L0 M he nd f0 hr =>
    obtain ⟨g, k, s', al', L', hl, r⟩ := f L0 he nd fun a m => ⟨(f0 a m).1, (f0 a m).2.1⟩
    refine ⟨g, al', L' ++ M, RelP.join r (hr.keep g fun a m => ?_) fun a m q => ?_⟩
    · have o := hr.off a m
      have na : a ∉ L0 := fun q => (f0 a q).2.2 m
      refine ⟨(k a o.2 na).resolve_left o.1, fun s => ?_⟩
      rcases s' a s with s | s | s
      · exact o.1 s
      · exact na s
      · exact o.2 s
    · rcases hl a m with m | m
      · exact (f0 a m).2.2 q
      · exact (hr.off a q).2 m
/-- without looking at any entry -/
theorem Rel.step0 {G S H xs S' H'} (h : Rel G S H xs) {ys : List Ent}
    (g : Grow S H S' H') (k : ∀ a, H a ≠ none → S a ∨ H' a = H a) (s' : ∀ a, S' a → S a ∨ H a = none) (al' : ∀ a, S' a → H' a ≠ none) (f : ∃ L', (∀ a ∈ L', H a = none) ∧ RelP G S' H' ys L') : Grow S H S' H' ∧ Rel G S' H' (ys ++ xs) := by
  obtain ⟨al, L, h⟩ := h
  obtain ⟨L', hl, r⟩ := f
  refine ⟨g, al', L' ++ L, RelP.join r (h.keep g fun a m => ⟨(k a (h.off a m).2).resolve_left (h.off a m).1, fun s => ?_⟩) fun a m q => (h.off a q).2 (hl a m)⟩
  rcases s' a s with s | s
  · exact (h.off a m).1 s
  · exact (h.off a m).2 s
theorem Rel.drop {G S H x xs} (h : Rel G S H (x :: xs)) : Rel G S H xs := by
  obtain ⟨al, L, h⟩ := h
  cases h with
  | cons _ _ _ hr => exact ⟨al, _, hr⟩
theorem Rel.shared {G S H xs d v} (h : Rel G S H (⟨.sh, d, some v⟩ :: xs)) : Den G S H d v := by
  obtain ⟨al, L, h⟩ := h
  cases h with
  | cons he _ _ _ =>
    obtain ⟨_, w, e, q⟩ := he
    cases e
    exact q
theorem Rel.push {G S H xs d v} (h : Rel G S H xs) (q : Den G S H d v) : Rel G S H (⟨.sh, d, some v⟩ :: xs) := by
  obtain ⟨al, L, h⟩ := h
  exact ⟨al, [] ++ L, .cons ⟨rfl, v, rfl, q⟩ .nil (fun _ m => nomatch m) h⟩
/-- owned becomes shared -/
theorem Rel.freeze {G S H xs k d v} (h : Rel G S H (⟨.ow k, d, some v⟩ :: xs)) : ∃ S', Grow S H S' H ∧ Rel G S' H (⟨.sh, d, some v⟩ :: xs) := by
  obtain ⟨al, L, h⟩ := h
  cases h with
  | @cons _ _ L0 M he nd f hr =>
    obtain ⟨w, e, q⟩ := he
    cases e
    have g : Grow S H (fun a => S a ∨ a ∈ L0) H := Grow.of fun a s => ⟨.inl s, rfl⟩
    refine ⟨fun a => S a ∨ a ∈ L0, g, fun a s => ?_, [] ++ M, .cons ⟨rfl, v, rfl, DenO.freeze (fun a s => Or.inl s) (fun a m => Or.inr m) q⟩ .nil (fun _ m => nomatch m) (hr.keep g fun a m => ⟨rfl, fun s => ?_⟩)⟩
    · rcases s with s | s
      · exact al a s
      · exact (f a s).2.1
    · rcases s with s | s
      · exact (hr.off a m).1 s
      · exact (f a s).2.2 m

end Rm
namespace Rm
open PySem PySem.Spec L2

def ents : List Kd → List D → List (Option V) → List Ent
  | k :: ks, d :: ds, v :: vs => ⟨k, d, v⟩ :: ents ks ds vs
  | _, _, _ => []

theorem ents_split : ∀ {ks : List Kd} {ds : List D} {vs : List (Option V)} {i : Nat} {k d v}, ks[i]? = some k → ds[i]? = some d → vs[i]? = some v →
    ∃ l r, ents ks ds vs = l ++ ⟨k, d, v⟩ :: r ∧ ∀ k' d' v', ents (ks.set i k') (ds.set i d') (vs.set i v') = l ++ ⟨k', d', v'⟩ :: r
  | [], _, _, i, _, _, _, h, _, _ => by simp at h
  | _ :: _, [], _, i, _, _, _, _, h, _ => by simp at h
  | _ :: _, _ :: _, [], i, _, _, _, _, _, h => by simp at h
  | k :: ks, d :: ds, v :: vs, 0, _, _, _, h1, h2, h3 => by
    simp at h1 h2 h3
    subst h1 h2 h3
    exact ⟨[], ents ks ds vs, rfl, fun _ _ _ => rfl⟩
  | k :: ks, d :: ds, v :: vs, i + 1, _, _, _, h1, h2, h3 => by
    simp at h1 h2 h3
    obtain ⟨l, r, e, f⟩ := ents_split h1 h2 h3
    refine ⟨⟨k, d, v⟩ :: l, r, by simp [ents, e], fun k' d' v' => ?_⟩
    simp only [List.set_cons_succ, ents, List.cons_append, List.cons.injEq, true_and]
    exact f k' d' v'

theorem Rel.un_eq {G S H xs d v d' v'} (h : Rel G S H (⟨.un, d, v⟩ :: xs)) : Rel G S H (⟨.un, d', v'⟩ :: xs) := by
  obtain ⟨al, L, h⟩ := h
  cases h with
  | cons he nd f hr => exact ⟨al, _, .cons he nd f hr⟩
theorem Rel.un {G S H xs d v} (h : Rel G S H xs) : Rel G S H (⟨.un, d, v⟩ :: xs) := by
  obtain ⟨al, L, h⟩ := h
  exact ⟨al, [] ++ L, .cons rfl .nil (fun _ m => nomatch m) h⟩
theorem Rel.toUn {G S H x xs d v} (h : Rel G S H (x :: xs)) : Rel G S H (⟨.un, d, v⟩ :: xs) := h.drop.un
theorem Rel.copy {G S H xs x} (h : Rel G S H xs) (m : x ∈ xs) (k : x.k = .sh) : Rel G S H (x :: xs) := by
  obtain ⟨l, r, rfl⟩ := List.append_of_mem m
  have h' := h.perm (List.perm_middle (a := x) (l₁ := l) (l₂ := r))
  obtain ⟨al, L, q⟩ := id h'
  cases q with
  | cons he _ _ _ =>
    unfold EntOk at he
    rw [k] at he
    obtain ⟨_, v, e, q⟩ := he
    obtain ⟨xk, xd, xv⟩ := x
    simp only at e k q
    subst e k
    exact h.push q
theorem Rel.has {G S H xs d v} (h : Rel G S H xs) (m : ⟨.sh, d, v⟩ ∈ xs) : ∃ w, v = some w ∧ Den G S H d w := by
  obtain ⟨l, r, rfl⟩ := List.append_of_mem m
  obtain ⟨al, L, q⟩ := h.perm (List.perm_middle (l₁ := l) (l₂ := r))
  cases q with
  | cons he _ _ _ =>
    obtain ⟨_, w, e, q⟩ := he
    exact ⟨w, e, q⟩

/-- the slots (kinds, data, values) and what else is in hand -/
structure Rl (G : Gx) (S : Rg) (H : Hp) (κ : List Kd) (env : List D) (σ : St) (R : List Ent) : Prop where
  l1 : κ.length = σ.length
  l2 : env.length = σ.length
  rel : Rel G S H (R ++ ents κ env σ)

section
variable {G : Gx} {S : Rg} {H : Hp} {κ : List Kd} {env : List D} {σ : St} {R : List Ent}
theorem Rl.drop {x} (h : Rl G S H κ env σ (x :: R)) : Rl G S H κ env σ R := ⟨h.l1, h.l2, h.rel.drop⟩
theorem Rl.slot {i : Nat} {k : Kd} {d : D} (h : Rl G S H κ env σ R) (hk : κ[i]? = some k) (hd : env[i]? = some d) : ∃ v, σ[i]? = some v := by
  have : i < σ.length := by
    have := (List.getElem?_eq_some_iff.mp hk).1
    rw [h.l1] at this
    exact this
  exact ⟨σ[i], List.getElem?_eq_getElem this⟩
/-- a shared slot is read -/
theorem Rl.read {i : Nat} {d : D} (h : Rl G S H κ env σ R) (hk : κ[i]? = some .sh) (hd : env[i]? = some d) : ∃ v, σ[i]? = some (some v) ∧ Rl G S H κ env σ (⟨.sh, d, some v⟩ :: R) := by
  obtain ⟨v, hv⟩ := h.slot hk hd
  obtain ⟨l, r, e, _⟩ := ents_split hk hd hv
  have m : (⟨.sh, d, v⟩ : Ent) ∈ R ++ ents κ env σ := by rw [e]; simp
  obtain ⟨w, rfl, q⟩ := h.rel.has m
  exact ⟨w, hv, h.l1, h.l2, h.rel.push q⟩
theorem List.set_self' {α} : ∀ {l : List α} {i : Nat} {a : α}, l[i]? = some a → l.set i a = l
  | [], _, _, h => by simp at h
  | x :: l, 0, a, h => by simp at h; simp [h]
  | x :: l, i + 1, a, h => by simp at h; simp [List.set_self' h]
/-- an owned slot is taken out -/
theorem Rl.take {i k : Nat} {d : D} (h : Rl G S H κ env σ R) (hk : κ[i]? = some (.ow k)) (hd : env[i]? = some d) : ∃ v, σ[i]? = some (some v) ∧ ∀ d', Rl G S H (κ.set i .un) (env.set i d') σ (⟨.ow k, d, some v⟩ :: R) := by
  obtain ⟨v, hv⟩ := h.slot hk hd
  obtain ⟨l, r, e, f⟩ := ents_split hk hd hv
  have p : (R ++ ents κ env σ).Perm (⟨.ow k, d, v⟩ :: (R ++ (l ++ r))) := by
    rw [e]
    refine (List.Perm.append_left R List.perm_middle).trans ?_
    exact List.perm_middle
  have h1 := h.rel.perm p
  obtain ⟨w, rfl⟩ : ∃ w, v = some w := by
    obtain ⟨al, L, q⟩ := h1
    cases q with
    | cons he _ _ _ =>
      obtain ⟨w, e, _⟩ := he
      exact ⟨w, e⟩
  refine ⟨w, hv, fun d' => ⟨by rw [List.length_set]; exact h.l1, by rw [List.length_set]; exact h.l2, ?_⟩⟩
  have e2 : ents (κ.set i .un) (env.set i d') σ = l ++ ⟨.un, d', some w⟩ :: r := by
    have := f .un d' (some w)
    rwa [List.set_self' hv] at this
  rw [e2]
  have h2 : Rel G S H (⟨.un, d', some w⟩ :: ⟨.ow k, d, some w⟩ :: (R ++ (l ++ r))) := h1.un
  refine h2.perm ?_
  refine (List.Perm.swap _ _ _).trans (List.Perm.cons _ ?_)
  refine (List.perm_middle (a := (⟨.un, d', some w⟩ : Ent)) (l₁ := R) (l₂ := l ++ r)).symm.trans ?_
  exact List.Perm.append_left R List.perm_middle.symm
/-- .. and put back -/
theorem Rl.put {i : Nat} {k k0 : Kd} {d : D} {v : V} {d0 : D} (h : Rl G S H κ env σ (⟨k, d, some v⟩ :: R)) (hk : κ[i]? = some k0) (hd : env[i]? = some d0) (hv : σ[i]? = some (some v)) : Rl G S H (κ.set i k) (env.set i d) σ R := by
  obtain ⟨l, r, e, f⟩ := ents_split hk hd hv
  refine ⟨by rw [List.length_set]; exact h.l1, by rw [List.length_set]; exact h.l2, ?_⟩
  have e2 : ents (κ.set i k) (env.set i d) σ = l ++ ⟨k, d, some v⟩ :: r := by
    have := f k d (some v)
    rwa [List.set_self' hv] at this
  rw [e2]
  have h1 : Rel G S H (⟨k, d, some v⟩ :: (R ++ (l ++ ⟨k0, d0, some v⟩ :: r))) := by
    have := h.rel
    rw [e] at this
    exact this
  have p : (⟨k, d, some v⟩ :: (R ++ (l ++ ⟨k0, d0, some v⟩ :: r))).Perm (⟨k0, d0, some v⟩ :: ⟨k, d, some v⟩ :: (R ++ (l ++ r))) := by
    refine (List.Perm.cons _ ((List.Perm.append_left R List.perm_middle).trans List.perm_middle)).trans (List.Perm.swap _ _ _)
  have h2 := (h1.perm p).drop
  refine h2.perm ?_
  exact (List.perm_middle (a := (⟨k, d, some v⟩ : Ent)) (l₁ := R) (l₂ := l ++ r)).symm.trans (List.Perm.append_left R List.perm_middle.symm)
/-- a slot is stored -/
theorem Rl.store {i : Nat} {k k0 : Kd} {d : D} {v : V} {d0 : D} (h : Rl G S H κ env σ (⟨k, d, some v⟩ :: R)) (hk : κ[i]? = some k0) (hd : env[i]? = some d0) : Rl G S H (κ.set i k) (env.set i d) (σ.set i (some v)) R := by
  obtain ⟨v0, hv⟩ := h.slot hk hd
  obtain ⟨l, r, e, f⟩ := ents_split hk hd hv
  refine ⟨by rw [List.length_set, List.length_set]; exact h.l1, by rw [List.length_set, List.length_set]; exact h.l2, ?_⟩
  rw [f k d (some v)]
  have h1 : Rel G S H (⟨k, d, some v⟩ :: (R ++ (l ++ ⟨k0, d0, v0⟩ :: r))) := by
    have := h.rel
    rw [e] at this
    exact this
  have p : (⟨k, d, some v⟩ :: (R ++ (l ++ ⟨k0, d0, v0⟩ :: r))).Perm (⟨k0, d0, v0⟩ :: ⟨k, d, some v⟩ :: (R ++ (l ++ r))) := by
    refine (List.Perm.cons _ ((List.Perm.append_left R List.perm_middle).trans List.perm_middle)).trans (List.Perm.swap _ _ _)
  have h2 := (h1.perm p).drop
  refine h2.perm ?_
  exact (List.perm_middle (a := (⟨k, d, some v⟩ : Ent)) (l₁ := R) (l₂ := l ++ r)).symm.trans (List.Perm.append_left R List.perm_middle.symm)
/-- a slot is forgotten -/
theorem Rl.forget {i : Nat} (h : Rl G S H κ env σ R) : Rl G S H (κ.set i .un) env σ R := by
  by_cases hi : i < κ.length
  · have hk : κ[i]? = some κ[i] := List.getElem?_eq_getElem hi
    have hd : env[i]? = some (env[i]'(by rw [h.l2, ← h.l1]; exact hi)) := List.getElem?_eq_getElem _
    obtain ⟨v0, hv⟩ := h.slot hk hd
    obtain ⟨l, r, e, f⟩ := ents_split hk hd hv
    refine ⟨by rw [List.length_set]; exact h.l1, h.l2, ?_⟩
    have e2 := f .un (env[i]'(by rw [h.l2, ← h.l1]; exact hi)) v0
    rw [List.set_self' hd, List.set_self' hv] at e2
    rw [e2]
    have h1 := h.rel
    rw [e] at h1
    have h2 := h1.perm ((List.Perm.append_left R List.perm_middle).trans List.perm_middle)
    exact (h2.toUn (d := _) (v := v0)).perm (List.perm_middle.symm.trans (List.Perm.append_left R List.perm_middle.symm))
  · rw [List.set_eq_of_length_le (Nat.le_of_not_lt hi)]
    exact h
theorem Rl.temp {x} (h : Rl G S H κ env σ R) {S' H'} (f : ∀ xs, Rel G S H (xs) → Rel G S' H' (x :: xs)) : Rl G S' H' κ env σ (x :: R) := ⟨h.l1, h.l2, f _ h.rel⟩
end

/-- less is known of the slots -/
def Kd.le : Kd → Kd → Bool
  | .un, _ => true
  | k, k' => k == k'
def kle (a b : List Kd) : Bool := a.length == b.length && (a.zip b).all fun p => p.1.le p.2
theorem Rl.weak {G S H} {κ κ' : List Kd} {env σ R} (h : Rl G S H κ env σ R) (l : kle κ' κ = true) : Rl G S H κ' env σ R := by
  obtain ⟨h1, h2, hr⟩ := h
  simp only [kle, Bool.and_eq_true, beq_iff_eq] at l
  obtain ⟨l1, l2⟩ := l
  refine ⟨l1.trans h1, h2, ?_⟩
  clear h1 h2
  have key : ∀ (κ κ' : List Kd) (env : List D) (σ : St) (R : List Ent), κ'.length = κ.length → (κ'.zip κ).all (fun p => p.1.le p.2) = true → Rel G S H (R ++ ents κ env σ) → Rel G S H (R ++ ents κ' env σ) := by
    intro κ
    induction κ with
    | nil =>
      intro κ' env σ R e1 _ h
      have : κ' = [] := List.length_eq_zero_iff.mp e1
      subst this
      exact h
    | cons k ks ih =>
      intro κ' env σ R e1 e2 h
      cases κ' with
      | nil => simp at e1
      | cons k' ks' =>
        cases env with
        | nil => exact h
        | cons d ds =>
          cases σ with
          | nil => exact h
          | cons v vs =>
            simp only [List.zip_cons_cons, List.all_cons, Bool.and_eq_true] at e2
            have e1' : ks'.length = ks.length := by simpa using e1
            have h1 : Rel G S H ((R ++ [⟨k, d, v⟩]) ++ ents ks ds vs) := by simpa [ents] using h
            have h2 := ih ks' ds vs (R ++ [⟨k, d, v⟩]) e1' e2.2 h1
            have h3 : Rel G S H (R ++ ⟨k, d, v⟩ :: ents ks' ds vs) := by simpa using h2
            show Rel G S H (R ++ ⟨k', d, v⟩ :: ents ks' ds vs)
            cases k' with
            | un => exact (h3.perm List.perm_middle).toUn.perm List.perm_middle.symm
            | sh =>
              have : k = .sh := by
                have q := e2.1
                cases k <;> simp_all [Kd.le]
              subst this; exact h3
            | ow j =>
              have : k = .ow j := by
                have q := e2.1
                cases k <;> simp_all [Kd.le]
              subst this; exact h3
  exact key κ κ' env σ R l1 l2 hr

end Rm
namespace Rm
open PySem PySem.Spec L2

inductive Out (α : Type) where
  | ok (a : α) (e : List D)
  | ex (c : Nat) (fs : List (Str × D)) (e : List D)
  | stuck
abbrev M (α : Type) := List D → Out α
def Out.bind {α β : Type} (o : Out α) (f : α → List D → Out β) : Out β :=
  match o with
  | .ok a e => f a e
  | .ex c fs e => .ex c fs e
  | .stuck => .stuck
@[simp] theorem Out.bind_ok {α β} (a : α) (e) (f : α → List D → Out β) : (Out.ok a e).bind f = f a e := rfl
@[simp] theorem Out.bind_ex {α β} (c fs e) (f : α → List D → Out β) : (Out.ex c fs e : Out α).bind f = .ex c fs e := rfl
@[simp] theorem Out.bind_stuck {α β} (f : α → List D → Out β) : (Out.stuck : Out α).bind f = .stuck := rfl
inductive Fl where
  | nx | rt (d : D) | bk | ct

/-- an exception: its class, its fields -/
def RelX (G : Gx) (S : Rg) (H : Hp) (c : Nat) (fs : List (Str × D)) (cls : Value) (dx : Option Addr) : Prop :=
  cls = .ref (G.cl c) ∧ ((fs = [] ∧ dx = none) ∨ ∃ d ws, dx = some d ∧ S d ∧ H d = some (.xd ws) ∧ DenF G S H fs ws)

/-- where a def's body stands; kx: the parameters that are handed back; kr: how the answer is handed on; kb, kc: the slots at a break, at a continue -/
structure Jc where
  X : Cx
  cl : Nat → Addr
  fa : Nat → Addr
  W : WX
  kx : List Kd
  kr : Kd
  kb : List Kd
  kc : List Kd
  tk : Takes X W
  calm : X.calm = true
  po : PassesOwn (model X.prog X.w) X.A X.env X.xe
abbrev Jc.G (J : Jc) : Gx := ⟨J.X.K, J.cl, J.fa⟩

def XPost (J : Jc) (R : List Ent) (S : Rg) (H : Hp) (σ : St) (c : Nat) (fs : List (Str × D)) (e : List D) : Prop :=
  ∀ S' H' cls dx, Grow S H S' H' → RelX J.G S' H' c fs cls dx → Rl J.G S' H' J.kx e σ R → J.W cls dx σ H'
def Req {α : Type} (J : Jc) (R : List Ent) (S : Rg) (H : Hp) (σ : St) (o : Out α) (K : α → List D → Prop) : Prop :=
  match o with
  | .ok a e => K a e
  | .ex c fs e => XPost J R S H σ c fs e
  | .stuck => False
theorem Req.mono {α J R S H σ} {o : Out α} {K K' : α → List D → Prop} (h : Req J R S H σ o K) (f : ∀ a e, o = .ok a e → K a e → K' a e) : Req J R S H σ o K' := by
  cases o with
  | ok a e => exact f a e rfl h
  | ex c fs e => exact h
  | stuck => exact h
theorem Req.bind {α β J R S H σ} {o : Out α} {F : α → List D → Out β} {K : β → List D → Prop} (h : Req J R S H σ (o.bind F) K) : Req J R S H σ o fun a e => Req J R S H σ (F a e) K := by
  cases o with
  | ok a e => exact h
  | ex c fs e => exact h
  | stuck => exact h
theorem Req.later {α J R S H S' H' σ} {o : Out α} {K : α → List D → Prop} (h : Req J R S H σ o K) (g : Grow S H S' H') : Req J R S' H' σ o K := by
  cases o with
  | ok a e => exact h
  | ex c fs e => exact fun S2 H2 cls dx g2 => h S2 H2 cls dx (g.trans g2)
  | stuck => exact h
theorem Req.tmp {α J R S H σ} {o : Out α} {K : α → List D → Prop} (h : Req J R S H σ o K) (x : Ent) : Req J (x :: R) S H σ o K := by
  cases o with
  | ok a e => exact h
  | ex c fs e => exact fun S2 H2 cls dx g2 rx rl => h S2 H2 cls dx g2 rx rl.drop
  | stuck => exact h

structure Ex (J : Jc) (κ : List Kd) (e : Expr) (k : Kd) (f : M D) (κ' : List Kd) : Prop where
  ex : ∃ t : TE, PE J.X e t ∧ ∀ R S H σ env Q, Rl J.G S H κ env σ R →
    Req J R S H σ (f env) (fun d e => ∀ S' H' v, Grow S H S' H' → Rl J.G S' H' κ' e σ (⟨k, d, some v⟩ :: R) → Q v H') → t σ H Q
structure Tx (J : Jc) (κ : List Kd) (e : Expr) (f : M Bool) (κ' : List Kd) : Prop where
  ex : ∃ t : TT, PT J.X e t ∧ ∀ R S H σ env Q, Rl J.G S H κ env σ R →
    Req J R S H σ (f env) (fun b e => ∀ S' H', Grow S H S' H' → Rl J.G S' H' κ' e σ R → Q b H') → t σ H Q

def vr (i : Nat) : M D := fun e => match e[i]? with | some d => .ok d e | none => .stuck
def cn (d : D) : M D := fun e => .ok d e
def op2 (fa fb : M D) (g : D → D → Option D) : M D := fun e => (fa e).bind fun x e => (fb e).bind fun y e => match g x y with | some d => .ok d e | none => .stuck
def op1 (fa : M D) (g : D → Option D) : M D := fun e => (fa e).bind fun x e => match g x with | some d => .ok d e | none => .stuck

section
variable {J : Jc} {κ κ1 κ2 κ3 κ' : List Kd} {a b c e : Expr} {pos : Pos} {fa fb fc f : M D} {k ka kb kc : Kd}

theorem ex_var (i : Nat) {x : Str} (hN : J.X.N[i]? = some x) (hv : Vis J.X.env.scope x) (hk : κ[i]? = some .sh) (hd : (x == ("__debug__" : Str)) = false := by decide) (hcd : (x == ("__classdict__" : Str)) = false := by decide) :
    Ex J κ (.Name x pos) .sh (vr i) κ := by
  refine ⟨tVar i, pe_var hN hv hd hcd, fun R S H σ env Q h q => ?_⟩
  unfold vr at q
  cases ed : env[i]? with
  | none => rw [ed] at q; exact q.elim
  | some d =>
    rw [ed] at q
    obtain ⟨v, hv, h'⟩ := h.read hk ed
    exact ⟨v, hv, q S H v .refl h'⟩
/-- an owned name is handed on: the slot is empty behind it -/
theorem ex_move (i j : Nat) {x : Str} (hN : J.X.N[i]? = some x) (hv : Vis J.X.env.scope x) (hk : κ[i]? = some (.ow j)) (hd : (x == ("__debug__" : Str)) = false := by decide) (hcd : (x == ("__classdict__" : Str)) = false := by decide) :
    Ex J κ (.Name x pos) (.ow j) (vr i) (κ.set i .un) := by
  refine ⟨tVar i, pe_var hN hv hd hcd, fun R S H σ env Q h q => ?_⟩
  unfold vr at q
  cases ed : env[i]? with
  | none => rw [ed] at q; exact q.elim
  | some d =>
    rw [ed] at q
    obtain ⟨v, hv, h'⟩ := h.take hk ed
    have h2 := h' d
    rw [List.set_self' ed] at h2
    exact ⟨v, hv, q S H v .refl h2⟩
/-- an owned name is read: it is shared from here on -/
theorem ex_share (i j : Nat) {x : Str} (hN : J.X.N[i]? = some x) (hv : Vis J.X.env.scope x) (hk : κ[i]? = some (.ow j)) (hd : (x == ("__debug__" : Str)) = false := by decide) (hcd : (x == ("__classdict__" : Str)) = false := by decide) :
    Ex J κ (.Name x pos) .sh (vr i) (κ.set i .sh) := by
  refine ⟨tVar i, pe_var hN hv hd hcd, fun R S H σ env Q h q => ?_⟩
  unfold vr at q
  cases ed : env[i]? with
  | none => rw [ed] at q; exact q.elim
  | some d =>
    rw [ed] at q
    obtain ⟨v, hv, h'⟩ := h.take hk ed
    have h2 := h' d
    rw [List.set_self' ed] at h2
    obtain ⟨S', g, r⟩ := h2.rel.freeze
    have h3 : Rl J.G S' H (κ.set i .un) env σ (⟨.sh, d, some v⟩ :: ⟨.sh, d, some v⟩ :: R) := ⟨h2.l1, h2.l2, Rel.push r (Rel.shared r)⟩
    have h4 := h3.put (i := i) (k0 := .un) (d0 := d) (by rw [List.getElem?_set_self]; exact (List.getElem?_eq_some_iff.mp hk).1) ed hv
    rw [List.set_set, List.set_self' ed] at h4
    exact ⟨v, hv, q S' H v g h4⟩
theorem ex_cn {v : V} {d : D} (h : PE J.X e (tC v)) (hd : ∀ S H, Den J.G S H d v) : Ex J κ e .sh (cn d) κ :=
  ⟨tC v, h, fun R S H σ env Q h q => q S H v .refl ⟨h.l1, h.l2, h.rel.push (hd S H)⟩⟩
theorem ex_int {i j pos} : Ex J κ (.Constant (.int i) j pos) .sh (cn (.int i)) κ := ex_cn pe_int fun _ _ => by simp only [Den]
theorem ex_bl {i j pos} : Ex J κ (.Constant (.bool i) j pos) .sh (cn (.bl i)) κ := ex_cn pe_bl fun _ _ => by simp only [Den]
theorem ex_non {j pos} : Ex J κ (.Constant .none j pos) .sh (cn .non) κ := ex_cn pe_non fun _ _ => by simp only [Den]
theorem ex_str {x j pos} : Ex J κ (.Constant (.str x) j pos) .sh (cn (.str x)) κ := ex_cn pe_str fun _ _ => by simp only [Den]
/-- a module's constant -/
theorem ex_glob {x : Str} {v : V} {u : Value} {d : D} (hg : Gl J.X x) (hm : J.X.mg x = some u) (r : RelV v u) (hd : ∀ S H, Den J.G S H d v) (hdb : (x == ("__debug__" : Str)) = false := by decide) : Ex J κ (.Name x pos) .sh (cn d) κ :=
  ex_cn (pe_glob hg hm r hdb) hd
/-- forgetting -/
theorem Ex.weak (h : Ex J κ e k f κ1) (l : kle κ' κ1 = true) : Ex J κ e k f κ' := by
  obtain ⟨t, p, q⟩ := h.ex
  exact ⟨t, p, fun R S H σ env Q h hq => q R S H σ env Q h (hq.mono fun d e _ z S' H' v g r => z S' H' v g (r.weak l))⟩
/-- what is new and owned is shared -/
theorem Ex.frz {j : Nat} (h : Ex J κ e (.ow j) f κ1) : Ex J κ e .sh f κ1 := by
  obtain ⟨t, p, q⟩ := h.ex
  refine ⟨t, p, fun R S H σ env Q h hq => q R S H σ env Q h (hq.mono fun d e _ z S' H' v g r => ?_)⟩
  obtain ⟨S2, g2, r2⟩ := r.rel.freeze
  exact z S2 H' v (g.trans g2) ⟨r.l1, r.l2, r2⟩

/-- an operation on two values, as data -/
def OpD (G : Gx) (r : R2) (ka kb : Kd) (g : D → D → Option D) (kr : Kd) : Prop := ∀ S H x y u v d (xs : List Ent) (Q : VK), g x y = some d → Rel G S H (⟨kb, y, some v⟩ :: ⟨ka, x, some u⟩ :: xs) →
  (∀ S' H' w, Grow S H S' H' → Rel G S' H' (⟨kr, d, some w⟩ :: xs) → Q w H') → r u v H Q
theorem op2_req {ta tb : TE} {r : R2} {g : D → D → Option D} (ho : OpD J.G r ka kb g k)
    (ra : ∀ R S H σ env Q, Rl J.G S H κ env σ R → Req J R S H σ (fa env) (fun d e => ∀ S' H' v, Grow S H S' H' → Rl J.G S' H' κ1 e σ (⟨ka, d, some v⟩ :: R) → Q v H') → ta σ H Q)
    (rb : ∀ R S H σ env Q, Rl J.G S H κ1 env σ R → Req J R S H σ (fb env) (fun d e => ∀ S' H' v, Grow S H S' H' → Rl J.G S' H' κ2 e σ (⟨kb, d, some v⟩ :: R) → Q v H') → tb σ H Q)
    {R S H σ env} {Q : VK} (h : Rl J.G S H κ env σ R) (hq : Req J R S H σ (op2 fa fb g env) (fun d e => ∀ S' H' v, Grow S H S' H' → Rl J.G S' H' κ2 e σ (⟨k, d, some v⟩ :: R) → Q v H')) : tOp r ta tb σ H Q := by
  refine ra _ _ _ _ _ _ h (hq.bind.mono fun x e1 _ h1 S1 H1 u g1 r1 => ?_)
  refine rb _ _ _ _ _ _ r1 (((h1.bind.later g1).tmp _).mono fun y e2 _ h2 S2 H2 v g2 r2 => ?_)
  cases ed : g x y with
  | none => rw [ed] at h2; exact h2.elim
  | some d =>
    rw [ed] at h2
    exact ho S2 H2 x y u v d _ Q ed r2.rel fun S3 H3 w g3 r3 => h2 S3 H3 w ((g1.trans g2).trans g3) ⟨r2.l1, r2.l2, r3⟩
theorem ex_op {op : Operator} {r : R2} {g : D → D → Option D} (hr : OpR J.X (binaryOp op) r) (ho : OpD J.G r ka kb g k) (ha : Ex J κ a ka fa κ1) (hb : Ex J κ1 b kb fb κ2) : Ex J κ (.BinOp a op b pos) k (op2 fa fb g) κ2 := by
  obtain ⟨ta, pa, ra⟩ := ha.ex
  obtain ⟨tb, pb, rb⟩ := hb.ex
  exact ⟨tOp r ta tb, pe_op hr pa pb, fun R S H σ env Q h hq => op2_req ho ra rb h hq⟩
theorem ex_cmp {op : CmpOp} {r : R2} {g : D → D → Option D} (hr : OpR J.X (compareOp op) r) (ho : OpD J.G r ka kb g k) (ha : Ex J κ a ka fa κ1) (hb : Ex J κ1 b kb fb κ2) (hm : behindInMarks op b = false) :
    Ex J κ (.Compare a [op] [b] pos) k (op2 fa fb g) κ2 := by
  obtain ⟨ta, pa, ra⟩ := ha.ex
  obtain ⟨tb, pb, rb⟩ := hb.ex
  exact ⟨tOp r ta tb, pe_cmpR hr pa pb hm, fun R S H σ env Q h hq => op2_req ho ra rb h hq⟩
/-- a one-place operation -/
def UnD (G : Gx) (r : V → Hp → VK → Prop) (ka : Kd) (g : D → Option D) (kr : Kd) : Prop := ∀ S H x u d (xs : List Ent) (Q : VK), g x = some d → Rel G S H (⟨ka, x, some u⟩ :: xs) →
  (∀ S' H' w, Grow S H S' H' → Rel G S' H' (⟨kr, d, some w⟩ :: xs) → Q w H') → r u H Q
theorem ex_un {op : UnaryOp} {r : V → Hp → VK → Prop} {g : D → Option D} (hr : UnR J.X (unaryOp op) r) (ho : UnD J.G r ka g k) (ha : Ex J κ a ka fa κ1) : Ex J κ (.UnaryOp op a pos) k (op1 fa g) κ1 := by
  obtain ⟨ta, pa, ra⟩ := ha.ex
  refine ⟨tUn r ta, pe_un hr pa, fun R S H σ env Q h hq => ra _ _ _ _ _ _ h (hq.bind.mono fun x e1 _ h1 S1 H1 u g1 r1 => ?_)⟩
  cases ed : g x with
  | none => rw [ed] at h1; exact h1.elim
  | some d =>
    rw [ed] at h1
    exact ho S1 H1 x u d _ Q ed r1.rel fun S3 H3 w g3 r3 => h1 S3 H3 w (g1.trans g3) ⟨r1.l1, r1.l2, r3⟩

def asB (f : M D) : M Bool := fun e => (f e).bind fun d e => match d with | .bl b => .ok b e | _ => .stuck
theorem tx_val (h : Ex J κ e .sh f κ1) (he : ∀ whole, isTrue e J.X.env whole = (do let v ← whole; standAt e.pos; holding [v] (truthy v)) := by intro _; rfl) : Tx J κ e (asB f) κ1 := by
  obtain ⟨t, p, q⟩ := h.ex
  refine ⟨tB t, pt_val p he, fun R S H σ env Q h hq => q _ _ _ _ _ _ h (hq.bind.mono fun d e _ z S1 H1 v g1 r1 => ?_)⟩
  cases d with
  | bl b =>
    have := r1.rel.shared
    simp only [Den] at this
    exact ⟨b, this, z S1 H1 g1 r1.drop⟩
  | _ => exact z.elim
theorem tx_cmp {op : CmpOp} {r : R2} {g : D → D → Option D} (hr : OpR J.X (compareOp op) r) (ho : OpD J.G r ka kb g .sh) (ha : Ex J κ a ka fa κ1) (hb : Ex J κ1 b kb fb κ2) (hm : behindInMarks op b = false) :
    Tx J κ (.Compare a [op] [b] pos) (asB (op2 fa fb g)) κ2 := by
  obtain ⟨ta, pa, ra⟩ := ha.ex
  obtain ⟨tb, pb, rb⟩ := hb.ex
  refine ⟨tTest (tOp r ta tb), pt_cmpR hr pa pb hm, fun R S H σ env Q h hq => op2_req ho ra rb h (hq.bind.mono fun d e _ z S1 H1 v g1 r1 => ?_)⟩
  cases d with
  | bl b =>
    have := r1.rel.shared
    simp only [Den] at this
    exact ⟨b, this, z S1 H1 g1 r1.drop⟩
  | _ => exact z.elim
def notB (f : M Bool) : M Bool := fun e => (f e).bind fun b e => .ok (!b) e
def andB (f g : M Bool) : M Bool := fun e => (f e).bind fun b e => if b = true then g e else .ok false e
def orB (f g : M Bool) : M Bool := fun e => (f e).bind fun b e => if b = true then .ok true e else g e
variable {f1 f2 : M Bool}
theorem tx_not (h : Tx J κ e f1 κ1) : Tx J κ (.UnaryOp .Not e pos) (notB f1) κ1 := by
  obtain ⟨t, p, q⟩ := h.ex
  exact ⟨tNot t, pt_not p, fun R S H σ env Q h hq => q _ _ _ _ _ _ h (hq.bind.mono fun d e _ z S1 H1 g1 r1 => z S1 H1 g1 r1)⟩
/-- chains of and, of or -/
structure Wx (J : Jc) (κ : List Kd) (e : Expr) (f : M Bool) (κ' : List Kd) : Prop where
  ex : ∃ t : TT, PW J.X e t ∧ ∀ R S H σ env Q, Rl J.G S H κ env σ R →
    Req J R S H σ (f env) (fun b e => ∀ S' H', Grow S H S' H' → Rl J.G S' H' κ' e σ R → Q b H') → t σ H Q
theorem Wx.tx (h : Wx J κ e f1 κ1) : Tx J κ e f1 κ1 := by
  obtain ⟨t, p, q⟩ := h.ex
  exact ⟨t, p.pt, q⟩
theorem wx_and1 (h : Tx J κ a f1 κ) : Wx J κ (.BoolOp .And [a] pos) f1 κ := by
  obtain ⟨t, p, q⟩ := h.ex
  exact ⟨t, pw_and1 p, q⟩
theorem wx_or1 (h : Tx J κ a f1 κ) : Wx J κ (.BoolOp .Or [a] pos) f1 κ := by
  obtain ⟨t, p, q⟩ := h.ex
  exact ⟨t, pw_or1 p, q⟩
theorem wx_and {rest : List Expr} (h1 : Tx J κ a f1 κ) (h2 : Wx J κ (.BoolOp .And (b :: rest) pos) f2 κ) : Wx J κ (.BoolOp .And (a :: b :: rest) pos) (andB f1 f2) κ := by
  obtain ⟨t, p, q⟩ := h1.ex
  obtain ⟨t2, p2, q2⟩ := h2.ex
  refine ⟨tAnd t t2, pw_and p p2, fun R S H σ env Q h hq => q _ _ _ _ _ _ h (hq.bind.mono fun d e _ z S1 H1 g1 r1 => ?_)⟩
  cases d with
  | true => exact iteT (q2 _ _ _ _ _ _ r1 ((Req.later z g1).mono fun b e _ z S2 H2 g2 r2 => z S2 H2 (g1.trans g2) r2))
  | false => exact iteF (z S1 H1 g1 r1)
theorem wx_or {rest : List Expr} (h1 : Tx J κ a f1 κ) (h2 : Wx J κ (.BoolOp .Or (b :: rest) pos) f2 κ) : Wx J κ (.BoolOp .Or (a :: b :: rest) pos) (orB f1 f2) κ := by
  obtain ⟨t, p, q⟩ := h1.ex
  obtain ⟨t2, p2, q2⟩ := h2.ex
  refine ⟨tOr t t2, pw_or p p2, fun R S H σ env Q h hq => q _ _ _ _ _ _ h (hq.bind.mono fun d e _ z S1 H1 g1 r1 => ?_)⟩
  cases d with
  | true => exact iteT (z S1 H1 g1 r1)
  | false => exact iteF (q2 _ _ _ _ _ _ r1 ((Req.later z g1).mono fun b e _ z S2 H2 g2 r2 => z S2 H2 (g1.trans g2) r2))
/-- .. as values, all of them truths -/
def bD (f : M Bool) : M D := fun e => (f e).bind fun b e => .ok (.bl b) e
structure Bx (J : Jc) (κ : List Kd) (e : Expr) (f : M Bool) : Prop where
  ex : ∃ t : TE, PE J.X e t ∧ ∀ R S H σ env (Q : VK), Rl J.G S H κ env σ R →
    Req J R S H σ (f env) (fun b e => ∀ S' H', Grow S H S' H' → Rl J.G S' H' κ e σ R → Q (.bl b) H') → t σ H Q
theorem bx_ex (h : Ex J κ e .sh f κ) : Bx J κ e (asB f) := by
  obtain ⟨t, p, q⟩ := h.ex
  refine ⟨t, p, fun R S H σ env Q h hq => q _ _ _ _ _ _ h (hq.bind.mono fun d e _ z S1 H1 v g1 r1 => ?_)⟩
  cases d with
  | bl b =>
    have := r1.rel.shared
    simp only [Den] at this
    subst this
    exact z S1 H1 g1 r1.drop
  | _ => exact z.elim
theorem Bx.ex' (h : Bx J κ e f1) : Ex J κ e .sh (bD f1) κ := by
  obtain ⟨t, p, q⟩ := h.ex
  exact ⟨t, p, fun R S H σ env Q h hq => q _ _ _ _ _ _ h (hq.bind.mono fun d e _ z S1 H1 g1 r1 => z S1 H1 _ g1 ⟨r1.l1, r1.l2, r1.rel.push (by simp only [Den])⟩)⟩
theorem bx_one {op} (h : Bx J κ a f1) : Bx J κ (.BoolOp op [a] pos) f1 := by
  obtain ⟨t, p, q⟩ := h.ex
  exact ⟨t, pe_one p, q⟩
theorem bx_and {rest : List Expr} (h1 : Bx J κ a f1) (h2 : Bx J κ (.BoolOp .And (b :: rest) pos) f2) : Bx J κ (.BoolOp .And (a :: b :: rest) pos) (andB f1 f2) := by
  obtain ⟨t, p, q⟩ := h1.ex
  obtain ⟨t2, p2, q2⟩ := h2.ex
  refine ⟨tAndV t t2, pe_and p p2, fun R S H σ env Q h hq => q _ _ _ _ _ _ h (hq.bind.mono fun d e _ z S1 H1 g1 r1 => ⟨d, rfl, ?_⟩)⟩
  cases d with
  | true => exact iteT (q2 _ _ _ _ _ _ r1 ((Req.later z g1).mono fun b e _ z S2 H2 g2 r2 => z S2 H2 (g1.trans g2) r2))
  | false => exact iteF (z S1 H1 g1 r1)
theorem bx_or {rest : List Expr} (h1 : Bx J κ a f1) (h2 : Bx J κ (.BoolOp .Or (b :: rest) pos) f2) : Bx J κ (.BoolOp .Or (a :: b :: rest) pos) (orB f1 f2) := by
  obtain ⟨t, p, q⟩ := h1.ex
  obtain ⟨t2, p2, q2⟩ := h2.ex
  refine ⟨tOrV t t2, pe_or p p2, fun R S H σ env Q h hq => q _ _ _ _ _ _ h (hq.bind.mono fun d e _ z S1 H1 g1 r1 => ⟨d, rfl, ?_⟩)⟩
  cases d with
  | true => exact iteT (z S1 H1 g1 r1)
  | false => exact iteF (q2 _ _ _ _ _ _ r1 ((Req.later z g1).mono fun b e _ z S2 H2 g2 r2 => z S2 H2 (g1.trans g2) r2))
theorem bx_not (h1 : Bx J κ a f1) : Bx J κ (.UnaryOp .Not a pos) (notB f1) := by
  obtain ⟨t, p, q⟩ := h1.ex
  exact ⟨tNotV t, pe_not p, fun R S H σ env Q h hq => q _ _ _ _ _ _ h (hq.bind.mono fun d e _ z S1 H1 g1 r1 => ⟨d, rfl, z S1 H1 g1 r1⟩)⟩
/-- a if t else b -/
def ifM {α : Type} (t : M Bool) (fa fb : M α) : M α := fun e => (t e).bind fun b e => if b = true then fa e else fb e
theorem ex_if (hc : Tx J κ c f1 κ1) (ha : Ex J κ1 a k fa κ2) (hb : Ex J κ1 b k fb κ2) : Ex J κ (.IfExp c a b pos) k (ifM f1 fa fb) κ2 := by
  obtain ⟨t, p, q⟩ := hc.ex
  obtain ⟨t2, p2, q2⟩ := ha.ex
  obtain ⟨t3, p3, q3⟩ := hb.ex
  refine ⟨tIf t t2 t3, pe_ifExp p p2 p3, fun R S H σ env Q h hq => q _ _ _ _ _ _ h (hq.bind.mono fun d e _ z S1 H1 g1 r1 => ?_)⟩
  cases d with
  | true => exact iteT (q2 _ _ _ _ _ _ r1 ((Req.later z g1).mono fun b e _ z S2 H2 v g2 r2 => z S2 H2 v (g1.trans g2) r2))
  | false => exact iteF (q3 _ _ _ _ _ _ r1 ((Req.later z g1).mono fun b e _ z S2 H2 v g2 r2 => z S2 H2 v (g1.trans g2) r2))
end
end Rm
namespace Rm
open PySem PySem.Spec L2

inductive Ak where
  | sh | io (i j : Nat)
  deriving DecidableEq
def Ak.kd : Ak → Kd | .sh => .sh | .io _ j => .ow j
/-- what a parameter is behind the call -/
def Kd.out : Kd → Kd | .ow k => .ow k | _ => .un
def AOk : List Ak → List D → List V → St → Prop
  | [], [], [], _ => True
  | a :: as, _ :: ds, v :: vs, σ => (match a with | .io i _ => σ[i]? = some (some v) | .sh => True) ∧ AOk as ds vs σ
  | _, _, _, _ => False
def backE : List Ak → List D → List D → List D
  | .io i _ :: as, o :: os, e => backE as os (e.set i o)
  | .sh :: as, _ :: os, e => backE as os e
  | _, _, e => e
def backK : List Ak → List Kd → List Kd
  | .io i k :: as, κ => backK as (κ.set i (.ow k))
  | .sh :: as, κ => backK as κ
  | [], κ => κ

theorem AOk.len : ∀ {as ds vs σ}, AOk as ds vs σ → ds.length = as.length ∧ vs.length = as.length
  | [], [], [], _, _ => ⟨rfl, rfl⟩
  | _ :: as, _ :: ds, _ :: vs, σ, h => by
    obtain ⟨_, h⟩ := h
    have := h.len
    simp [this.1, this.2]
  | [], _ :: _, _, _, h => h.elim
  | [], [], _ :: _, _, h => h.elim
  | _ :: _, [], _, _, h => h.elim
  | _ :: _, _ :: _, [], _, h => h.elim

theorem Rl.back {G S H} : ∀ {as : List Ak} {os ds : List D} {vs : List V} {κ : List Kd} {e : List D} {σ : St} {T R : List Ent}, AOk as ds vs σ → os.length = as.length →
    Rl G S H κ e σ (T ++ (ents ((as.map Ak.kd).map Kd.out) os (vs.map some) ++ R)) → Rl G S H (backK as κ) (backE as os e) σ (T ++ R)
  | [], [], [], [], κ, e, σ, T, R, _, _, h => h
  | a :: as, o :: os, d :: ds, v :: vs, κ, e, σ, T, R, ok, l, h => by
    obtain ⟨h0, ok⟩ := ok
    have l' : os.length = as.length := by simpa using l
    have hx : Rl G S H κ e σ (⟨a.kd.out, o, some v⟩ :: (T ++ (ents ((as.map Ak.kd).map Kd.out) os (vs.map some) ++ R))) := by
      refine ⟨h.l1, h.l2, h.rel.perm ?_⟩
      simp only [List.map_cons, ents, List.append_assoc, List.cons_append]
      exact List.perm_middle
    cases a with
    | sh =>
      exact Rl.back (as := as) ok l' hx.drop
    | io i k =>
      have hi : i < σ.length := (List.getElem?_eq_some_iff.mp h0).1
      have e1 : κ[i]? = some (κ[i]'(by rw [h.l1]; exact hi)) := List.getElem?_eq_getElem _
      have e2 : e[i]? = some (e[i]'(by rw [h.l2]; exact hi)) := List.getElem?_eq_getElem _
      exact Rl.back (as := as) ok l' (hx.put e1 e2 h0)
  | [], _ :: _, _, _, _, _, _, _, _, _, l, _ => by simp at l
  | _ :: _, [], _, _, _, _, _, _, _, _, l, _ => by simp at l
  | [], [], _ :: _, _, _, _, _, _, _, ok, _, _ => ok.elim
  | [], [], [], _ :: _, _, _, _, _, _, ok, _, _ => ok.elim
  | _ :: _, _ :: _, [], _, _, _, _, _, _, ok, _, _ => ok.elim
  | _ :: _, _ :: _, _ :: _, [], _, _, _, _, _, ok, _, _ => ok.elim

structure Ax (J : Jc) (κ : List Kd) (es : List Expr) (as : List Ak) (f : M (List D)) (κ' : List Kd) : Prop where
  ex : ∃ t : TA, PA J.X es t ∧ ∀ R S H σ env Q, Rl J.G S H κ env σ R →
    Req J R S H σ (f env) (fun ds e => ∀ S' H' vs, Grow S H S' H' → AOk as ds vs σ → Rl J.G S' H' κ' e σ (ents (as.map Ak.kd) ds (vs.map some) ++ R) → Q vs H') → t σ H Q
def aNil : M (List D) := fun e => .ok [] e
def aCons (fa : M D) (fr : M (List D)) : M (List D) := fun e => (fa e).bind fun d e => (fr e).bind fun ds e => .ok (d :: ds) e
section
variable {J : Jc} {κ κ1 κ2 κ3 κ' : List Kd} {a b c e : Expr} {es : List Expr} {pos p apos : Pos} {fa fb fc f : M D} {fr : M (List D)} {k ka kb kc : Kd} {as : List Ak}
theorem ax_nil : Ax J κ [] [] aNil κ := ⟨tNil, pa_nil, fun R S H σ env Q h q => q S H [] .refl trivial h⟩
theorem ax_cons (ha : Ex J κ a .sh fa κ1) (hr : Ax J κ1 es as fr κ2) (hs : starEach (a :: es) J.X.env = (false, eval a J.X.env) :: starEach es J.X.env := by rfl) : Ax J κ (a :: es) (.sh :: as) (aCons fa fr) κ2 := by
  obtain ⟨ta, pa, ra⟩ := ha.ex
  obtain ⟨tr, pr, rr⟩ := hr.ex
  refine ⟨tCons ta tr, pa_cons pa pr hs, fun R S H σ env Q h q => ra _ _ _ _ _ _ h (q.bind.mono fun d e1 _ z S1 H1 u g1 r1 => ?_)⟩
  refine rr _ _ _ _ _ _ r1 (((z.bind.later g1).tmp _).mono fun ds e2 _ z2 S2 H2 vs g2 ok r2 => ?_)
  refine z2 S2 H2 (u :: vs) (g1.trans g2) ⟨trivial, ok⟩ ⟨r2.l1, r2.l2, ?_⟩
  refine r2.rel.perm ?_
  simp only [List.map_cons, ents, Ak.kd, List.cons_append, List.append_assoc]
  exact List.perm_middle
theorem ax_io (i j : Nat) {x : Str} (hN : J.X.N[i]? = some x) (hv : Vis J.X.env.scope x) (hk : κ[i]? = some (.ow j)) (hr : Ax J (κ.set i .un) es as fr κ2)
    (hs : starEach (.Name x pos :: es) J.X.env = (false, eval (.Name x pos) J.X.env) :: starEach es J.X.env := by rfl) (hd : (x == ("__debug__" : Str)) = false := by decide) (hcd : (x == ("__classdict__" : Str)) = false := by decide) :
    Ax J κ (.Name x pos :: es) (.io i j :: as) (aCons (vr i) fr) κ2 := by
  obtain ⟨tr, pr, rr⟩ := hr.ex
  refine ⟨tCons (tVar i) tr, pa_cons (pe_var hN hv hd hcd) pr hs, fun R S H σ env Q h q => ?_⟩
  cases ed : env[i]? with
  | none => simp only [aCons, vr, ed] at q; exact q.elim
  | some d =>
    simp only [aCons, vr, ed] at q
    have q : Req J R S H σ ((fr env).bind fun ds e => .ok (d :: ds) e) _ := q
    obtain ⟨v, hv', h'⟩ := h.take hk ed
    have r1 := h' d
    rw [List.set_self' ed] at r1
    refine ⟨v, hv', rr _ _ _ _ _ _ r1 (((Req.bind q).tmp _).mono fun ds e2 _ z2 S2 H2 vs g2 ok r2 => ?_)⟩
    refine z2 S2 H2 (v :: vs) g2 ⟨hv', ok⟩ ⟨r2.l1, r2.l2, r2.rel.perm ?_⟩
    simp only [List.map_cons, ents, Ak.kd, List.cons_append, List.append_assoc]
    exact List.perm_middle
end

def SpF (G : Gx) (kp : List Kd) (kr : Kd) (F : List D → Out D) : Sp := fun vs H Q E => ∃ (S : Rg) (R : List Ent) (ds : List D), vs.length = kp.length ∧ ds.length = kp.length ∧ Rel G S H (ents kp ds (vs.map some) ++ R) ∧
  match F ds with
  | .ok d e => ∀ S' H' v, Grow S H S' H' → e.length = kp.length → Rel G S' H' (⟨kr, d, some v⟩ :: (ents (kp.map Kd.out) e (vs.map some) ++ R)) → Q v H'
  | .ex c fs e => ∀ S' H' cls dx, Grow S H S' H' → RelX G S' H' c fs cls dx → e.length = kp.length → Rel G S' H' (ents (kp.map Kd.out) e (vs.map some) ++ R) → E cls dx H'
  | .stuck => False

def callM (F : List D → Out D) (as : List Ak) (fa : M (List D)) : M D := fun e => (fa e).bind fun ds e => match F ds with
  | .ok d o => .ok d (backE as o e)
  | .ex c fs o => .ex c fs (backE as o e)
  | .stuck => .stuck

section
variable {J : Jc} {κ κ1 κ2 κ3 κ' : List Kd} {a b c e : Expr} {es : List Expr} {pos p apos : Pos} {fa fb fc f : M D} {fr : M (List D)} {k ka kb kc kr : Kd} {as : List Ak} {x m : Str} {n : Nat} {fd : FuncData} {ps : List Str} {g : Addr} {F : List D → Out D}

/-- behind a call -/
theorem call_req {R S H σ env S1 H1 vs ds} {Q : VK} {o : Out D} (hl : kle J.kx (backK as κ1) = true) (g1 : Grow S H S1 H1) (ok : AOk as ds vs σ) (r1 : Rl J.G S1 H1 κ1 env σ (ents (as.map Ak.kd) ds (vs.map some) ++ R)) (ho : F ds = o)
    (hq : Req J R S H σ (match F ds with | .ok d o => .ok d (backE as o env) | .ex c fs o => .ex c fs (backE as o env) | .stuck => .stuck) (fun d e => ∀ S' H' v, Grow S H S' H' → Rl J.G S' H' (backK as κ1) e σ (⟨kr, d, some v⟩ :: R) → Q v H')) :
    SpF J.G (as.map Ak.kd) kr F vs H1 Q (WE J.W σ) := by
  have l := ok.len
  refine ⟨S1, R ++ ents κ1 env σ, ds, by rw [l.2, List.length_map], by rw [l.1, List.length_map], by rw [← List.append_assoc]; exact r1.rel, ?_⟩
  rw [ho] at hq ⊢
  cases o with
  | stuck => exact hq
  | ok d o =>
    intro S2 H2 v g2 le r2
    refine hq S2 H2 v (g1.trans g2) (Rl.back (T := [⟨kr, d, some v⟩]) ok (by rw [le, List.length_map]) ⟨r1.l1, r1.l2, ?_⟩)
    simpa only [List.cons_append, List.nil_append, List.append_assoc] using r2
  | ex c fs o =>
    intro S2 H2 cls dx g2 rx le r2
    refine hq S2 H2 cls dx (g1.trans g2) rx ((Rl.back (T := []) ok (by rw [le, List.length_map]) ⟨r1.l1, r1.l2, ?_⟩).weak hl)
    simpa only [List.nil_append, List.append_assoc] using r2

theorem ex_call (Fk : FnOk J.X.prog J.X.w J.X.K J.X.mg J.X.base (L2.CX J.X.prog J.X.w) n g fd ps (SpF J.G (as.map Ak.kd) kr F)) (hr : Room n J.X.A) (hg : Gl J.X x) (hm : J.X.mg x = some (.ref g)) (hk : PySem.W.keepIn J.X.K (.ref g) = true) (hb : Binds J.X.K fd ps [])
    (ha : Ax J κ (e :: es) as fr κ1) (hl : kle J.kx (backK as κ1) = true) (hdb : (x == ("__debug__" : Str)) = false := by decide)
    (he : starEach (e :: es) J.X.env = (false, eval e J.X.env) :: starEach es J.X.env := by rfl) (hpl : (backTo pos (starEach es J.X.env)).any (·.1) = false := by rfl) :
    Ex J κ (.Call (.Name x p) (e :: es) [] pos) kr (callM F as fr) (backK as κ1) := by
  obtain ⟨t, pt, rt⟩ := ha.ex
  refine ⟨_, pe_callS Fk hr hg hm hk hb (fun σ => passAt J.tk σ) pt hdb he hpl, fun R S H σ env Q h hq => rt _ _ _ _ _ _ h (hq.bind.mono fun ds e1 _ z S1 H1 vs g1 ok r1 => ?_)⟩
  exact call_req hl g1 ok r1 rfl z
theorem pe_call0S {X : Cx} {CX : CXT} {sp : Sp} {E : St → XK} (F : FnOk X.prog X.w X.K X.mg X.base CX n g fd ps sp) (hr : Room n X.A) (hg : Gl X x) (hm : X.mg x = some (.ref g)) (hk : PySem.W.keepIn X.K (.ref g) = true) (hb : Binds X.K fd ps []) (hx : ∀ σ, PassesAt CX X σ (E σ))
    (hdb : (x == ("__debug__" : Str)) = false := by decide) : PE X (.Call (.Name x p) [] [] pos) (tCallS sp E tNil) := by
  refine ⟨fun pins s σ H Q I h => ?_⟩
  refine wpAny_Call_Name_kw (ld_glob I hg hm ?_ hdb)
  exact PySem.W.callWith_K0 I.kIn hk (run_fnS (us := []) F hr hb (hx σ) I .nil h)
theorem ex_call0 (Fk : FnOk J.X.prog J.X.w J.X.K J.X.mg J.X.base (L2.CX J.X.prog J.X.w) n g fd ps (SpF J.G [] kr F)) (hr : Room n J.X.A) (hg : Gl J.X x) (hm : J.X.mg x = some (.ref g)) (hk : PySem.W.keepIn J.X.K (.ref g) = true) (hb : Binds J.X.K fd ps [])
    (hl : kle J.kx κ = true) (hdb : (x == ("__debug__" : Str)) = false := by decide) : Ex J κ (.Call (.Name x p) [] [] pos) kr (callM F [] aNil) κ := by
  refine ⟨_, pe_call0S Fk hr hg hm hk hb (fun σ => passAt J.tk σ) hdb, fun R S H σ env Q h hq => ?_⟩
  exact call_req (as := []) (ds := []) (vs := []) hl .refl trivial h rfl hq
end

def Fix (kx : List Kd) (σ σ' : St) : Prop := ∀ (i k : Nat), kx[i]? = some (.ow k) → σ'[i]? = σ[i]?
theorem Fix.refl {kx σ} : Fix kx σ σ := fun _ _ _ => rfl
theorem Fix.trans {kx σ σ' σ''} (h : Fix kx σ σ') (h' : Fix kx σ' σ'') : Fix kx σ σ'' := fun i k e => (h' i k e).trans (h i k e)
def SReq (J : Jc) (κ' : List Kd) (R : List Ent) (S : Rg) (H : Hp) (σ : St) (o : Out Fl) (D : Ends) : Prop :=
  match o with
  | .ok .nx e => ∀ S' H' σ', Grow S H S' H' → Fix J.kx σ σ' → Rl J.G S' H' κ' e σ' R → D.nx σ' H'
  | .ok (.rt d) e => ∀ S' H' σ' v, Grow S H S' H' → Fix J.kx σ σ' → Rl J.G S' H' J.kx e σ' (⟨J.kr, d, some v⟩ :: R) → D.rt v H'
  | .ok .bk e => ∀ S' H' σ', Grow S H S' H' → Fix J.kx σ σ' → Rl J.G S' H' J.kb e σ' R → D.bk σ' H'
  | .ok .ct e => ∀ S' H' σ', Grow S H S' H' → Fix J.kx σ σ' → Rl J.G S' H' J.kc e σ' R → D.ct σ' H'
  | .ex c fs e => ∀ S' H' σ' cls dx, Grow S H S' H' → Fix J.kx σ σ' → RelX J.G S' H' c fs cls dx → Rl J.G S' H' J.kx e σ' R → J.W cls dx σ' H'
  | .stuck => False
theorem SReq.bind {α J κ' R S H σ} {o : Out α} {F : α → List D → Out Fl} {D : Ends} (h : SReq J κ' R S H σ (o.bind F) D) : Req J R S H σ o fun a e => SReq J κ' R S H σ (F a e) D := by
  cases o with
  | ok a e => exact h
  | ex c fs e => exact fun S' H' cls dx g rx rl => h S' H' σ cls dx g .refl rx rl
  | stuck => exact h
theorem SReq.later {J κ' R S H S1 H1 σ σ1} {o : Out Fl} {D : Ends} (h : SReq J κ' R S H σ o D) (g : Grow S H S1 H1) (f : Fix J.kx σ σ1) : SReq J κ' R S1 H1 σ1 o D := by
  cases o with
  | ok fl e =>
    cases fl with
    | nx => exact fun S' H' σ' g' f' => h S' H' σ' (g.trans g') (f.trans f')
    | rt d => exact fun S' H' σ' v g' f' => h S' H' σ' v (g.trans g') (f.trans f')
    | bk => exact fun S' H' σ' g' f' => h S' H' σ' (g.trans g') (f.trans f')
    | ct => exact fun S' H' σ' g' f' => h S' H' σ' (g.trans g') (f.trans f')
  | ex c fs e => exact fun S' H' σ' cls dx g' f' => h S' H' σ' cls dx (g.trans g') (f.trans f')
  | stuck => exact h

structure Sx (J : Jc) (κ : List Kd) (st : Stmt) (f : M Fl) (κ' : List Kd) : Prop where
  ex : ∃ t : TS, PS J.X st t ∧ ∀ R S H σ env D, Rl J.G S H κ env σ R → SReq J κ' R S H σ (f env) D → t D σ H
structure Lx (J : Jc) (κ : List Kd) (st : List Stmt) (f : M Fl) (κ' : List Kd) : Prop where
  ex : ∃ t : TS, PSs J.X st t ∧ ∀ R S H σ env D, Rl J.G S H κ env σ R → SReq J κ' R S H σ (f env) D → t D σ H

/-- a store of names alone: the slots elsewhere are as they were -/
def Agr (ws : List Nat) (σ σ' : St) : Prop := σ'.length = σ.length ∧ ∀ i, i ∉ ws → σ'[i]? = σ[i]?
theorem Agr.refl {ws σ} : Agr ws σ σ := ⟨rfl, fun _ _ => rfl⟩
theorem Agr.trans {ws ws' σ σ' σ''} (h : Agr ws σ σ') (h' : Agr ws' σ' σ'') : Agr (ws ++ ws') σ σ'' := ⟨h'.1.trans h.1, fun i m => by
  rw [List.mem_append, not_or] at m
  exact (h'.2 i m.2).trans (h.2 i m.1)⟩
theorem Agr.fix {ws σ σ' kx} (h : Agr ws σ σ') (hw : ws.all (fun i => kx[i]? == some Kd.un) = true) : Fix kx σ σ' := fun i k e => h.2 i fun m => by
  have := (List.all_eq_true.mp hw) i m
  rw [beq_iff_eq, e] at this
  cases this
/-- targets; ws: the slots that are stored -/
structure Gtx (J : Jc) (κ : List Kd) (tg : Expr) (k : Kd) (f : D → List D → Option (List D)) (ws : List Nat) (κ' : List Kd) : Prop where
  ex : ∃ t : TG, PG J.X tg t ∧ ∀ R S H σ env d v e' Q, Rl J.G S H κ env σ (⟨k, d, some v⟩ :: R) → f d env = some e' → (∀ σ', Agr ws σ σ' → Rl J.G S H κ' e' σ' R → Q σ' H) → t v σ H Q
structure Gts (J : Jc) (κ : List Kd) (tg : List Expr) (f : List D → List D → Option (List D)) (ws : List Nat) (κ' : List Kd) : Prop where
  ex : ∃ t : TGs, PGs J.X tg t ∧ ∀ R S H σ env ds vs e' Q, DenL J.G S H ds vs → Rl J.G S H κ env σ R → f ds env = some e' → (∀ σ', Agr ws σ σ' → Rl J.G S H κ' e' σ' R → Q σ' H) → t vs σ H Q

def sNil : M Fl := fun e => .ok .nx e
def sCons (f g : M Fl) : M Fl := fun e => (f e).bind fun fl e => match fl with | .nx => g e | fl => .ok fl e
def sAsg (fa : M D) (g : D → List D → Option (List D)) : M Fl := fun e => (fa e).bind fun d e => match g d e with | some e => .ok .nx e | none => .stuck
def sRet (fa : M D) : M Fl := fun e => (fa e).bind fun d e => .ok (.rt d) e
def sExp (fa : M D) : M Fl := fun e => (fa e).bind fun _ e => .ok .nx e
def tName (i : Nat) : D → List D → Option (List D) := fun d e => some (e.set i d)
def tsNil : List D → List D → Option (List D) := fun ds e => match ds with | [] => some e | _ => none
def tsCons (g : D → List D → Option (List D)) (h : List D → List D → Option (List D)) : List D → List D → Option (List D) := fun ds e => match ds with
  | d :: ds => (g d e).bind fun e => h ds e
  | [] => none
def tTupD (g : List D → List D → Option (List D)) : D → List D → Option (List D) := fun d e => match d with | .tup ds => g ds e | _ => none

section
variable {J : Jc} {κ κ1 κ2 κ3 κ' : List Kd} {a b c e : Expr} {es : List Expr} {pos p apos : Pos} {fa fb fc f : M D} {k ka kb kc kr : Kd} {x m : Str} {f1 : M Bool} {fs1 fs2 : M Fl} {st : Stmt} {sts : List Stmt}
theorem lx_nil : Lx J κ [] sNil κ := ⟨tNext, pss_nil, fun R S H σ env D h q => q S H σ .refl .refl h⟩
theorem lx_cons (h1 : Sx J κ st fs1 κ1) (h2 : Lx J κ1 sts fs2 κ2) : Lx J κ (st :: sts) (sCons fs1 fs2) κ2 := by
  obtain ⟨t, p, q⟩ := h1.ex
  obtain ⟨t2, p2, q2⟩ := h2.ex
  refine ⟨tSeq t t2, pss_cons p p2, fun R S H σ env D h hq => q _ _ _ _ _ _ h ?_⟩
  unfold sCons at hq
  cases eo : fs1 env with
  | stuck => rw [eo] at hq; exact hq
  | ex c fs e1 => rw [eo] at hq; exact hq
  | ok fl e1 =>
    rw [eo] at hq
    cases fl with
    | nx => exact fun S' H' σ' g f r => q2 _ _ _ _ _ _ r (SReq.later hq g f)
    | rt d => exact hq
    | bk => exact hq
    | ct => exact hq
theorem Sx.weak (h : Sx J κ st fs1 κ1) (l : kle κ' κ1 = true) : Sx J κ st fs1 κ' := by
  obtain ⟨t, p, q⟩ := h.ex
  refine ⟨t, p, fun R S H σ env D h hq => q _ _ _ _ _ _ h ?_⟩
  cases eo : fs1 env with
  | stuck => rw [eo] at hq; exact hq
  | ex c fs e1 => rw [eo] at hq; exact hq
  | ok fl e1 =>
    rw [eo] at hq
    cases fl with
    | nx => exact fun S' H' σ' g f r => hq S' H' σ' g f (r.weak l)
    | rt d => exact hq
    | bk => exact hq
    | ct => exact hq
theorem Lx.weak (h : Lx J κ sts fs1 κ1) (l : kle κ' κ1 = true) : Lx J κ sts fs1 κ' := by
  obtain ⟨t, p, q⟩ := h.ex
  refine ⟨t, p, fun R S H σ env D h hq => q _ _ _ _ _ _ h ?_⟩
  cases eo : fs1 env with
  | stuck => rw [eo] at hq; exact hq
  | ex c fs e1 => rw [eo] at hq; exact hq
  | ok fl e1 =>
    rw [eo] at hq
    cases fl with
    | nx => exact fun S' H' σ' g f r => hq S' H' σ' g f (r.weak l)
    | rt d => exact hq
    | bk => exact hq
    | ct => exact hq
/-- a block that never comes to its end: any kinds behind it -/
def noNx (f : M Fl) : Prop := ∀ e e', f e ≠ .ok .nx e'
theorem Lx.dead (h : Lx J κ sts fs1 κ1) (l : noNx fs1) : Lx J κ sts fs1 κ' := by
  obtain ⟨t, p, q⟩ := h.ex
  refine ⟨t, p, fun R S H σ env D h hq => q _ _ _ _ _ _ h ?_⟩
  cases eo : fs1 env with
  | stuck => rw [eo] at hq; exact hq
  | ex c fs e1 => rw [eo] at hq; exact hq
  | ok fl e1 =>
    rw [eo] at hq
    cases fl with
    | nx => exact (l _ _ eo).elim
    | rt d => exact hq
    | bk => exact hq
    | ct => exact hq
theorem gt_name (i : Nat) (hN : J.X.N.Nodup) (hi : J.X.N[i]? = some x) (hx : Loc J.X.env.scope x) (hf : i < κ.length := by decide)
    (hfn : J.X.fn x = true ∨ J.X.env.scope.names.lookup x = some .local := by first | exact .inl rfl | exact .inr rfl | assumption) : Gtx J κ (.Name x pos) k (tName i) [i] (κ.set i k) := by
  refine ⟨gName i, pg_name hN hi hx hfn, fun R S H σ env d v e' Q h hq z => ?_⟩
  cases hq
  have h0 := h.drop
  have e1 : κ[i]? = some (κ[i]'hf) := List.getElem?_eq_getElem _
  have e2 : env[i]? = some (env[i]'(by rw [h.l2, ← h.l1]; exact hf)) := List.getElem?_eq_getElem _
  refine z _ ⟨by rw [List.length_set], fun j ej => ?_⟩ (h.store e1 e2)
  rw [List.getElem?_set_ne (fun q => ej (by rw [q]; simp))]
theorem gts_nil : Gts J κ [] tsNil [] κ := by
  refine ⟨gNil, pgs_nil, fun R S H σ env ds vs e' Q hd h hq z => ?_⟩
  cases ds with
  | nil =>
    simp only [DenL] at hd
    cases hq
    exact ⟨hd, z σ .refl h⟩
  | cons d ds => cases hq
theorem gts_cons {tg : Expr} {tgs : List Expr} {g h} {ws ws' : List Nat} (h1 : Gtx J κ tg .sh g ws κ1) (h2 : Gts J κ1 tgs h ws' κ2)
    (hs : (assignEach (tg :: tgs) J.X.env).map (·.2) = assign tg J.X.env :: (assignEach tgs J.X.env).map (·.2) := by rfl) : Gts J κ (tg :: tgs) (tsCons g h) (ws ++ ws') κ2 := by
  obtain ⟨t, p, q⟩ := h1.ex
  obtain ⟨t2, p2, q2⟩ := h2.ex
  refine ⟨gCons t t2, pgs_cons p p2 hs, fun R S H σ env ds vs e' Q hd h hq z => ?_⟩
  cases ds with
  | nil => cases hq
  | cons d ds =>
    simp only [DenL] at hd
    obtain ⟨v, r, e, hv, hr⟩ := hd
    unfold tsCons at hq
    simp only at hq
    cases eg : g d env with
    | none => rw [eg] at hq; cases hq
    | some e1 =>
      rw [eg] at hq
      exact ⟨v, r, e, q R S H σ env d v e1 _ ⟨h.l1, h.l2, h.rel.push hv⟩ eg fun σ' f' r' => q2 R S H σ' e1 ds r e' _ hr r' hq fun σ2 f2 r2 => z σ2 (f'.trans f2) r2⟩
theorem DenL.length {G S H} : ∀ {ds vs}, DenL G S H ds vs → vs.length = ds.length
  | [], vs, h => by simp only [DenL] at h; subst h; rfl
  | d :: ds, vs, h => by
    simp only [DenL] at h
    obtain ⟨v, r, rfl, _, q⟩ := h
    simp [DenL.length q]
theorem den_tup {G S H ds v} (h : Den G S H (.tup ds) v) : ∃ a vs, v = .ref a ∧ SqT G.K H a vs ∧ DenL G S H ds vs := by
  simp only [Den] at h
  obtain ⟨a, vs, rfl, q, l⟩ := h
  refine ⟨a, vs, rfl, ?_, l⟩
  rcases q with ⟨_, q⟩ | q
  · exact .inl q
  · exact q H
theorem den_lst {G S H ds v} (h : Den G S H (.lst ds) v) : ∃ a vs, v = .ref a ∧ SqL G.K H a vs ∧ DenL G S H ds vs := by
  simp only [Den] at h
  obtain ⟨a, vs, rfl, _, q, l⟩ := h
  exact ⟨a, vs, rfl, .inl (.inl q), l⟩
theorem den_rol {G S H ds v} (h : Den G S H (.rol ds) v) : ∃ a vs, v = .ref a ∧ SqL G.K H a vs ∧ DenL G S H ds vs := by
  simp only [Den] at h
  obtain ⟨a, vs, rfl, q, l⟩ := h
  refine ⟨a, vs, rfl, ?_, l⟩
  rcases q with ⟨_, q⟩ | q
  · exact .inl q
  · exact q H
def tN (n : Nat) (g : List D → List D → Option (List D)) : D → List D → Option (List D) := fun d e => match d with | .tup ds => if ds.length = n then g ds e else none | _ => none
theorem gt_tup {tgs : List Expr} {kk : Nat} {g} {n : Nat} {ws : List Nat} (h : Gts J κ tgs g ws κ1)
    (hn : (assignEach tgs J.X.env).length = n := by rfl) (hst : (assignEach tgs J.X.env).findIdx? (·.1) = none := by rfl) : Gtx J κ (.Tuple tgs kk pos) .sh (tN n g) ws κ1 := by
  obtain ⟨t, p, q⟩ := h.ex
  refine ⟨_, pg_tup J.calm p hn hst, fun R S H σ env d v e' Q h hq z => ?_⟩
  cases d with
  | tup ds =>
    obtain ⟨a, vs, rfl, s, l⟩ := den_tup h.rel.shared
    unfold tN at hq
    simp only at hq
    split at hq
    · rename_i hn
      exact ⟨a, vs, rfl, s, by rw [l.length, hn], q R S H σ env ds vs e' _ l h.drop hq z⟩
    · cases hq
  | _ => cases hq
theorem sx_asg {tg : Expr} {g} {ws : List Nat} (he : Ex J κ e k fa κ1) (hg : Gtx J κ1 tg k g ws κ2) (hws : ws.all (fun i => J.kx[i]? == some Kd.un) = true := by rfl) (hs : swapsWithSole [tg] e pos.line J.X.env = pure false := by rfl) (hw : swappedStores [tg] e J.X.env = pure none := by rfl)
    (h1 : (assignEach [tg] J.X.env).map (·.2) = [assign tg J.X.env] := by rfl) : Sx J κ (.Assign [tg] e pos) (sAsg fa g) κ2 := by
  obtain ⟨t, p, q⟩ := he.ex
  obtain ⟨t2, p2, q2⟩ := hg.ex
  refine ⟨_, ps_asg p p2 hs hw h1, fun R S H σ env D h hq => q _ _ _ _ _ _ h (hq.bind.mono fun d e1 _ z S1 H1 v g1 r1 => ?_)⟩
  cases eg : g d e1 with
  | none => rw [eg] at z; exact z.elim
  | some e2 =>
    rw [eg] at z
    exact q2 R S1 H1 σ e1 d v e2 _ r1 eg fun σ' f' r' => z S1 H1 σ' g1 (f'.fix hws) r'
theorem sx_ret (he : Ex J κ e J.kr fa κ1) (hl : kle J.kx κ1 = true) : Sx J κ (.Return (some e) pos) (sRet fa) κ' := by
  obtain ⟨t, p, q⟩ := he.ex
  exact ⟨_, ps_ret p, fun R S H σ env D h hq => q _ _ _ _ _ _ h (hq.bind.mono fun d e1 _ z S1 H1 v g1 r1 => z S1 H1 σ v g1 .refl (r1.weak hl))⟩
theorem sx_exp (he : Ex J κ e k fa κ1) (hs : swapsWith e none pos.line J.X.env = pure false := by rfl) : Sx J κ (.Expr e pos) (sExp fa) κ1 := by
  obtain ⟨t, p, q⟩ := he.ex
  exact ⟨_, ps_expr p hs, fun R S H σ env D h hq => q _ _ _ _ _ _ h (hq.bind.mono fun d e1 _ z S1 H1 v g1 r1 => z S1 H1 σ g1 .refl r1.drop)⟩
theorem sx_if {aa bb : List Stmt} (hc : Tx J κ c f1 κ1) (ha : Lx J κ1 aa fs1 κ2) (hb : Lx J κ1 bb fs2 κ2) : Sx J κ (.If c aa bb pos) (ifM f1 fs1 fs2) κ2 := by
  obtain ⟨t, p, q⟩ := hc.ex
  obtain ⟨t2, p2, q2⟩ := ha.ex
  obtain ⟨t3, p3, q3⟩ := hb.ex
  refine ⟨_, ps_if p p2 p3, fun R S H σ env D h hq => q _ _ _ _ _ _ h ((SReq.bind hq).mono fun d e1 _ z S1 H1 g1 r1 => ?_)⟩
  cases d with
  | true => exact iteT (q2 _ _ _ _ _ _ r1 (SReq.later z g1 .refl))
  | false => exact iteF (q3 _ _ _ _ _ _ r1 (SReq.later z g1 .refl))
theorem sx_pass : Sx J κ (.Pass pos) sNil κ := ⟨tNext, ps_pass, fun R S H σ env D h q => q S H σ .refl .refl h⟩
end
end Rm
namespace Rm
open PySem PySem.Spec L2

theorem ents_append : ∀ {a b c a' b' c'}, a.length = b.length → c.length = b.length → ents (a ++ a') (b ++ b') (c ++ c') = ents a b c ++ ents a' b' c'
  | [], [], [], _, _, _, _, _ => rfl
  | _ :: a, _ :: b, _ :: c, a', b', c', h, h' => by
    simp only [List.cons_append, ents, List.cons.injEq, true_and]
    exact ents_append (by simpa using h) (by simpa using h')
  | [], _ :: _, _, _, _, _, h, _ => by simp at h
  | _ :: _, [], _, _, _, _, h, _ => by simp at h
  | [], [], _ :: _, _, _, _, _, h => by simp at h
  | _ :: _, _ :: _, [], _, _, _, _, h => by simp at h
theorem Rel.left {G S H} : ∀ {ys xs : List Ent}, Rel G S H (xs ++ ys) → Rel G S H xs
  | [], xs, h => by simpa using h
  | y :: ys, xs, h => Rel.left (ys := ys) (h.perm List.perm_middle).drop
theorem Rel.addUn {G S H} : ∀ {n : Nat} {ds : List D} {vs : List (Option V)} {xs : List Ent}, Rel G S H xs → Rel G S H (xs ++ ents (List.replicate n .un) ds vs)
  | 0, _, _, xs, h => by simpa [ents] using h
  | n + 1, [], _, xs, h => by simpa [List.replicate_succ, ents] using h
  | n + 1, d :: ds, [], xs, h => by simpa [List.replicate_succ, ents] using h
  | n + 1, d :: ds, v :: vs, xs, h => by
    rw [List.replicate_succ]
    show Rel G S H (xs ++ ⟨.un, d, v⟩ :: ents (List.replicate n .un) ds vs)
    exact (Rel.addUn (n := n) h).un.perm List.perm_middle.symm
theorem Rel.pushNon {G S H xs} (k : Kd) (h : Rel G S H xs) : Rel G S H (⟨k, .non, some .non⟩ :: xs) := by
  obtain ⟨al, L, r⟩ := h
  refine ⟨al, [] ++ L, .cons ?_ .nil (fun _ m => nomatch m) r⟩
  cases k with
  | un => rfl
  | sh => exact ⟨rfl, _, rfl, by simp only [Den]⟩
  | ow k => exact ⟨_, rfl, by simp only [DenO, Den]; exact ⟨trivial, trivial⟩⟩

theorem Rel.outs {G S H us} : ∀ {kp : List Kd} {e : List D} {σ' : St} {vs : List V} {R : List Ent}, vs.length = kp.length → kp.length ≤ e.length → kp.length ≤ σ'.length →
    (∀ (i k : Nat), kp[i]? = some (.ow k) → ∃ v, vs[i]? = some v ∧ σ'[i]? = some (some v)) → Rel G S H (R ++ ents (kp.map Kd.out ++ us) e σ') → Rel G S H (R ++ ents (kp.map Kd.out) (e.take kp.length) (vs.map some))
  | [], e, σ', vs, R, _, _, _, _, h => by
    have : ents ([].map Kd.out) (e.take ([] : List Kd).length) (vs.map some) = [] := rfl
    rw [this, List.append_nil]
    exact h.left
  | k :: kp, [], _, _, _, _, h, _, _, _ => by simp at h
  | k :: kp, _ :: _, [], _, _, _, _, h, _, _ => by simp at h
  | k :: kp, _ :: _, _ :: _, [], _, h, _, _, _, _ => by simp at h
  | k :: kp, d :: e, v :: σ', w :: vs, R, l1, l2, l3, f, h => by
    have h1 : Rel G S H ((R ++ [⟨k.out, d, v⟩]) ++ ents (kp.map Kd.out ++ us) e σ') := by simpa [ents] using h
    have h2 := Rel.outs (by simpa using l1) (by simpa using l2) (by simpa using l3) (fun i k' q => by simpa using f (i + 1) k' (by simpa using q)) h1
    have h3 : Rel G S H (R ++ ⟨k.out, d, v⟩ :: ents (kp.map Kd.out) (e.take kp.length) (vs.map some)) := by simpa using h2
    show Rel G S H (R ++ ⟨k.out, d, some w⟩ :: ents (kp.map Kd.out) (e.take kp.length) (vs.map some))
    cases k with
    | un => exact ((h3.perm List.perm_middle).un_eq).perm List.perm_middle.symm
    | sh => exact ((h3.perm List.perm_middle).un_eq).perm List.perm_middle.symm
    | ow j =>
      obtain ⟨u, e1, e2⟩ := f 0 j rfl
      simp at e1 e2
      subst e1 e2
      exact h3

def runF (m n : Nat) (fb : M Fl) : List D → Out D := fun ds => match fb (ds ++ List.replicate n .non) with
  | .ok (.rt d) e => .ok d (e.take m)
  | .ok .nx e => .ok .non (e.take m)
  | .ok _ _ => .stuck
  | .ex c fs e => .ex c fs (e.take m)
  | .stuck => .stuck

def jcOf (P : Program) (w : World) (K : PySem.W.Frag) (mg : Str → Option Value) (base : Heap) (N : List Str) (qual : Str) (scope : Scope) (f : Addr) (cd : Value) (A : Around) (outer : List Env) (s : Shared) (H : Hp) (E : XK) (cl fa : Nat → Addr) (kx : List Kd) (kr : Kd) : Jc where
  X := cxOf (L2.CX P w) P w K mg base N qual scope f cd A outer s H E
  cl := cl
  fa := fa
  W := fun cls d _ H => E cls d H
  kx := kx
  kr := kr
  kb := []
  kc := []
  tk := takes_of rfl rfl rfl rfl
  calm := rfl
  po := passes_of rfl

/-- THE RULE for a def -/
theorem fn_ok {P : Program} {w : World} {K : PySem.W.Frag} {mg : Str → Option Value} {base : Heap} {x qual : Str} {st : Stmt} {f : Addr} {fd : FuncData} {N ps : List Str} {n : Nat} (cl fa : Nat → Addr) (kp : List Kd) (kr : Kd) {fb : M Fl} {κe : List Kd}
    {dvs : List V} {kws : List (Str × V)} (F : FunD K x qual (defArgs st) (defBody st) (defScope st) dvs kws f fd) (Sc : FnScope N ps (defScope st)) (hkp : kp.length = ps.length) (hN : ps.length ≤ N.length)
    (hl : kle (kp.map Kd.out ++ List.replicate (N.length - kp.length) .un) κe = true)
    (body : ∀ (cdv : Value) (A : Around) (outer : List Env) (s : Shared) (H : Hp) (E : XK), Room n (A.deeper (PyProof.Rows.envOfC qual (defScope st) s.heap.objs.size f cdv)) →
      Lx (jcOf P w K mg base N qual (defScope st) f cdv A outer s H E cl fa (kp.map Kd.out ++ List.replicate (N.length - kp.length) .un) kr) (kp ++ List.replicate (N.length - kp.length) .un) (defBody st) fb κe) :
    FnOk P w K mg base (L2.CX P w) (n + 1) f fd ps (SpF ⟨K, cl, fa⟩ kp kr (runF kp.length (N.length - kp.length) fb)) := by
  refine F.ok Sc (fun vs H Q E h => ?_) (fun cdv A outer s H vs Q E hr h => ?_)
  · obtain ⟨_, _, _, h, _⟩ := h
    rw [h, hkp]
  · obtain ⟨S, R, ds, l1, l2, hrel, hF⟩ := h
    obtain ⟨t, pt, q⟩ := (body cdv A outer s H E hr).ex
    refine ⟨t, pt, q R S H (L2.start N vs) (ds ++ List.replicate (N.length - kp.length) .non) _ ⟨?_, ?_, ?_⟩ ?_⟩
    · unfold L2.start; simp only [List.length_append, List.length_replicate, List.length_map]; rw [l1]
    · unfold L2.start; simp only [List.length_append, List.length_replicate, List.length_map]; rw [l1, l2]
    · unfold L2.start
      rw [ents_append (by rw [l2]) (by rw [List.length_map, l1, l2]), ← List.append_assoc]
      exact (hrel.perm List.perm_append_comm).addUn
    · have fin : ∀ {S' H' T e σ'}, Fix (kp.map Kd.out ++ List.replicate (N.length - kp.length) .un) (L2.start N vs) σ' → Rl (⟨K, cl, fa⟩ : Gx) S' H' (kp.map Kd.out ++ List.replicate (N.length - kp.length) .un) e σ' (T ++ R) →
          (e.take kp.length).length = kp.length ∧ Rel (⟨K, cl, fa⟩ : Gx) S' H' (T ++ (ents (kp.map Kd.out) (e.take kp.length) (vs.map some) ++ R)) := by
        intro S' H' T e σ' fx r
        have k1 := r.l1
        have k2 := r.l2
        simp only [List.length_append, List.length_replicate, List.length_map] at k1
        refine ⟨by rw [List.length_take]; omega, ?_⟩
        have := Rel.outs (kp := kp) (vs := vs) (by rw [l1]) (by omega) (by omega) (fun i k e => ?_) r.rel
        · rw [List.append_assoc] at this
          exact this.perm (List.Perm.append_left _ List.perm_append_comm)
        · have hi : i < kp.length := (List.getElem?_eq_some_iff.mp e).1
          have e' : (kp.map Kd.out ++ List.replicate (N.length - kp.length) Kd.un)[i]? = some (.ow k) := by
            rw [List.getElem?_append_left (by simpa using hi), List.getElem?_map, e]
            rfl
          have e2 : vs[i]? = some (vs[i]'(by rw [l1]; exact hi)) := List.getElem?_eq_getElem _
          refine ⟨_, e2, (fx i k e').trans ?_⟩
          unfold L2.start
          rw [List.getElem?_append_left (by rw [List.length_map, l1]; exact hi), List.getElem?_map, e2]
          rfl
      unfold runF at hF
      unfold SReq
      cases eo : fb (ds ++ List.replicate (N.length - kp.length) .non) with
      | stuck => rw [eo] at hF; exact hF
      | ex c fs e =>
        rw [eo] at hF
        intro S' H' σ' cls dx g fx rx r
        have z := fin (T := []) fx r
        exact hF S' H' cls dx g rx z.1 z.2
      | ok fl e =>
        rw [eo] at hF
        cases fl with
        | nx =>
          intro S' H' σ' g fx r
          have r' := r.weak hl
          have z := fin (T := [⟨kr, .non, some .non⟩]) fx ⟨r'.l1, r'.l2, r'.rel.pushNon kr⟩
          exact hF S' H' .non g z.1 z.2
        | rt d =>
          intro S' H' σ' v g fx r
          have z := fin (T := [⟨kr, d, some v⟩]) fx r
          exact hF S' H' v g z.1 z.2
        | bk => exact hF.elim
        | ct => exact hF.elim
end Rm
namespace Rm
open PySem PySem.Spec L2

def PEs (X : Cx) : List Expr → List TE → Prop
  | [], [] => True
  | e :: es, t :: ts => PE X e t ∧ PEs X es ts
  | _, _ => False
def tAll : List TE → TA
  | [] => tNil
  | t :: ts => tCons t (tAll ts)
structure Ev (J : Jc) (κ : List Kd) (es : List Expr) (as : List Ak) (f : M (List D)) (κ' : List Kd) : Prop where
  ex : ∃ ts : List TE, PEs J.X es ts ∧ ∀ R S H σ env Q, Rl J.G S H κ env σ R →
    Req J R S H σ (f env) (fun ds e => ∀ S' H' vs, Grow S H S' H' → AOk as ds vs σ → Rl J.G S' H' κ' e σ (ents (as.map Ak.kd) ds (vs.map some) ++ R) → Q vs H') → tAll ts σ H Q

/-- an operation on values, as data: what it gives, what its operands are behind it -/
def Prim (G : Gx) (r : List V → Hp → VK → Prop) (ks : List Kd) (k : Kd) (g : List D → Option (D × List D)) : Prop := ∀ S H ds vs d os (xs : List Ent) (Q : VK), g ds = some (d, os) → ds.length = ks.length → vs.length = ks.length →
  Rel G S H (ents ks ds (vs.map some) ++ xs) →
  (∀ S' H' w, Grow S H S' H' → os.length = ks.length → Rel G S' H' (⟨k, d, some w⟩ :: (ents (ks.map Kd.out) os (vs.map some) ++ xs)) → Q w H') → r vs H Q
def primM (g : List D → Option (D × List D)) (as : List Ak) (fr : M (List D)) : M D := fun e => (fr e).bind fun ds e => match g ds with
  | some (d, os) => .ok d (backE as os e)
  | none => .stuck
/-- an operation that changes nothing -/
def ro (g : List D → Option D) : List D → Option (D × List D) := fun ds => (g ds).map fun d => (d, ds)
def r2 (r : R2) : List V → Hp → VK → Prop := fun vs H Q => match vs with | [x, y] => r x y H Q | _ => False
def r1 (r : V → Hp → VK → Prop) : List V → Hp → VK → Prop := fun vs H Q => match vs with | [x] => r x H Q | _ => False
def rM (r : V → List V → Hp → VK → Prop) : List V → Hp → VK → Prop := fun vs H Q => match vs with | x :: ys => r x ys H Q | _ => False

section
variable {J : Jc} {κ κ1 κ2 κ3 κ' : List Kd} {a b c e : Expr} {es : List Expr} {pos p apos : Pos} {fa fb fc f : M D} {fr : M (List D)} {k ka kb kc kr : Kd} {as : List Ak} {x m : Str} {g : List D → Option (D × List D)}
theorem ev_nil : Ev J κ [] [] aNil κ := ⟨[], trivial, fun R S H σ env Q h q => q S H [] .refl trivial h⟩
theorem ev_cons (ha : Ex J κ a .sh fa κ1) (hr : Ev J κ1 es as fr κ2) : Ev J κ (a :: es) (.sh :: as) (aCons fa fr) κ2 := by
  obtain ⟨ta, pa, ra⟩ := ha.ex
  obtain ⟨tr, pr, rr⟩ := hr.ex
  refine ⟨ta :: tr, ⟨pa, pr⟩, fun R S H σ env Q h q => ra _ _ _ _ _ _ h (q.bind.mono fun d e1 _ z S1 H1 u g1 r1 => ?_)⟩
  refine rr _ _ _ _ _ _ r1 (((z.bind.later g1).tmp _).mono fun ds e2 _ z2 S2 H2 vs g2 ok r2 => ?_)
  refine z2 S2 H2 (u :: vs) (g1.trans g2) ⟨trivial, ok⟩ ⟨r2.l1, r2.l2, ?_⟩
  refine r2.rel.perm ?_
  simp only [List.map_cons, ents, Ak.kd, List.cons_append, List.append_assoc]
  exact List.perm_middle
theorem ev_io (i j : Nat) {x : Str} (hN : J.X.N[i]? = some x) (hv : Vis J.X.env.scope x) (hk : κ[i]? = some (.ow j)) (hr : Ev J (κ.set i .un) es as fr κ2)
    (hd : (x == ("__debug__" : Str)) = false := by decide) (hcd : (x == ("__classdict__" : Str)) = false := by decide) :
    Ev J κ (.Name x pos :: es) (.io i j :: as) (aCons (vr i) fr) κ2 := by
  obtain ⟨tr, pr, rr⟩ := hr.ex
  refine ⟨tVar i :: tr, ⟨pe_var hN hv hd hcd, pr⟩, fun R S H σ env Q h q => ?_⟩
  cases ed : env[i]? with
  | none => simp only [aCons, vr, ed] at q; exact q.elim
  | some d =>
    simp only [aCons, vr, ed] at q
    have q : Req J R S H σ ((fr env).bind fun ds e => .ok (d :: ds) e) _ := q
    obtain ⟨v, hv', h'⟩ := h.take hk ed
    have r1 := h' d
    rw [List.set_self' ed] at r1
    refine ⟨v, hv', rr _ _ _ _ _ _ r1 (((Req.bind q).tmp _).mono fun ds e2 _ z2 S2 H2 vs g2 ok r2 => ?_)⟩
    refine z2 S2 H2 (v :: vs) g2 ⟨hv', ok⟩ ⟨r2.l1, r2.l2, r2.rel.perm ?_⟩
    simp only [List.map_cons, ents, Ak.kd, List.cons_append, List.append_assoc]
    exact List.perm_middle
/-- THE RULE of an operation: e0's reading t0 follows from its operands' -/
theorem ex_prim {e0 : Expr} {r : List V → Hp → VK → Prop} (hev : Ev J κ es as fr κ1) (hp : Prim J.G r (as.map Ak.kd) k g)
    (h0 : ∀ ts, PEs J.X es ts → ∃ t0, PE J.X e0 t0 ∧ ∀ σ H Q, tAll ts σ H (fun vs H2 => r vs H2 Q) → t0 σ H Q) : Ex J κ e0 k (primM g as fr) (backK as κ1) := by
  obtain ⟨ts, pts, rt⟩ := hev.ex
  obtain ⟨t0, p0, i0⟩ := h0 ts pts
  refine ⟨t0, p0, fun R S H σ env Q h hq => i0 σ H Q (rt _ _ _ _ _ _ h (hq.bind.mono fun ds e1 _ z S1 H1 vs g1 ok r1 => ?_))⟩
  have l := ok.len
  cases eg : g ds with
  | none => rw [eg] at z; exact z.elim
  | some p =>
    obtain ⟨d, os⟩ := p
    rw [eg] at z
    refine hp S1 H1 ds vs d os (R ++ ents κ1 e1 σ) Q eg (by rw [l.1, List.length_map]) (by rw [l.2, List.length_map]) (by rw [← List.append_assoc]; exact r1.rel) fun S2 H2 w g2 le r2 => ?_
    refine z S2 H2 w (g1.trans g2) (Rl.back (T := [⟨k, d, some w⟩]) ok (by rw [le, List.length_map]) ⟨r1.l1, r1.l2, ?_⟩)
    simpa only [List.cons_append, List.nil_append, List.append_assoc] using r2
theorem ex_bin {op : Operator} {r : R2} (hr : OpR J.X (binaryOp op) r) (hp : Prim J.G (Rm.r2 r) (as.map Ak.kd) k g) (hev : Ev J κ [a, b] as fr κ1) : Ex J κ (.BinOp a op b pos) k (primM g as fr) (backK as κ1) :=
  ex_prim hev hp fun ts pts => match ts, pts with
    | [ta, tb], ⟨pa, pb, _⟩ => ⟨tOp r ta tb, pe_op hr pa pb, fun σ H Q h => h⟩
theorem ex_cmp1 {op : CmpOp} {r : R2} (hr : OpR J.X (compareOp op) r) (hp : Prim J.G (Rm.r2 r) (as.map Ak.kd) k g) (hev : Ev J κ [a, b] as fr κ1) (hm : behindInMarks op b = false) : Ex J κ (.Compare a [op] [b] pos) k (primM g as fr) (backK as κ1) :=
  ex_prim hev hp fun ts pts => match ts, pts with
    | [ta, tb], ⟨pa, pb, _⟩ => ⟨tOp r ta tb, pe_cmpR hr pa pb hm, fun σ H Q h => h⟩
theorem ex_un1 {op : UnaryOp} {r : V → Hp → VK → Prop} (hr : UnR J.X (unaryOp op) r) (hp : Prim J.G (Rm.r1 r) (as.map Ak.kd) k g) (hev : Ev J κ [a] as fr κ1) : Ex J κ (.UnaryOp op a pos) k (primM g as fr) (backK as κ1) :=
  ex_prim hev hp fun ts pts => match ts, pts with
    | [ta], ⟨pa, _⟩ => ⟨tUn r ta, pe_un hr pa, fun σ H Q h => h⟩
theorem ex_ix {r : R2} (hr : IxR J.X r) (hp : Prim J.G (Rm.r2 r) (as.map Ak.kd) k g) (hev : Ev J κ [a, b] as fr κ1) (hs : PlainIx b) : Ex J κ (.Subscript a b pos) k (primM g as fr) (backK as κ1) :=
  ex_prim hev hp fun ts pts => match ts, pts with
    | [ta, tb], ⟨pa, pb, _⟩ => ⟨tOp r ta tb, pe_ix hr pa pb hs, fun σ H Q h => h⟩
/-- a test whose value comes as a truth -/
theorem tx_cmp1 {op : CmpOp} {r : R2} (hr : OpR J.X (compareOp op) r) (hp : Prim J.G (Rm.r2 r) (as.map Ak.kd) .sh g) (hev : Ev J κ [a, b] as fr κ1) (hm : behindInMarks op b = false) : Tx J κ (.Compare a [op] [b] pos) (asB (primM g as fr)) (backK as κ1) := by
  obtain ⟨ts, pts, rt⟩ := hev.ex
  match ts, pts with
  | [ta, tb], ⟨pa, pb, _⟩ =>
    refine ⟨tTest (tOp r ta tb), pt_cmpR hr pa pb hm, fun R S H σ env Q h hq => (rt _ _ _ _ _ (fun vs H2 => Rm.r2 r vs H2 (fun z H3 => ∃ k, z = .bl k ∧ Q k H3)) h (Req.bind (Req.bind hq) |>.mono fun ds e1 _ z S1 H1 vs g1 ok r1 => ?_) : _)⟩
    have l := ok.len
    cases eg : g ds with
    | none => rw [eg] at z; exact z.elim
    | some p =>
      obtain ⟨d, os⟩ := p
      rw [eg] at z
      refine hp S1 H1 ds vs d os (R ++ ents κ1 e1 σ) _ eg (by rw [l.1, List.length_map]) (by rw [l.2, List.length_map]) (by rw [← List.append_assoc]; exact r1.rel) fun S2 H2 w g2 le r2 => ?_
      have r3 : Rl J.G S2 H2 (backK as κ1) (backE as os e1) σ (⟨.sh, d, some w⟩ :: R) := Rl.back (T := [⟨.sh, d, some w⟩]) ok (by rw [le, List.length_map]) ⟨r1.l1, r1.l2, by simpa only [List.cons_append, List.nil_append, List.append_assoc] using r2⟩
      cases d with
      | bl b =>
        have := r3.rel.shared
        simp only [Den] at this
        exact ⟨b, this, z S2 H2 (g1.trans g2) r3.drop⟩
      | _ => exact z.elim

theorem spl_of {X : Cx} : ∀ {es : List Expr} {ts : List TE}, PEs X es ts → (∀ l e r, es = l ++ e :: r → starEach (e :: r) X.env = (false, eval e X.env) :: starEach r X.env) → PA X es (tAll ts)
  | [], [], _, _ => pa_nil
  | e :: es, t :: ts, ⟨p, ps⟩, h => pa_cons p (spl_of ps fun l e' r q => h (e :: l) e' r (by rw [q]; rfl)) (h [] e es rfl)
  | [], _ :: _, h, _ => h.elim
  | _ :: _, [], h, _ => h.elim
def isStar : Expr → Bool
  | .Starred _ _ => true
  | _ => false
def noStar (es : List Expr) : Bool := es.all fun e => !isStar e
theorem star_pl {env : Env} {es : List Expr} (h : noStar es = true) : ∀ l e r, es = l ++ e :: r → starEach (e :: r) env = (false, eval e env) :: starEach r env := by
  intro l e r q
  subst q
  have : (!isStar e) = true := List.all_eq_true.mp h e (by simp)
  cases e <;> first | rfl | cases this
variable {id T : String} {r : List V → Hp → VK → Prop}
theorem ex_callB (hc : CallR J.X (.builtin id) r) (hp : Prim J.G r (as.map Ak.kd) k g) (hg : Gl J.X x) (hm : J.X.mg x = none) (hv : bootBuiltins x = some (.builtin id)) (hev : Ev J κ (e :: es) as fr κ1) (hst : noStar (e :: es) = true := by rfl)
    (hn : x ≠ "__name__" := by decide) (hdb : (x == ("__debug__" : Str)) = false := by decide) (hpl : (backTo pos (starEach es J.X.env)).any (·.1) = false := by rfl) :
    Ex J κ (.Call (.Name x p) (e :: es) [] pos) k (primM g as fr) (backK as κ1) :=
  ex_prim hev hp fun ts pts => ⟨tCB r (tAll ts), pe_callB hc hg hm hv (spl_of pts (star_pl hst)) hn hdb (star_pl hst [] e es rfl) hpl, fun σ H Q h => h⟩
theorem ex_callTy (hc : CallR J.X (.type T) r) (hp : Prim J.G r (as.map Ak.kd) k g) (hg : Gl J.X x) (hm : J.X.mg x = none) (hv : bootBuiltins x = some (.type T)) (hev : Ev J κ (e :: es) as fr κ1) (hst : noStar (e :: es) = true := by rfl)
    (hn : x ≠ "__name__" := by decide) (hdb : (x == ("__debug__" : Str)) = false := by decide) (hpl : (backTo pos (starEach es J.X.env)).any (·.1) = false := by rfl) :
    Ex J κ (.Call (.Name x p) (e :: es) [] pos) k (primM g as fr) (backK as κ1) :=
  ex_prim hev hp fun ts pts => ⟨tCB r (tAll ts), pe_callTy hc hg hm hv (spl_of pts (star_pl hst)) hn hdb (star_pl hst [] e es rfl) hpl, fun σ H Q h => h⟩

def tyD (T : String) : D → Bool
  | .str _ => T == "str"
  | .int _ => T == "int"
  | .lst _ => T == "list"
  | .rol _ => T == "list"
  | .dK _ => T == "dict"
  | .dT _ => T == "dict"
  | _ => false
theorem tyD_sh {G S H d v} (h : Den G S H d v) (t : tyD T d = true) (hd : T ≠ "dict") : tyV G.K T v H := by
  cases d with
  | str x => simp only [Den] at h; subst h; exact beq_iff_eq.mp t
  | int x => simp only [Den] at h; subst h; exact beq_iff_eq.mp t
  | lst x => obtain ⟨a, vs, rfl, q, _⟩ := den_lst h; exact .inl ⟨beq_iff_eq.mp t, vs, q⟩
  | rol x => obtain ⟨a, vs, rfl, q, _⟩ := den_rol h; exact .inl ⟨beq_iff_eq.mp t, vs, q⟩
  | dK x => exact absurd (beq_iff_eq.mp t) hd
  | dT x => exact absurd (beq_iff_eq.mp t) hd
  | _ => cases t
def methM (T : String) (g : List D → Option (D × List D)) (a0 : Ak) (as : List Ak) (fo : M D) (fr : M (List D)) : M D := fun e => (fo e).bind fun d0 e => if tyD T d0 = true then (fr e).bind fun ds e => match g (d0 :: ds) with
  | some (d, os) => .ok d (backE (a0 :: as) os e)
  | none => .stuck
  else .stuck
variable {o : Expr} {name : Str} {cpos : Pos} {fo : M D}
theorem meth_core {to : TE} {ts : List TE} {r : V → List V → Hp → VK → Prop} {k0 : Kd} (hd : T ≠ "dict")
    (ro : ∀ R S H σ env Q, Rl J.G S H κ env σ R → Req J R S H σ (fo env) (fun d e => ∀ S' H' v, Grow S H S' H' → Rl J.G S' H' κ1 e σ (⟨.sh, d, some v⟩ :: R) → Q v H') → to σ H Q)
    (rt : ∀ R S H σ env Q, Rl J.G S H κ1 env σ R → Req J R S H σ (fr env) (fun ds e => ∀ S' H' vs, Grow S H S' H' → AOk as ds vs σ → Rl J.G S' H' κ2 e σ (ents (as.map Ak.kd) ds (vs.map some) ++ R) → Q vs H') → tAll ts σ H Q)
    (hp : Prim J.G (Rm.rM r) (.sh :: as.map Ak.kd) k g) {R S H σ env Q} (h : Rl J.G S H κ env σ R)
    (hq : Req J R S H σ (methM T g .sh as fo fr env) (fun d e => ∀ S' H' v, Grow S H S' H' → Rl J.G S' H' (backK as κ2) e σ (⟨k, d, some v⟩ :: R) → Q v H')) :
    to σ H fun x H1 => tyV J.X.K T x H1 ∧ tAll ts σ H1 fun xs H2 => r x xs H2 Q := by
  refine ro _ _ _ _ _ _ h (hq.bind.mono fun d0 e1 _ z S1 H1 v0 g1 r1 => ?_)
  by_cases ht : tyD T d0 = true
  · rw [if_pos ht] at z
    refine ⟨tyD_sh r1.rel.shared ht hd, rt _ _ _ _ _ _ r1 (((Req.later (Req.bind z) g1).tmp _).mono fun ds e2 _ z2 S2 H2 vs g2 ok r2 => ?_)⟩
    have l := ok.len
    cases eg : g (d0 :: ds) with
    | none => rw [eg] at z2; exact z2.elim
    | some p =>
      obtain ⟨d, os⟩ := p
      rw [eg] at z2
      have rel2 : Rel J.G S2 H2 (ents (.sh :: as.map Ak.kd) (d0 :: ds) ((v0 :: vs).map some) ++ (R ++ ents κ2 e2 σ)) := by
        refine r2.rel.perm ?_
        simp only [List.map_cons, ents, List.cons_append, List.append_assoc]
        exact List.perm_middle
      refine hp S2 H2 (d0 :: ds) (v0 :: vs) d os (R ++ ents κ2 e2 σ) Q eg (by simp [l.1]) (by simp [l.2]) rel2 fun S3 H3 w g3 le r3 => ?_
      have ok' : AOk (.sh :: as) (d0 :: ds) (v0 :: vs) σ := ⟨trivial, ok⟩
      refine z2 S3 H3 w ((g1.trans g2).trans g3) (Rl.back (as := .sh :: as) (T := [⟨k, d, some w⟩]) ok' (by simpa using le) ⟨r2.l1, r2.l2, ?_⟩)
      simpa only [List.map_cons, Ak.kd, List.cons_append, List.nil_append, List.append_assoc] using r3
  · rw [if_neg ht] at z
    exact z.elim
theorem ex_bm {r : V → List V → Hp → VK → Prop} (pa : PlainAttrs T) (slot : Slot T name id) (hty : typeOf (.builtin id) = pure (.type "method_descriptor")) (hm : MtR J.X id r) (hd : T ≠ "dict") (hp : Prim J.G (Rm.rM r) (.sh :: as.map Ak.kd) k g)
    (ho : Ex J κ o .sh fo κ1) (hev : Ev J κ1 (e :: es) as fr κ2) (hst : noStar (e :: es) = true := by rfl)
    (hbase : attributeBase o name J.X.env (eval o J.X.env) = eval o J.X.env := by rfl)
    (hfew : ((backTo cpos (starEach (e :: es) J.X.env)).all (fun x => !x.1) && (backToKw cpos (keywordEach [] J.X.env)).all (fun x => x.1.isSome)
      && decide ((e :: es).length + ([] : List Keyword).length + (if ([] : List Keyword).isEmpty then 0 else 1) < 30)) = true := by rfl)
    (hline : (apos.endLine == cpos.line) = true := by rfl) (hplain : (backTo cpos (starEach es J.X.env)).any (·.1) = false := by rfl) :
    Ex J κ (.Call (.Attribute o name apos) (e :: es) [] cpos) k (methM T g .sh as fo fr) (backK as κ2) := by
  obtain ⟨to, po, ro⟩ := ho.ex
  obtain ⟨ts, pts, rt⟩ := hev.ex
  exact ⟨_, pe_bm pa slot hty hm po (spl_of pts (star_pl hst)) hbase hfew hline (star_pl hst [] e es rfl) hplain, fun R S H σ env Q h hq => meth_core (k0 := .sh) hd ro rt hp h hq⟩
theorem ex_bm0 {r : V → List V → Hp → VK → Prop} (pa : PlainAttrs T) (slot : Slot T name id) (hty : typeOf (.builtin id) = pure (.type "method_descriptor")) (hm : MtR J.X id r) (hd : T ≠ "dict") (hp : Prim J.G (Rm.rM r) [.sh] k g)
    (ho : Ex J κ o .sh fo κ1) (hbase : attributeBase o name J.X.env (eval o J.X.env) = eval o J.X.env := by rfl) (hline : (apos.endLine == cpos.line) = true := by rfl) :
    Ex J κ (.Call (.Attribute o name apos) [] [] cpos) k (methM T g .sh [] fo aNil) κ1 := by
  obtain ⟨to, po, ro⟩ := ho.ex
  exact ⟨_, pe_bm0 pa slot hty hm po hbase hline, fun R S H σ env Q h hq => meth_core (as := []) (ts := []) (fr := aNil) (κ2 := κ1) (k0 := .sh) hd ro (fun R S H σ env Q h q => q S H [] .refl trivial h) hp h hq⟩
theorem tyD_ow {G S H d v j L} (h : DenO G S H (j + 1) d v L) (t : tyD T d = true) (hd : T ≠ "dict") : tyV G.K T v H := by
  cases d with
  | str x => simp only [DenO, Den] at h; obtain ⟨rfl, _⟩ := h; exact beq_iff_eq.mp t
  | int x => simp only [DenO, Den] at h; obtain ⟨rfl, _⟩ := h; exact beq_iff_eq.mp t
  | lst x => obtain ⟨a, vs, M, rfl, q, _⟩ := h; exact .inl ⟨beq_iff_eq.mp t, vs, SqL.of q⟩
  | rol x => simp only [DenO] at h; exact tyD_sh h.1 t hd
  | dK x => exact absurd (beq_iff_eq.mp t) hd
  | dT x => exact absurd (beq_iff_eq.mp t) hd
  | _ => cases t
theorem methI_core {ts : List TE} {r : V → List V → Hp → VK → Prop} {i j : Nat} (hd : T ≠ "dict") (hk : κ[i]? = some (.ow j))
    (rt : ∀ R S H σ env Q, Rl J.G S H (κ.set i .un) env σ R → Req J R S H σ (fr env) (fun ds e => ∀ S' H' vs, Grow S H S' H' → AOk as ds vs σ → Rl J.G S' H' κ2 e σ (ents (as.map Ak.kd) ds (vs.map some) ++ R) → Q vs H') → tAll ts σ H Q)
    (hp : Prim J.G (Rm.rM r) (.ow j :: as.map Ak.kd) k g) {R S H σ env Q} (h : Rl J.G S H κ env σ R)
    (hq : Req J R S H σ (methM T g (.io i j) as (vr i) fr env) (fun d e => ∀ S' H' v, Grow S H S' H' → Rl J.G S' H' (backK (.io i j :: as) κ2) e σ (⟨k, d, some v⟩ :: R) → Q v H')) :
    tVar i σ H fun x H1 => tyV J.X.K T x H1 ∧ tAll ts σ H1 fun xs H2 => r x xs H2 Q := by
  unfold methM vr at hq
  cases ed : env[i]? with
  | none => rw [ed] at hq; exact hq.elim
  | some d0 =>
    rw [ed] at hq
    simp only [Out.bind_ok] at hq
    obtain ⟨v0, hv, h'⟩ := h.take hk ed
    have r1 := h' d0
    rw [List.set_self' ed] at r1
    refine ⟨v0, hv, ?_⟩
    by_cases ht : tyD T d0 = true
    · rw [if_pos ht] at hq
      have t0 : tyV J.X.K T v0 H := by
        obtain ⟨al, L, q⟩ := r1.rel
        cases q with
        | cons he _ _ _ =>
          obtain ⟨w, e, q⟩ := he
          cases e
          exact tyD_ow q ht hd
      refine ⟨t0, rt _ _ _ _ _ _ r1 (((Req.bind hq).tmp _).mono fun ds e2 _ z2 S2 H2 vs g2 ok r2 => ?_)⟩
      have l := ok.len
      cases eg : g (d0 :: ds) with
      | none => rw [eg] at z2; exact z2.elim
      | some p =>
        obtain ⟨d, os⟩ := p
        rw [eg] at z2
        have rel2 : Rel J.G S2 H2 (ents (.ow j :: as.map Ak.kd) (d0 :: ds) ((v0 :: vs).map some) ++ (R ++ ents κ2 e2 σ)) := by
          refine r2.rel.perm ?_
          simp only [List.map_cons, ents, List.cons_append, List.append_assoc]
          exact List.perm_middle
        refine hp S2 H2 (d0 :: ds) (v0 :: vs) d os (R ++ ents κ2 e2 σ) Q eg (by simp [l.1]) (by simp [l.2]) rel2 fun S3 H3 w g3 le r3 => ?_
        have ok' : AOk (.io i j :: as) (d0 :: ds) (v0 :: vs) σ := ⟨hv, ok⟩
        refine z2 S3 H3 w (g2.trans g3) (Rl.back (as := .io i j :: as) (T := [⟨k, d, some w⟩]) ok' (by simpa using le) ⟨r2.l1, r2.l2, ?_⟩)
        simpa only [List.map_cons, Ak.kd, List.cons_append, List.nil_append, List.append_assoc] using r3
    · rw [if_neg ht] at hq
      exact hq.elim
theorem ex_bmI (i j : Nat) {xn : Str} {np : Pos} {r : V → List V → Hp → VK → Prop} (hN : J.X.N[i]? = some xn) (hvi : Vis J.X.env.scope xn) (hk : κ[i]? = some (.ow j)) (pa : PlainAttrs T) (slot : Slot T name id) (hty : typeOf (.builtin id) = pure (.type "method_descriptor")) (hm : MtR J.X id r) (hd : T ≠ "dict") (hp : Prim J.G (Rm.rM r) (.ow j :: as.map Ak.kd) k g)
    (hev : Ev J (κ.set i .un) (e :: es) as fr κ2) (hst : noStar (e :: es) = true := by rfl)
    (hbase : attributeBase (.Name xn np) name J.X.env (eval (.Name xn np) J.X.env) = eval (.Name xn np) J.X.env := by rfl)
    (hfew : ((backTo cpos (starEach (e :: es) J.X.env)).all (fun x => !x.1) && (backToKw cpos (keywordEach [] J.X.env)).all (fun x => x.1.isSome)
      && decide ((e :: es).length + ([] : List Keyword).length + (if ([] : List Keyword).isEmpty then 0 else 1) < 30)) = true := by rfl)
    (hline : (apos.endLine == cpos.line) = true := by rfl) (hplain : (backTo cpos (starEach es J.X.env)).any (·.1) = false := by rfl)
    (hdb : (xn == ("__debug__" : Str)) = false := by decide) (hcd : (xn == ("__classdict__" : Str)) = false := by decide) :
    Ex J κ (.Call (.Attribute (.Name xn np) name apos) (e :: es) [] cpos) k (methM T g (.io i j) as (vr i) fr) (backK (.io i j :: as) κ2) := by
  obtain ⟨ts, pts, rt⟩ := hev.ex
  exact ⟨_, pe_bm pa slot hty hm (pe_var hN hvi hdb hcd) (spl_of pts (star_pl hst)) hbase hfew hline (star_pl hst [] e es rfl) hplain, fun R S H σ env Q h hq => methI_core hd hk rt hp h hq⟩
theorem ex_bmI0 (i j : Nat) {xn : Str} {np : Pos} {r : V → List V → Hp → VK → Prop} (hN : J.X.N[i]? = some xn) (hvi : Vis J.X.env.scope xn) (hk : κ[i]? = some (.ow j)) (pa : PlainAttrs T) (slot : Slot T name id) (hty : typeOf (.builtin id) = pure (.type "method_descriptor")) (hm : MtR J.X id r) (hd : T ≠ "dict") (hp : Prim J.G (Rm.rM r) [.ow j] k g)
    (hbase : attributeBase (.Name xn np) name J.X.env (eval (.Name xn np) J.X.env) = eval (.Name xn np) J.X.env := by rfl) (hline : (apos.endLine == cpos.line) = true := by rfl)
    (hdb : (xn == ("__debug__" : Str)) = false := by decide) (hcd : (xn == ("__classdict__" : Str)) = false := by decide) :
    Ex J κ (.Call (.Attribute (.Name xn np) name apos) [] [] cpos) k (methM T g (.io i j) [] (vr i) aNil) (backK [.io i j] (κ.set i .un)) := by
  exact ⟨_, pe_bm0 pa slot hty hm (pe_var hN hvi hdb hcd) hbase hline, fun R S H σ env Q h hq => methI_core (as := []) (ts := []) (fr := aNil) (κ2 := κ.set i .un) hd hk (fun R S H σ env Q h q => q S H [] .refl trivial h) hp h hq⟩

theorem rel_sh {G S H} : ∀ {n : Nat} {ds : List D} {vs : List V} {xs : List Ent}, Rel G S H (ents (List.replicate n .sh) ds (vs.map some) ++ xs) → ds.length = n → vs.length = n → DenL G S H ds vs
  | 0, [], [], _, _, _, _ => by simp only [DenL]
  | n + 1, d :: ds, v :: vs, xs, h, l1, l2 => by
    simp only [DenL]
    have h : Rel G S H (⟨.sh, d, some v⟩ :: (ents (List.replicate n .sh) ds (vs.map some) ++ xs)) := h
    exact ⟨v, vs, rfl, h.shared, rel_sh h.drop (by simpa using l1) (by simpa using l2)⟩
  | 0, _ :: _, _, _, _, l, _ => by simp at l
  | 0, [], _ :: _, _, _, _, l => by simp at l
  | n + 1, [], _, _, _, l, _ => by simp at l
  | n + 1, _ :: _, [], _, _, _, l => by simp at l
/-- a new list, owned -/
theorem Rel.newList {G S H xs ds vs} {p : Addr} (h : Rel G S H xs) (hp : H p = none) (hd : DenL G S H ds vs) : Grow S H S (upd H p (.lst vs)) ∧ Rel G S (upd H p (.lst vs)) (⟨.ow 0, .lst ds, some (.ref p)⟩ :: xs) := by
  have ns : ¬ S p := fun s => h.1 p s hp
  have g : Grow S H S (upd H p (.lst vs)) := Grow.of fun a s => ⟨s, upd_ne fun e => ns (e ▸ s)⟩
  refine Rel.step0 (ys := [⟨.ow 0, .lst ds, some (.ref p)⟩]) h g (fun a n => .inr (upd_ne fun e => n (e ▸ hp))) (fun a s => .inl s) (fun a s => by
    have e : upd H p (.lst vs) a = H a := upd_ne (fun e => ns (e ▸ s))
    rw [e]; exact h.1 a s) ⟨[p] ++ [], fun a m => ?_, .cons ⟨_, rfl, ?_⟩ (by simp) (fun a m => ?_) .nil⟩
  · simp at m; subst m; exact hp
  · exact ⟨p, vs, [], rfl, upd_same, rfl, All3_zero.mpr ⟨hd.grow g, rfl⟩⟩
  · simp at m; subst m
    exact ⟨ns, by rw [upd_same]; simp, by simp⟩
theorem Rel.newTup {G S H xs ds vs} {p : Addr} (h : Rel G S H xs) (hp : H p = none) (hd : DenL G S H ds vs) : ∃ S', Grow S H S' (upd H p (.tup vs)) ∧ Rel G S' (upd H p (.tup vs)) (⟨.sh, .tup ds, some (.ref p)⟩ :: xs) := by
  have ns : ¬ S p := fun s => h.1 p s hp
  have g : Grow S H (fun a => S a ∨ a = p) (upd H p (.tup vs)) := Grow.of fun a s => ⟨.inl s, upd_ne fun e => ns (e ▸ s)⟩
  refine ⟨fun a => S a ∨ a = p, ?_⟩
  refine Rel.step0 (ys := [⟨.sh, .tup ds, some (.ref p)⟩]) h g (fun a n => .inr (upd_ne fun e => n (e ▸ hp))) (fun a s => s.elim .inl fun e => .inr (by rw [e]; exact hp)) (fun a s => ?_) ⟨[] ++ [], fun a m => (by simp at m), .cons ⟨rfl, _, rfl, ?_⟩ .nil (fun a m => nomatch m) .nil⟩
  · rcases s with s | rfl
    · have e : upd H p (.tup vs) a = H a := upd_ne (fun e => ns (e ▸ s))
      rw [e]; exact h.1 a s
    · rw [upd_same]; simp
  · simp only [Den]
    exact ⟨p, vs, rfl, .inl ⟨.inr rfl, .inl upd_same⟩, hd.grow g⟩
/-- most that a list may hold here -/
def lim : Nat := 1000000
theorem lim_ok {n : Nat} (h : n ≤ lim) : n ≤ sizeLine := Nat.le_trans h (by unfold lim; decide)
theorem lim_lt {n : Nat} (h : n ≤ lim) : n < sizeLine := Nat.lt_of_le_of_lt h (by unfold lim; decide)
def lstM (fr : M (List D)) : M D := fun e => (fr e).bind fun ds e => if ds.length ≤ lim then .ok (.lst ds) e else .stuck
def tupM (fr : M (List D)) : M D := fun e => (fr e).bind fun ds e => if ds.length ≤ lim then .ok (.tup ds) e else .stuck
theorem ax_shd : ∀ {as : List Ak}, as.all (· == .sh) = true → as.map Ak.kd = List.replicate as.length .sh
  | [], _ => rfl
  | a :: as, h => by
    simp only [List.all_cons, Bool.and_eq_true, beq_iff_eq] at h
    obtain ⟨rfl, h⟩ := h
    simp only [List.map_cons, List.length_cons, List.replicate_succ, List.cons.injEq]
    exact ⟨rfl, ax_shd h⟩
theorem dropTemps {G S H κ e σ} : ∀ {T R : List Ent}, Rl G S H κ e σ (T ++ R) → Rl G S H κ e σ R
  | [], _, h => h
  | _ :: T, _, h => dropTemps (T := T) h.drop
theorem ex_lst (ha : Ax J κ es as fr κ1) (hs : as.all (· == .sh) = true := by rfl) : Ex J κ (.List es pos) (.ow 0) (lstM fr) κ1 := by
  obtain ⟨t, p, q⟩ := ha.ex
  refine ⟨_, pe_lst p, fun R S H σ env Q h hq => q _ _ _ _ _ _ h (hq.bind.mono fun ds e1 _ z S1 H1 vs g1 ok r1 => ?_)⟩
  have l := ok.len
  by_cases hl : ds.length ≤ lim
  · rw [if_pos hl] at z
    refine ⟨by rw [l.2, ← l.1]; exact lim_ok hl, fun p hp => ?_⟩
    have r0 := r1.rel
    rw [ax_shd hs, List.append_assoc] at r0
    have hd := rel_sh r0 l.1 l.2
    have r2 := dropTemps r1
    obtain ⟨g2, r3⟩ := r2.rel.newList hp hd
    exact z S1 _ _ (g1.trans g2) ⟨r2.l1, r2.l2, r3⟩
  · rw [if_neg hl] at z; exact z.elim
theorem ex_tup {k2} (ha : Ax J κ es as fr κ1) (hs : as.all (· == .sh) = true := by rfl) : Ex J κ (.Tuple es k2 pos) .sh (tupM fr) κ1 := by
  obtain ⟨t, p, q⟩ := ha.ex
  refine ⟨_, pe_tup p, fun R S H σ env Q h hq => q _ _ _ _ _ _ h (hq.bind.mono fun ds e1 _ z S1 H1 vs g1 ok r1 => ?_)⟩
  have l := ok.len
  by_cases hl : ds.length ≤ lim
  · rw [if_pos hl] at z
    refine ⟨by rw [l.2, ← l.1]; exact lim_ok hl, fun p hp => ?_⟩
    have r0 := r1.rel
    rw [ax_shd hs, List.append_assoc] at r0
    have hd := rel_sh r0 l.1 l.2
    have r2 := dropTemps r1
    obtain ⟨S2, g2, r3⟩ := r2.rel.newTup hp hd
    exact z S2 _ _ (g1.trans g2) ⟨r2.l1, r2.l2, r3⟩
  · rw [if_neg hl] at z; exact z.elim
end
end Rm
namespace Rm
open PySem PySem.Spec L2

def ItOk (G : Gx) (I : It) (S0 : Rg) (H0 : Hp) (items : List D) : Prop := ∀ S H, Grow S0 H0 S H → I.stop items.length H ∧ ∀ (i : Nat) d, items[i]? = some d → I.go i H ∧
  ∀ x H', I.yld i H x H' → ∀ xs, Rel G S H xs → ∃ S', Grow S H S' H' ∧ Rel G S' H' (⟨.sh, d, some x⟩ :: xs)
structure Ix (J : Jc) (κ : List Kd) (tg iter : Expr) (f : M (List D)) (κ' : List Kd) : Prop where
  ex : ∃ wi : TI, PI J.X tg iter wi ∧ ∀ R S H σ env Rk, Rl J.G S H κ env σ R →
    Req J R S H σ (f env) (fun ds e => ∀ S' H' I, Grow S H S' H' → Rl J.G S' H' κ' e σ R → ItOk J.G I S' H' ds → Rk I H') → wi σ H Rk

theorem denL_get {G S H} : ∀ {ds vs} {i : Nat} {d}, DenL G S H ds vs → ds[i]? = some d → ∃ v, vs[i]? = some v ∧ Den G S H d v
  | [], _, _, _, _, e => by simp at e
  | d :: ds, vs, i, d', h, e => by
    simp only [DenL] at h
    obtain ⟨v, r, rfl, h1, h2⟩ := h
    cases i with
    | zero => simp at e; subst e; exact ⟨v, by simp, h1⟩
    | succ i => simp at e; obtain ⟨w, e1, e2⟩ := denL_get h2 e; exact ⟨w, by simpa using e1, e2⟩

theorem itOk_list {G S H ds a vs} (hl : ∀ S' H', Grow S H S' H' → SqL G.K H' a vs) (hd : DenL G S H ds vs) : ItOk G (Itl G.K a) S H ds := fun S' H' g => by
  have q := hl S' H' g
  have d' := hd.grow g
  refine ⟨⟨vs, q, by rw [d'.length]; exact Nat.le_refl _⟩, fun i d e => ?_⟩
  obtain ⟨v, e1, e2⟩ := denL_get d' e
  refine ⟨⟨vs, v, q, e1⟩, fun x H2 y xs r => ?_⟩
  obtain ⟨rfl, y⟩ := y
  have e3 := y vs q
  rw [e1] at e3
  cases e3
  exact ⟨S', .refl, r.push e2⟩
theorem itOk_tup {G S H ds a vs} (hl : ∀ S' H', Grow S H S' H' → SqT G.K H' a vs) (hd : DenL G S H ds vs) : ItOk G (Itt G.K a) S H ds := fun S' H' g => by
  have q := hl S' H' g
  have d' := hd.grow g
  refine ⟨⟨vs, q, by rw [d'.length]; exact Nat.le_refl _⟩, fun i d e => ?_⟩
  obtain ⟨v, e1, e2⟩ := denL_get d' e
  refine ⟨⟨vs, v, q, e1⟩, fun x H2 y xs r => ?_⟩
  obtain ⟨rfl, y⟩ := y
  have e3 := y vs q
  rw [e1] at e3
  cases e3
  exact ⟨S', .refl, r.push e2⟩
theorem den_lst_g {G S H ds v} (h : Den G S H (.lst ds) v) : ∃ a vs, v = .ref a ∧ (∀ S' H', Grow S H S' H' → SqL G.K H' a vs) ∧ DenL G S H ds vs := by
  simp only [Den] at h
  obtain ⟨a, vs, rfl, s, q, l⟩ := h
  exact ⟨a, vs, rfl, fun S' H' g => SqL.of (vw_lst ((g a s).2.1.trans (by rw [q]; rfl))), l⟩
theorem den_rol_g {G S H ds v} (h : Den G S H (.rol ds) v) : ∃ a vs, v = .ref a ∧ (∀ S' H', Grow S H S' H' → SqL G.K H' a vs) ∧ DenL G S H ds vs := by
  simp only [Den] at h
  obtain ⟨a, vs, rfl, q, l⟩ := h
  refine ⟨a, vs, rfl, fun S' H' g => ?_, l⟩
  rcases q with ⟨s, q⟩ | q
  · exact .inl (Rd.grow g s q (.inl ⟨_, rfl⟩))
  · exact q H'
theorem den_tup_g {G S H ds v} (h : Den G S H (.tup ds) v) : ∃ a vs, v = .ref a ∧ (∀ S' H', Grow S H S' H' → SqT G.K H' a vs) ∧ DenL G S H ds vs := by
  simp only [Den] at h
  obtain ⟨a, vs, rfl, q, l⟩ := h
  refine ⟨a, vs, rfl, fun S' H' g => ?_, l⟩
  rcases q with ⟨s, q⟩ | q
  · exact .inl (Rd.grow g s q (.inr (.inl ⟨_, rfl⟩)))
  · exact q H'

def seqM (f : M D) : M (List D) := fun e => (f e).bind fun d e => match d with | .lst ds => .ok ds e | .rol ds => .ok ds e | .tup ds => .ok ds e | _ => .stuck
def chD (c : Nat) : D := .str ⟨#[c]⟩
def strM (f : M D) : M (List D) := fun e => (f e).bind fun d e => match d with | .str x => .ok (x.cps.toList.map chD) e | _ => .stuck
def rngD (lo : Int) (n : Nat) : List D := (List.range n).map fun (i : Nat) => .int (lo + i)
def int1 : List D → Option Int
  | [.int j] => some j
  | _ => none
theorem int1_some {ds : List D} {j} (h : int1 ds = some j) : ds = [.int j] := by
  unfold int1 at h; split at h
  · cases h; rfl
  · cases h
def int2 : List D → Option (Int × Int)
  | [.int i, .int j] => some (i, j)
  | _ => none
theorem int2_some {ds : List D} {p} (h : int2 ds = some p) : ds = [.int p.1, .int p.2] := by
  unfold int2 at h; split at h
  · cases h; rfl
  · cases h
def rng1M (f : M (List D)) : M (List D) := fun e => (f e).bind fun ds e => match int1 ds with | some j => if -(lim : Int) ≤ j ∧ j ≤ lim then .ok (rngD 0 j.toNat) e else .stuck | none => .stuck
def rng2M (f : M (List D)) : M (List D) := fun e => (f e).bind fun ds e => match int2 ds with | some p => if (-(lim : Int) ≤ p.1 ∧ p.1 ≤ lim) ∧ -(lim : Int) ≤ p.2 ∧ p.2 ≤ lim then .ok (rngD p.1 (p.2 - p.1).toNat) e else .stuck | none => .stuck
theorem lim62 : (lim : Int) < 2 ^ 62 := by unfold lim; decide
theorem lim62' : (2 : Int) ^ 62 = 4611686018427387904 := by decide
theorem rng_b {j : Int} (h : -(lim : Int) ≤ j ∧ j ≤ lim) : -(2 ^ 62) ≤ j ∧ j < 2 ^ 62 := by
  have := lim62
  rw [lim62'] at this ⊢
  omega
theorem PI.or {X : Cx} {tg iter : Expr} {w1 w2 : TI} (h1 : PI X tg iter w1) (h2 : PI X tg iter w2) : PI X tg iter (fun σ H R => w1 σ H R ∨ w2 σ H R) :=
  ⟨fun pins s σ H R I h => h.elim (h1.run pins s σ H R I) (h2.run pins s σ H R I)⟩

section
variable {J : Jc} {κ κ1 κ2 κ3 κ' : List Kd} {a b c e tg : Expr} {es : List Expr} {pos p apos : Pos} {fa fb fc f : M D} {fr : M (List D)} {k ka kb kc kr : Kd} {as : List Ak} {x m : Str}
/-- a list or a tuple -/
theorem ixq (he : Ex J κ e .sh f κ1) : Ix J κ tg e (seqM f) κ1 := by
  obtain ⟨t, p, q⟩ := he.ex
  refine ⟨_, PI.or (pi_list p) (pi_tup p), fun R S H σ env Rk h hq => ?_⟩
  unfold seqM at hq
  cases eo : f env with
  | stuck => rw [eo] at hq; exact hq.elim
  | ex c fs e1 =>
    rw [eo] at hq
    exact .inl (q R S H σ env _ h (by rw [eo]; exact hq))
  | ok d e1 =>
    rw [eo] at hq
    simp only [Out.bind_ok] at hq
    cases d with
    | lst ds =>
      refine .inl (q R S H σ env _ h ?_)
      rw [eo]
      intro S1 H1 v g1 r1
      obtain ⟨a, vs, rfl, hl, hd⟩ := den_lst_g r1.rel.shared
      exact ⟨a, rfl, ⟨vs, hl S1 H1 .refl⟩, hq S1 H1 _ g1 r1.drop (itOk_list hl hd)⟩
    | rol ds =>
      refine .inl (q R S H σ env _ h ?_)
      rw [eo]
      intro S1 H1 v g1 r1
      obtain ⟨a, vs, rfl, hl, hd⟩ := den_rol_g r1.rel.shared
      exact ⟨a, rfl, ⟨vs, hl S1 H1 .refl⟩, hq S1 H1 _ g1 r1.drop (itOk_list hl hd)⟩
    | tup ds =>
      refine .inr (q R S H σ env _ h ?_)
      rw [eo]
      intro S1 H1 v g1 r1
      obtain ⟨a, vs, rfl, hl, hd⟩ := den_tup_g r1.rel.shared
      exact ⟨a, rfl, ⟨vs, hl S1 H1 .refl⟩, hq S1 H1 _ g1 r1.drop (itOk_tup hl hd)⟩
    | _ => exact hq.elim
theorem ixs (he : Ex J κ e .sh f κ1) : Ix J κ tg e (strM f) κ1 := by
  obtain ⟨t, p, q⟩ := he.ex
  refine ⟨_, pi_str p, fun R S H σ env Rk h hq => q _ _ _ _ _ _ h (hq.bind.mono fun d e1 _ z S1 H1 v g1 r1 => ?_)⟩
  cases d with
  | str x =>
    have := r1.rel.shared
    simp only [Den] at this
    refine ⟨x, this, z S1 H1 _ g1 r1.drop fun S2 H2 g => ⟨?_, fun i d e => ?_⟩⟩
    · show x.cps.size ≤ (x.cps.toList.map chD).length
      simp
    · rw [List.getElem?_map] at e
      cases ec : x.cps.toList[i]? with
      | none => rw [ec] at e; cases e
      | some c =>
        rw [ec] at e
        simp at e
        have hi : i < x.cps.size := by
          have := (List.getElem?_eq_some_iff.mp ec).1
          simpa using this
        refine ⟨hi, fun y H3 hy xs r => ?_⟩
        obtain ⟨rfl, c', e1, rfl⟩ := hy
        refine ⟨S2, .refl, r.push ?_⟩
        have : x.cps.toList[i]? = x.cps[i]? := by simp
        rw [this, e1] at ec
        cases ec
        subst e
        simp only [chD, Den]
  | _ => exact z.elim
theorem itOk_rng {G S H} {lo : Int} {n : Nat} : ItOk G (Itr lo n) S H (rngD lo n) := fun S' H' g => by
  refine ⟨by simp [rngD, Itr], fun i d e => ?_⟩
  unfold rngD at e
  rw [List.getElem?_map] at e
  by_cases hi : i < n
  · rw [List.getElem?_range hi] at e
    simp at e
    refine ⟨hi, fun x H2 y xs r => ?_⟩
    obtain ⟨rfl, rfl⟩ := y
    exact ⟨S', .refl, r.push (by subst e; simp only [Den])⟩
  · rw [List.getElem?_eq_none (by simpa using Nat.le_of_not_lt hi)] at e
    cases e
theorem dropAll {G S H κ e σ ks ds vs R} (h : Rl G S H κ e σ (ents ks ds vs ++ R)) : Rl G S H κ e σ R := dropTemps h
theorem shInts {G S H ds vs xs} {n : Nat} (h : Rel G S H (ents (List.replicate n .sh) ds (vs.map some) ++ xs)) (l1 : ds.length = n) (l2 : vs.length = n) : DenL G S H ds vs := rel_sh h l1 l2
theorem ix_rng1 (hg : Gl J.X "range") (hm : J.X.mg "range" = none) (ha : Ax J κ [a] as fr κ1) (hsh : as.all (· == .sh) = true := by rfl) (hs : starEach [a] J.X.env = [(false, eval a J.X.env)] := by rfl) :
    Ix J κ tg (.Call (.Name "range" p) [a] [] pos) (rng1M fr) κ1 := by
  obtain ⟨t, pt, q⟩ := ha.ex
  refine ⟨_, pi_range1 hg hm pt hs, fun R S H σ env Rk h hq => q _ _ _ _ _ _ h (hq.bind.mono fun ds e1 _ z S1 H1 vs g1 ok r1 => ?_)⟩
  have l := ok.len
  have r0 := r1.rel
  rw [ax_shd hsh, List.append_assoc] at r0
  have hd := rel_sh r0 l.1 l.2
  cases ei : int1 ds with
  | none => rw [ei] at z; exact z.elim
  | some j =>
    rw [ei] at z
    have e2 := int1_some ei
    subst e2
    by_cases hj : -(lim : Int) ≤ j ∧ j ≤ lim
    · have z := (show Req J R S H σ (if -(lim : Int) ≤ j ∧ j ≤ lim then .ok (rngD 0 j.toNat) e1 else .stuck) _ from z)
      rw [if_pos hj] at z
      simp only [DenL, Den] at hd
      obtain ⟨v, r, rfl, rfl, rfl⟩ := hd
      exact ⟨j, rfl, (rng_b hj).1, (rng_b hj).2, z S1 H1 _ g1 (dropTemps r1) itOk_rng⟩
    · have z := (show Req J R S H σ (if -(lim : Int) ≤ j ∧ j ≤ lim then .ok (rngD 0 j.toNat) e1 else .stuck) _ from z)
      rw [if_neg hj] at z
      exact z.elim
theorem ix_rng2 (hg : Gl J.X "range") (hm : J.X.mg "range" = none) (ha : Ax J κ [a, b] as fr κ1) (hsh : as.all (· == .sh) = true := by rfl) (hs : starEach [a, b] J.X.env = [(false, eval a J.X.env), (false, eval b J.X.env)] := by rfl) (hs2 : starEach [b] J.X.env = [(false, eval b J.X.env)] := by rfl) :
    Ix J κ tg (.Call (.Name "range" p) [a, b] [] pos) (rng2M fr) κ1 := by
  obtain ⟨t, pt, q⟩ := ha.ex
  refine ⟨_, pi_range2 hg hm pt hs hs2, fun R S H σ env Rk h hq => q _ _ _ _ _ _ h (hq.bind.mono fun ds e1 _ z S1 H1 vs g1 ok r1 => ?_)⟩
  have l := ok.len
  have r0 := r1.rel
  rw [ax_shd hsh, List.append_assoc] at r0
  have hd := rel_sh r0 l.1 l.2
  cases ei : int2 ds with
  | none => rw [ei] at z; exact z.elim
  | some pr =>
    obtain ⟨i, j⟩ := pr
    rw [ei] at z
    have e2 := int2_some ei
    subst e2
    by_cases hj : (-(lim : Int) ≤ i ∧ i ≤ lim) ∧ -(lim : Int) ≤ j ∧ j ≤ lim
    · have z := (show Req J R S H σ (if (-(lim : Int) ≤ i ∧ i ≤ lim) ∧ -(lim : Int) ≤ j ∧ j ≤ lim then .ok (rngD i (j - i).toNat) e1 else .stuck) _ from z)
      rw [if_pos hj] at z
      simp only [DenL, Den] at hd
      obtain ⟨v, r, rfl, rfl, w, r', rfl, rfl, rfl⟩ := hd
      exact ⟨i, j, rfl, ⟨(rng_b hj.1).1, (rng_b hj.1).2, (rng_b hj.2).1, (rng_b hj.2).2⟩, z S1 H1 _ g1 (dropTemps r1) itOk_rng⟩
    · have z := (show Req J R S H σ (if (-(lim : Int) ≤ i ∧ i ≤ lim) ∧ -(lim : Int) ≤ j ∧ j ≤ lim then .ok (rngD i (j - i).toNat) e1 else .stuck) _ from z)
      rw [if_neg hj] at z
      exact z.elim

def forGo (tg : D → List D → Option (List D)) (body : M Fl) : List D → M Fl
  | [], e => .ok .nx e
  | x :: xs, e => match tg x e with
    | none => .stuck
    | some e => (body e).bind fun fl e => match fl with
      | .nx => forGo tg body xs e
      | .ct => forGo tg body xs e
      | .bk => .ok .nx e
      | .rt d => .ok (.rt d) e
def forM' (src : M (List D)) (tg : D → List D → Option (List D)) (body : M Fl) : M Fl := fun e => (src e).bind fun items e => forGo tg body items e
/-- the same with other kinds at a break and at a continue -/
def Jc.loop (J : Jc) (kb kc : List Kd) : Jc := { J with kb := kb, kc := kc }
theorem sx_for {iter : Expr} {body : List Stmt} {g} {fb : M Fl} {src : M (List D)} {ws : List Nat} (hi : Ix J κ tg iter src κ1) (hg : Gtx J κ1 tg .sh g ws κ2) (hws : ws.all (fun i => J.kx[i]? == some Kd.un) = true := by rfl) (hb : Lx (J.loop κ1 κ1) κ2 body fb κ1) (hs : ∀ x, foldedSetIterable iter J.X.env x = pure x := by intro _; rfl) :
    Sx J κ (.For tg iter body [] pos) (forM' src g fb) κ1 := by
  obtain ⟨wi, pi, qi⟩ := hi.ex
  obtain ⟨tg', pg, qg⟩ := hg.ex
  obtain ⟨tb, pb, qb⟩ := hb.ex
  refine ⟨_, ps_for J.po J.calm pi pg pb hs, fun R S H σ env D h hq => qi _ _ _ _ _ _ h (SReq.bind hq |>.mono fun items e1 _ z S1 H1 I g1 r1 io => ?_)⟩
  have z1 := SReq.later z g1 (Fix.refl (σ := σ))
  -- the word: i items are gone
  refine ⟨fun i m σ' H' => ∃ S' e', m = items.length - i ∧ i ≤ items.length ∧ Grow S1 H1 S' H' ∧ Fix J.kx σ σ' ∧ Rl J.G S' H' κ1 e' σ' R ∧ SReq J κ1 R S' H' σ' (forGo g fb (items.drop i) e') D, ⟨items.length, S1, e1, by omega, Nat.zero_le _, .refl, .refl, r1, by rw [List.drop_zero]; exact z1⟩, ?_⟩
  rintro i m σ' H' ⟨S', e', rfl, hi', g2, fx, r2, z2⟩
  obtain ⟨hst, hgo⟩ := io S' H' g2
  by_cases hlt : i < items.length
  · have ed : items[i]? = some items[i] := List.getElem?_eq_getElem hlt
    obtain ⟨go, hy⟩ := hgo i _ ed
    have edr : items.drop i = items[i] :: items.drop (i + 1) := List.drop_eq_getElem_cons hlt
    rw [edr] at z2
    unfold forGo at z2
    refine .inr ⟨go, _, fun σ3 H3 q => q, fun x H3 y => ?_⟩
    obtain ⟨S3, g3, r3⟩ := hy x H3 y _ r2.rel
    cases eg : g items[i] e' with
    | none => rw [eg] at z2; exact z2.elim
    | some e3 =>
      rw [eg] at z2
      refine qg R S3 H3 σ' e' _ x e3 _ ⟨r2.l1, r2.l2, r3⟩ eg fun σ4 fx4' r4 => ?_
      have fx4 := fx4'.fix hws
      refine qb R S3 H3 σ4 e3 _ r4 ?_
      have z3 := SReq.later (show SReq J κ1 R S' H' σ' ((fb e3).bind _) D from z2) g3 fx4
      have nxt : ∀ S5 H5 σ5 e5, Grow S3 H3 S5 H5 → Fix J.kx σ4 σ5 → Rl J.G S5 H5 κ1 e5 σ5 R → SReq J κ1 R S3 H3 σ4 (forGo g fb (items.drop (i + 1)) e5) D →
          ∃ m', m' < items.length - i ∧ ∃ S' e', m' = items.length - (i + 1) ∧ i + 1 ≤ items.length ∧ Grow S1 H1 S' H5 ∧ Fix J.kx σ σ5 ∧ Rl J.G S' H5 κ1 e' σ5 R ∧ SReq J κ1 R S' H5 σ5 (forGo g fb (items.drop (i + 1)) e') D := fun S5 H5 σ5 e5 g5 fx5 r5 z5 =>
        ⟨items.length - (i + 1), by omega, S5, e5, rfl, hlt, (g2.trans g3).trans g5, (fx.trans fx4).trans fx5, r5, SReq.later z5 g5 fx5⟩
      unfold SReq
      cases eb : fb e3 with
      | stuck => rw [eb] at z3; exact z3
      | ex c fs e5 => rw [eb] at z3; exact z3
      | ok fl e5 =>
        rw [eb] at z3
        cases fl with
        | nx => exact fun S5 H5 σ5 g5 fx5 r5 => nxt S5 H5 σ5 e5 g5 fx5 r5 z3
        | ct => exact fun S5 H5 σ5 g5 fx5 r5 => nxt S5 H5 σ5 e5 g5 fx5 r5 z3
        | bk => exact z3
        | rt d => exact z3
  · have ei : i = items.length := by omega
    subst ei
    rw [List.drop_length] at z2
    exact .inl ⟨hst, z2 S' H' σ' .refl .refl r2⟩

def whGo (t : M Bool) (body : M Fl) : Nat → M Fl
  | 0, _ => .stuck
  | n + 1, e => (t e).bind fun b e => if b = true then (body e).bind fun fl e => match fl with
      | .nx => whGo t body n e
      | .ct => whGo t body n e
      | .bk => .ok .nx e
      | .rt d => .ok (.rt d) e
    else .ok .nx e
theorem sx_while (n : Nat) {body : List Stmt} {fb : M Fl} {f1 : M Bool} (hc : Tx J κ c f1 κ) (hb : Lx (J.loop κ κ) κ body fb κ) : Sx J κ (.While c body [] pos) (whGo f1 fb n) κ := by
  obtain ⟨tc, pc, qc⟩ := hc.ex
  obtain ⟨tb, pb, qb⟩ := hb.ex
  refine ⟨_, ps_while J.po pc pb, fun R S H σ env D h hq => ?_⟩
  refine ⟨fun m σ' H' => ∃ S' e', Grow S H S' H' ∧ Fix J.kx σ σ' ∧ Rl J.G S' H' κ e' σ' R ∧ SReq J κ R S' H' σ' (whGo f1 fb m e') D, ⟨n, S, env, .refl, .refl, h, hq⟩, ?_⟩
  rintro m σ' H' ⟨S', e', g2, fx, r2, z2⟩
  cases m with
  | zero => exact z2.elim
  | succ m =>
    unfold whGo at z2
    refine qc _ _ _ _ _ _ r2 (SReq.bind z2 |>.mono fun b e1 _ z S1 H1 g1 r1 => ?_)
    cases b with
    | false =>
      refine iteF ?_
      exact (SReq.later (show SReq J κ R S' H' σ' (.ok .nx e1) D from z) g1 .refl) S1 H1 σ' .refl .refl r1
    | true =>
      refine iteT ⟨_, fun _ _ q => q, qb R S1 H1 σ' e1 _ r1 ?_⟩
      have z3 := SReq.later (show SReq J κ R S' H' σ' ((fb e1).bind _) D from z) g1 (Fix.refl (σ := σ'))
      have nxt : ∀ S5 H5 σ5 e5, Grow S1 H1 S5 H5 → Fix J.kx σ' σ5 → Rl J.G S5 H5 κ e5 σ5 R → SReq J κ R S1 H1 σ' (whGo f1 fb m e5) D →
          ∃ m', m' < m + 1 ∧ ∃ S' e', Grow S H S' H5 ∧ Fix J.kx σ σ5 ∧ Rl J.G S' H5 κ e' σ5 R ∧ SReq J κ R S' H5 σ5 (whGo f1 fb m' e') D := fun S5 H5 σ5 e5 g5 fx5 r5 z5 =>
        ⟨m, by omega, S5, e5, (g2.trans g1).trans g5, fx.trans fx5, r5, SReq.later z5 g5 fx5⟩
      unfold SReq
      cases eb : fb e1 with
      | stuck => rw [eb] at z3; exact z3
      | ex c fs e5 => rw [eb] at z3; exact z3
      | ok fl e5 =>
        rw [eb] at z3
        cases fl with
        | nx => exact fun S5 H5 σ5 g5 fx5 r5 => nxt S5 H5 σ5 e5 g5 fx5 r5 z3
        | ct => exact fun S5 H5 σ5 g5 fx5 r5 => nxt S5 H5 σ5 e5 g5 fx5 r5 z3
        | bk => exact z3
        | rt d => exact z3
end
end Rm
namespace Rm
open PySem PySem.Spec L2

theorem Rl.sig {G S H} {κ : List Kd} {env env' : List D} {σ σ' : St} {R : List Ent} (h : Rl G S H κ env σ R) (l : σ'.length = σ.length) (le : env'.length = env.length)
    (f : ∀ i : Nat, κ[i]? ≠ some .un → σ'[i]? = σ[i]? ∧ env'[i]? = env[i]?) : Rl G S H κ env' σ' R := by
  refine ⟨h.l1.trans l.symm, by rw [le, h.l2, l], ?_⟩
  have key : ∀ (κ : List Kd) (env env' : List D) (σ σ' : St) (R : List Ent), σ'.length = σ.length → env'.length = env.length → (∀ i : Nat, κ[i]? ≠ some .un → σ'[i]? = σ[i]? ∧ env'[i]? = env[i]?) →
      Rel G S H (R ++ ents κ env σ) → Rel G S H (R ++ ents κ env' σ') := by
    intro κ
    induction κ with
    | nil => intro env env' σ σ' R _ _ _ h; simpa [ents] using h
    | cons k ks ih =>
      intro env env' σ σ' R l le f h
      cases env with
      | nil =>
        have : env' = [] := List.length_eq_zero_iff.mp le
        subst this
        simpa [ents] using h
      | cons d ds =>
        cases env' with
        | nil => simp at le
        | cons d' ds' =>
          cases σ with
          | nil =>
            have : σ' = [] := List.length_eq_zero_iff.mp l
            subst this
            simpa [ents] using h
          | cons v vs =>
            cases σ' with
            | nil => simp at l
            | cons v' vs' =>
              have h1 : Rel G S H ((R ++ [⟨k, d, v⟩]) ++ ents ks ds vs) := by simpa [ents] using h
              have h2 := ih ds ds' vs vs' (R ++ [⟨k, d, v⟩]) (by simpa using l) (by simpa using le) (fun i q => by simpa using f (i + 1) (by simpa using q)) h1
              have h3 : Rel G S H (R ++ ⟨k, d, v⟩ :: ents ks ds' vs') := by simpa using h2
              show Rel G S H (R ++ ⟨k, d', v'⟩ :: ents ks ds' vs')
              by_cases hk : k = .un
              · subst hk
                exact ((h3.perm List.perm_middle).un_eq).perm List.perm_middle.symm
              · have := f 0 (by simpa using hk)
                simp at this
                rw [this.1, this.2]
                exact h3
  exact key κ env env' σ σ' R l le f h.rel

/-- the block's own slots are forgotten -/
def wipeE (e : List D) : List Nat → List D
  | [] => e
  | v :: vs => (wipeE e vs).set v .non
theorem wipeE_length (e : List D) : ∀ vs : List Nat, (wipeE e vs).length = e.length
  | [] => rfl
  | v :: vs => by unfold wipeE; rw [List.length_set, wipeE_length e vs]
theorem wipeE_out {e : List D} {i : Nat} : ∀ {vs : List Nat}, i ∉ vs → (wipeE e vs)[i]? = e[i]?
  | [], _ => rfl
  | v :: vs, h => by
    have h1 : v ≠ i := fun q => h (by rw [q]; exact List.mem_cons_self)
    unfold wipeE
    rw [List.getElem?_set_ne h1, wipeE_out fun m => h (List.mem_cons_of_mem _ m)]
theorem wipe_in {σ : St} {i : Nat} : ∀ {vs : List Nat}, i ∈ vs → i < σ.length → (wipe σ vs)[i]? = some none
  | v :: vs, m, l => by
    unfold wipe
    by_cases e : v = i
    · subst e
      rw [List.getElem?_set_self (by rw [wipe_length]; exact l)]
    · rw [List.getElem?_set_ne e]
      exact wipe_in ((List.mem_cons.mp m).resolve_left (Ne.symm e)) l
theorem wipe_agr {ws vs : List Nat} {σ σ2 : St} (a : Agr ws (wipe σ vs) σ2) (h : ws.all vs.contains = true) : wipe σ2 vs = wipe σ vs := by
  apply List.ext_getElem?
  intro i
  by_cases m : i ∈ vs
  · by_cases l : i < σ.length
    · have l2 : i < σ2.length := by rw [a.1, wipe_length]; exact l
      rw [wipe_in m l, wipe_in m l2]
    · have l1 : (wipe σ vs).length ≤ i := by rw [wipe_length]; omega
      have l2 : (wipe σ2 vs).length ≤ i := by rw [wipe_length, a.1, wipe_length]; omega
      rw [List.getElem?_eq_none l1, List.getElem?_eq_none l2]
  · rw [wipe_out m]
    refine a.2 i fun q => m ?_
    have := (List.all_eq_true.mp h) i q
    simpa using this

def Out.noEx {α : Type} : Out α → Out α
  | .ok a e => .ok a e
  | _ => .stuck
def lcGo (own : List Nat) (tg : D → List D → Option (List D)) (cond : M Bool) (elt : M D) : List D → M (List D)
  | [], e => .ok [] e
  | x :: xs, e => match tg x e with
    | none => .stuck
    | some e => (cond e).noEx.bind fun b e => if b = true then (elt e).noEx.bind fun d e => (lcGo own tg cond elt xs (wipeE e own)).bind fun ds e => .ok (d :: ds) e
      else lcGo own tg cond elt xs (wipeE e own)
def lcM (src : M (List D)) (own : List Nat) (tg : D → List D → Option (List D)) (cond : M Bool) (elt : M D) : M D := fun e => (src e).bind fun items e =>
  if items.length ≤ lim then (lcGo own tg cond elt items (wipeE e own)).bind fun ds e => .ok (.lst ds) e else .stuck
def yes : M Bool := fun e => .ok true e

/-- a comprehension's block -/
def Jc.blk (J : Jc) (s : Shared) (H : Hp) (scope : Scope) (C : Addr) (cl : List (Str × Addr)) (fp : List Addr) : Jc where
  X := J.X.blk s H scope (compEnvC scope cl C J.X.env) fp
  cl := J.cl
  fa := J.fa
  W := fun _ _ _ _ => False
  kx := List.replicate J.kx.length .un
  kr := .sh
  kb := []
  kc := []
  tk := takes0
  calm := J.calm
  po := PassesOwn.never
structure Cx1 (J : Jc) (κ : List Kd) (ifs : List Expr) (f : M Bool) (κ' : List Kd) : Prop where
  ex : ∃ t : TT, PTs J.X ifs t ∧ ∀ R S H σ env Q, Rl J.G S H κ env σ R →
    Req J R S H σ (f env) (fun b e => ∀ S' H', Grow S H S' H' → Rl J.G S' H' κ' e σ R → Q b H') → t σ H Q
theorem cx_nil {J κ} : Cx1 J κ [] yes κ := ⟨tYes, pts_nil, fun R S H σ env Q h q => q S H .refl h⟩
theorem cx_one {J κ κ' c f} (h : Tx J κ c f κ') : Cx1 J κ [c] f κ' := by
  obtain ⟨t, p, q⟩ := h.ex
  exact ⟨t, pts_one p, q⟩

theorem Req.join {α β J R S H σ} {o : Out α} {F : α → List D → Out β} {K : β → List D → Prop} (h : Req J R S H σ o fun a e => Req J R S H σ (F a e) K) : Req J R S H σ (o.bind F) K := by
  cases o with
  | ok a e => exact h
  | ex c fs e => exact h
  | stuck => exact h
/-- the owned list at the head grows -/
theorem Rel.grow1 {G S H xs acc d v} {da : Addr} (h : Rel G S H (⟨.sh, d, some v⟩ :: ⟨.ow 0, .lst acc, some (.ref da)⟩ :: xs)) : ∃ vs, H da = some (.lst vs) ∧ vs.length = acc.length ∧
    Grow S H S (upd H da (.lst (vs ++ [v]))) ∧ Rel G S (upd H da (.lst (vs ++ [v]))) (⟨.ow 0, .lst (acc ++ [d]), some (.ref da)⟩ :: xs) := by
  have hd := h.shared
  have h := h.drop
  obtain ⟨al, L, q⟩ := id h
  cases q with
  | @cons _ _ L0 M he nd f hr =>
    obtain ⟨w, e, a, vs, M0, e1, ha, e2, hA⟩ := he
    cases e
    cases e1
    obtain ⟨hl, rfl⟩ := All3_zero.mp hA
    refine ⟨vs, ha, hl.length, ?_⟩
    have ns : ¬ S da := (f da (by rw [e2]; simp)).1
    have g : Grow S H S (upd H da (.lst (vs ++ [v]))) := Grow.of fun a s => ⟨s, upd_ne fun e => ns (e ▸ s)⟩
    refine Rel.step h (ys := [⟨.ow 0, .lst (acc ++ [d]), some (.ref da)⟩]) fun L' he' nd' f' => ?_
    obtain ⟨w, e, a, vs', M1, e1, ha', e2', hA'⟩ := he'
    cases e
    cases e1
    obtain ⟨hl', rfl⟩ := All3_zero.mp hA'
    subst e2'
    refine ⟨g, fun b n nb => .inr (upd_ne fun e => nb (by rw [e]; simp)), fun b s => .inl s, fun b s => ?_, [da] ++ [], fun b m => ?_, .cons ⟨_, rfl, da, vs ++ [v], [], rfl, upd_same, rfl, All3_zero.mpr ⟨?_, rfl⟩⟩ (by simp) (fun b m => ?_) .nil⟩
    · have e : upd H da (.lst (vs ++ [v])) b = H b := upd_ne (fun e => ns (e ▸ s))
      rw [e]; exact al b s
    · simp at m; subst m; exact .inl (by simp)
    · have key : ∀ {ds : List D} {us : List V}, DenL G S H ds us → DenL G S H (ds ++ [d]) (us ++ [v]) := by
        intro ds
        induction ds with
        | nil => intro us q; simp only [DenL] at q; subst q; simp only [List.nil_append, DenL]; exact ⟨v, [], rfl, hd, rfl⟩
        | cons d0 ds ih =>
          intro us q
          simp only [DenL] at q
          obtain ⟨v0, r, rfl, q1, q2⟩ := q
          simp only [List.cons_append, DenL]
          exact ⟨v0, r ++ [v], rfl, q1, ih q2⟩
      exact (key hl).grow g
    · simp at m; subst m
      exact ⟨ns, by rw [upd_same]; simp, by simp⟩
/-- the reading of a comprehension -/
theorem noEx_req {α} {J R S H σ σ' S' H'} {o : Out α} {β} {F : α → List D → Out β} {K : β → List D → Prop} {J' : Jc} {R' : List Ent} (h : Req J R S H σ (o.noEx.bind F) K) : Req J' R' S' H' σ' o fun a e => Req J R S H σ (F a e) K := by
  cases o with
  | ok a e => exact h
  | ex c fs e => exact h.elim
  | stuck => exact h.elim
theorem un_at {κ : List Kd} {vs : List Nat} (h : vs.all (fun i => κ[i]? == some Kd.un) = true) : ∀ i : Nat, κ[i]? ≠ some .un → i ∉ vs := fun i hk m => by
  have := (List.all_eq_true.mp h) i m
  exact hk (by simpa using this)
theorem lc_reading {J : Jc} {κ κ1 κb κ2 κ3 κ4 : List Kd} {vs ws : List Nat} {src : M (List D)} {g : D → List D → Option (List D)} {f1 : M Bool} {fe : M D} {wi : TI} {tG : TG} {tT : TT} {tE : TE}
    (J' : Jc) (hG : J'.G = J.G) (qi : ∀ R S H σ env Rk, Rl J.G S H κ env σ R → Req J R S H σ (src env) (fun ds e => ∀ S' H' I, Grow S H S' H' → Rl J.G S' H' κ1 e σ R → ItOk J.G I S' H' ds → Rk I H') → wi σ H Rk)
    (qg : ∀ R S H σ env d v e' Q, Rl J.G S H κb env σ (⟨.sh, d, some v⟩ :: R) → g d env = some e' → (∀ σ', Agr ws σ σ' → Rl J.G S H κ2 e' σ' R → Q σ' H) → tG v σ H Q)
    (qt : ∀ R S H σ env Q, Rl J.G S H κ2 env σ R → Req J' R S H σ (f1 env) (fun b e => ∀ S' H', Grow S H S' H' → Rl J.G S' H' κ3 e σ R → Q b H') → tT σ H Q)
    (qe : ∀ R S H σ env Q, Rl J.G S H κ3 env σ R → Req J' R S H σ (fe env) (fun d e => ∀ S' H' v, Grow S H S' H' → Rl J.G S' H' κ4 e σ (⟨.sh, d, some v⟩ :: R) → Q v H') → tE σ H Q)
    (hb : kle κb κ1 = true) (hb3 : kle κb κ3 = true) (hb4 : kle κb κ4 = true) (hun : vs.all (fun i => κb[i]? == some Kd.un) = true) (hws : ws.all vs.contains = true)
    {R S H σ env} {Q : VK} (h : Rl J.G S H κ env σ R) (hq : Req J R S H σ (lcM src vs g f1 fe env) (fun d e => ∀ S' H' v, Grow S H S' H' → Rl J.G S' H' κb e σ (⟨.ow 0, d, some v⟩ :: R) → Q v H')) :
    tLc wi tG tT tE vs σ H Q := by
  have hout := un_at hun
  have toW : ∀ {S H e R}, Rl J.G S H κb e σ R → Rl J.G S H κb (wipeE e vs) (wipe σ vs) R := fun h => h.sig (wipe_length _ _) (wipeE_length _ _) fun i hi => ⟨wipe_out (hout i hi), wipeE_out (hout i hi)⟩
  have ofW : ∀ {S H e R}, Rl J.G S H κb e (wipe σ vs) R → Rl J.G S H κb e σ R := fun h => h.sig (wipe_length _ _).symm rfl fun i hi => ⟨(wipe_out (hout i hi)).symm, rfl⟩
  refine qi _ _ _ _ _ _ h (hq.bind.mono fun items e1 _ z S1 H1 I g1 r1 io dA hD => ?_)
  by_cases hlim : items.length ≤ lim
  · rw [if_pos hlim] at z
    have r1b := toW (r1.weak hb)
    obtain ⟨g1', rD⟩ := r1b.rel.newList (ds := []) (vs := []) hD (by simp only [DenL])
    refine ⟨fun i m H' => ∃ S' e' acc, m = items.length - i ∧ i ≤ items.length ∧ acc.length ≤ i ∧ Grow S1 H1 S' H' ∧ Rl J.G S' H' κb e' (wipe σ vs) (⟨.ow 0, .lst acc, some (.ref dA)⟩ :: R) ∧
      Req J R S' H' σ ((lcGo vs g f1 fe (items.drop i) e').bind fun ds e => .ok (.lst (acc ++ ds)) e) (fun d e => ∀ S2 H2 v, Grow S' H' S2 H2 → Rl J.G S2 H2 κb e σ (⟨.ow 0, d, some v⟩ :: R) → Q v H2),
      ⟨items.length, S1, wipeE e1 vs, [], by omega, Nat.zero_le _, Nat.le_refl _, g1', ⟨r1b.l1, r1b.l2, rD⟩, ?_⟩, ?_⟩
    · rw [List.drop_zero]
      exact ((z.later g1).later g1').mono fun d e _ y S2 H2 v g2 r2 => y S2 H2 v ((g1.trans g1').trans g2) r2
    · rintro i m H' ⟨S', e', acc, rfl, hi', ha, g2, r2, z2⟩
      obtain ⟨hst, hgo⟩ := io S' H' g2
      by_cases hlt : i < items.length
      · have ed : items[i]? = some items[i] := List.getElem?_eq_getElem hlt
        obtain ⟨go, hy⟩ := hgo i _ ed
        have edr : items.drop i = items[i] :: items.drop (i + 1) := List.drop_eq_getElem_cons hlt
        rw [edr] at z2
        unfold lcGo at z2
        refine .inr ⟨go, _, fun H3 q => q, fun x H3 y => ?_⟩
        obtain ⟨S3, g3, r3⟩ := hy x H3 y _ r2.rel
        cases eg : g items[i] e' with
        | none => rw [eg] at z2; exact z2.elim
        | some e3 =>
          rw [eg] at z2
          refine qg _ S3 H3 (wipe σ vs) e' _ x e3 _ ⟨r2.l1, r2.l2, r3⟩ eg fun σ4 ag r4 => ⟨wipe_agr ag hws, ?_⟩
          have back : ∀ {S H e R}, Rl J.G S H κb e σ4 R → Rl J.G S H κb (wipeE e vs) (wipe σ vs) R := fun h => h.sig ag.1.symm (wipeE_length _ _) fun i hi =>
            ⟨(ag.2 i fun q => hout i hi (by have := (List.all_eq_true.mp hws) i q; simpa using this)).symm, wipeE_out (hout i hi)⟩
          have z3 := Req.later (show Req J R S' H' σ ((((f1 e3).noEx.bind _) : Out (List D)).bind _) _ from z2) g3
          refine qt _ _ _ _ _ _ r4 (noEx_req (Req.bind z3) |>.mono fun b e5 _ z5 S5 H5 g5 r5 => ?_)
          have z5 := z5
          have nxt : ∀ S7 H7 e7 acc', Grow S3 H3 S7 H7 → acc'.length ≤ i + 1 → Rl J.G S7 H7 κb e7 σ4 (⟨.ow 0, .lst acc', some (.ref dA)⟩ :: R) →
              Req J R S7 H7 σ ((lcGo vs g f1 fe (items.drop (i + 1)) (wipeE e7 vs)).bind fun ds e => .ok (.lst (acc' ++ ds)) e) (fun d e => ∀ S2 H2 v, Grow S7 H7 S2 H2 → Rl J.G S2 H2 κb e σ (⟨.ow 0, d, some v⟩ :: R) → Q v H2) →
              ∃ m', m' < items.length - i ∧ ∃ S' e' acc, m' = items.length - (i + 1) ∧ i + 1 ≤ items.length ∧ acc.length ≤ i + 1 ∧ Grow S1 H1 S' H7 ∧ Rl J.G S' H7 κb e' (wipe σ vs) (⟨.ow 0, .lst acc, some (.ref dA)⟩ :: R) ∧
                Req J R S' H7 σ ((lcGo vs g f1 fe (items.drop (i + 1)) e').bind fun ds e => .ok (.lst (acc ++ ds)) e) (fun d e => ∀ S2 H2 v, Grow S' H7 S2 H2 → Rl J.G S2 H2 κb e σ (⟨.ow 0, d, some v⟩ :: R) → Q v H2) := fun S7 H7 e7 acc' g7 ha' r7 z7 =>
            ⟨items.length - (i + 1), by omega, S7, wipeE e7 vs, acc', rfl, hlt, ha', (g2.trans g3).trans g7, back r7, z7⟩
          cases b with
          | false =>
            refine iteF (nxt S5 H5 e5 acc g5 (by omega) (r5.weak hb3) ?_)
            have z6 := Req.join z5
            exact (z6.later g5).mono fun d e _ y S2 H2 v g6 r6 => y S2 H2 v ((g3.trans g5).trans g6) r6
          | true =>
            refine iteT (qe _ _ _ _ _ _ r5 (noEx_req (show Req J R S3 H3 σ ((fe e5).noEx.bind _) _ from z5) |>.mono fun d e7 _ z7 S7 H7 y7 g7 r7 => ?_))
            obtain ⟨us, hu, lu, g8, r8⟩ := r7.rel.grow1
            refine ⟨us, hu, by rw [lu]; exact lim_lt (by omega), nxt S7 _ e7 (acc ++ [d]) ((g5.trans g7).trans g8) (by rw [List.length_append]; simp; omega) (Rl.weak ⟨r7.l1, r7.l2, r8⟩ hb4) ?_⟩
            have z7'' := Req.bind z7
            have z7' : Req J R S3 H3 σ (lcGo vs g f1 fe (items.drop (i + 1)) (wipeE e7 vs)) (fun a e => Req J R S3 H3 σ ((fun (ds : List D) e => (Out.ok (D.lst (acc ++ (d :: ds))) e : Out D)) a e) (fun d e => ∀ S2 H2 v, Grow S' H' S2 H2 → Rl J.G S2 H2 κb e σ (⟨.ow 0, d, some v⟩ :: R) → Q v H2)) := Req.mono z7'' fun a e _ q => q
            have z8 := Req.join z7'
            have ea : (fun (ds : List D) e => (Out.ok (D.lst (acc ++ (d :: ds))) e : Out D)) = fun ds e => .ok (.lst ((acc ++ [d]) ++ ds)) e := by
              funext ds e
              rw [List.append_assoc, List.singleton_append]
            rw [ea] at z8
            exact (z8.later ((g5.trans g7).trans g8)).mono fun d e _ y S2 H2 v g6 r6 => y S2 H2 v ((g3.trans ((g5.trans g7).trans g8)).trans g6) r6
      · have ei : i = items.length := by omega
        subst ei
        rw [List.drop_length] at z2
        refine .inl ⟨hst, ?_⟩
        have z3 : ∀ S2 H2 v, Grow S' H' S2 H2 → Rl J.G S2 H2 κb e' σ (⟨.ow 0, .lst (acc ++ []), some v⟩ :: R) → Q v H2 := z2
        rw [List.append_nil] at z3
        exact z3 S' H' _ .refl (ofW r2)
  · rw [if_neg hlim] at z
    exact z.elim

section
variable {J : Jc} {κ κ1 κb κ2 κ3 κ4 : List Kd} {vs ws : List Nat} {src : M (List D)} {g : D → List D → Option (List D)} {f1 : M Bool} {fe : M D} {tg iter elt : Expr} {ifs : List Expr} {scope : Scope} {own : List (Str × Nat)} {pos : Pos}
theorem lc_family (hi : Ix J κ tg iter src κ1)
    (hg : ∀ (s : Shared) (H : Hp) (C : Addr) (cl : List (Str × Addr)) (fp : List Addr), Gtx (J.blk s H scope C cl fp) κb tg .sh g ws κ2)
    (ht : ∀ (s : Shared) (H : Hp) (C : Addr) (cl : List (Str × Addr)) (fp : List Addr), Cx1 (J.blk s H scope C cl fp) κ2 ifs f1 κ3)
    (he : ∀ (s : Shared) (H : Hp) (C : Addr) (cl : List (Str × Addr)) (fp : List Addr), Ex (J.blk s H scope C cl fp) κ3 elt .sh fe κ4)
    (hb : kle κb κ1 = true) (hb3 : kle κb κ3 = true) (hb4 : kle κb κ4 = true) (hun : vs.all (fun i => κb[i]? == some Kd.un) = true) (hws : ws.all vs.contains = true) :
    ∃ wi tG tT tE, PI J.X tg iter wi ∧ (∀ (s : Shared) (H : Hp) (C : Addr) (cl : List (Str × Addr)) (fp : List Addr), PG (J.X.blk s H scope (compEnvC scope cl C J.X.env) fp) tg tG) ∧
      (∀ (s : Shared) (H : Hp) (C : Addr) (cl : List (Str × Addr)) (fp : List Addr), PTs (J.X.blk s H scope (compEnvC scope cl C J.X.env) fp) ifs tT) ∧
      (∀ (s : Shared) (H : Hp) (C : Addr) (cl : List (Str × Addr)) (fp : List Addr), PE (J.X.blk s H scope (compEnvC scope cl C J.X.env) fp) elt tE) ∧
      ∀ {R S H σ env} {Q : VK}, Rl J.G S H κ env σ R → Req J R S H σ (lcM src vs g f1 fe env) (fun d e => ∀ S' H' v, Grow S H S' H' → Rl J.G S' H' κb e σ (⟨.ow 0, d, some v⟩ :: R) → Q v H') → tLc wi tG tT tE vs σ H Q := by
  obtain ⟨wi, pi, qi⟩ := hi.ex
  refine ⟨wi, fun v σ H Q => ∀ s H0 C cl fp, Classical.choose (hg s H0 C cl fp).ex v σ H Q, fun σ H Q => ∀ s H0 C cl fp, Classical.choose (ht s H0 C cl fp).ex σ H Q, fun σ H Q => ∀ s H0 C cl fp, Classical.choose (he s H0 C cl fp).ex σ H Q, pi,
    fun s H C cl fp => ⟨fun pins s' σ H' v u Q I r h => (Classical.choose_spec (hg s H C cl fp).ex).1.run pins s' σ H' v u Q I r (h s H C cl fp)⟩,
    fun s H C cl fp => ⟨fun pins s' σ H' Q I h => (Classical.choose_spec (ht s H C cl fp).ex).1.run pins s' σ H' Q I (h s H C cl fp)⟩,
    fun s H C cl fp => ⟨fun pins s' σ H' Q I h => (Classical.choose_spec (he s H C cl fp).ex).1.run pins s' σ H' Q I (h s H C cl fp)⟩, fun {R S H σ env Q} h hq => ?_⟩
  refine lc_reading (J := J) (κ2 := κ2) (J.blk J.X.s_0 J.X.H_0 scope 0 [] []) rfl qi (fun R S H σ env d v e' Q h hq z s H0 C cl fp => ?_) (fun R S H σ env Q h hq s H0 C cl fp => ?_) (fun R S H σ env Q h hq s H0 C cl fp => ?_) hb hb3 hb4 hun hws h hq
  · exact (Classical.choose_spec (hg s H0 C cl fp).ex).2 R S H σ env d v e' Q h hq z
  · exact (Classical.choose_spec (ht s H0 C cl fp).ex).2 R S H σ env Q h hq
  · exact (Classical.choose_spec (he s H0 C cl fp).ex).2 R S H σ env Q h hq
theorem ex_lc (hN : J.X.N.Nodup) (hi : Ix J κ tg iter src κ1) (ok : BlkOk J.X.N J.X.env.scope scope own)
    (hg : ∀ (s : Shared) (H : Hp) (C : Addr) (cl : List (Str × Addr)) (fp : List Addr), Gtx (J.blk s H scope C cl fp) κb tg .sh g ws κ2)
    (ht : ∀ (s : Shared) (H : Hp) (C : Addr) (cl : List (Str × Addr)) (fp : List Addr), Cx1 (J.blk s H scope C cl fp) κ2 ifs f1 κ3)
    (he : ∀ (s : Shared) (H : Hp) (C : Addr) (cl : List (Str × Addr)) (fp : List Addr), Ex (J.blk s H scope C cl fp) κ3 elt .sh fe κ4)
    (hb : kle κb κ1 = true := by rfl) (hb3 : kle κb κ3 = true := by rfl) (hb4 : kle κb κ4 = true := by rfl) (hun : (own.map (·.2)).all (fun i => κb[i]? == some Kd.un) = true := by rfl) (hws : ws.all (own.map (·.2)).contains = true := by rfl)
    (hs : ∀ x, foldedSetIterable iter J.X.env x = pure x := by intro _; rfl) : Ex J κ (.ListComp elt [⟨tg, iter, ifs, 0⟩] scope pos) (.ow 0) (lcM src (own.map (·.2)) g f1 fe) κb := by
  obtain ⟨wi, tG, tT, tE, p1, p2, p3, p4, q⟩ := lc_family hi hg ht he hb hb3 hb4 hun hws
  exact ⟨_, pe_lc J.calm hN p1 ok p2 p3 p4 hs, fun R S H σ env Q h hq => q h hq⟩
/-- name = [..], the name a local of the def, on one line -/
theorem sx_setLc {i : Nat} {y : Str} {py spos : Pos} (hN : J.X.N.Nodup) (hy : J.X.N[i]? = some y) (hyl : J.X.env.scope.names.lookup y = some .local) (hsw : swapsWith (.ListComp elt [⟨tg, iter, ifs, 0⟩] scope pos) (some (.Name y py)) spos.line J.X.env = pure true)
    (hi : Ix J κ tg iter src κ1) (ok : BlkOk J.X.N J.X.env.scope scope own)
    (hg : ∀ (s : Shared) (H : Hp) (C : Addr) (cl : List (Str × Addr)) (fp : List Addr), Gtx (J.blk s H scope C cl fp) κb tg .sh g ws κ2)
    (ht : ∀ (s : Shared) (H : Hp) (C : Addr) (cl : List (Str × Addr)) (fp : List Addr), Cx1 (J.blk s H scope C cl fp) κ2 ifs f1 κ3)
    (he : ∀ (s : Shared) (H : Hp) (C : Addr) (cl : List (Str × Addr)) (fp : List Addr), Ex (J.blk s H scope C cl fp) κ3 elt .sh fe κ4)
    (hb : kle κb κ1 = true := by rfl) (hb3 : kle κb κ3 = true := by rfl) (hb4 : kle κb κ4 = true := by rfl) (hun : (own.map (·.2)).all (fun i => κb[i]? == some Kd.un) = true := by rfl) (hws : ws.all (own.map (·.2)).contains = true := by rfl)
    (hil : i < κb.length := by decide) (hkx : J.kx[i]? = some .un := by rfl) (hs : ∀ x, foldedSetIterable iter J.X.env x = pure x := by intro _; rfl) :
    Sx J κ (.Assign [.Name y py] (.ListComp elt [⟨tg, iter, ifs, 0⟩] scope pos) spos) (sAsg (lcM src (own.map (·.2)) g f1 fe) (tName i)) (κb.set i (.ow 0)) := by
  obtain ⟨wi, tG, tT, tE, p1, p2, p3, p4, q⟩ := lc_family hi hg ht he hb hb3 hb4 hun hws
  refine ⟨_, ps_setLc J.calm hN hy hyl hsw p1 ok p2 p3 p4 hs, fun R S H σ env D h hq => q h (SReq.bind hq |>.mono fun d e1 _ z S1 H1 v g1 r1 => ?_)⟩
  have e1' : κb[i]? = some (κb[i]'hil) := List.getElem?_eq_getElem _
  have e2 : e1[i]? = some (e1[i]'(by rw [r1.l2, ← r1.l1]; exact hil)) := List.getElem?_eq_getElem _
  have z : ∀ S' H' σ', Grow S H S' H' → Fix J.kx σ σ' → Rl J.G S' H' (κb.set i (.ow 0)) (e1.set i d) σ' R → D.nx σ' H' := z
  refine z S1 H1 _ g1 (fun j k' ej => ?_) (r1.store e1' e2)
  by_cases hij : i = j
  · subst hij; rw [hkx] at ej; cases ej
  · rw [List.getElem?_set_ne hij]
end
end Rm
namespace Rm
open PySem PySem.Spec L2

def vOf : D → Option V
  | .non => some .non
  | .bl b => some (.bl b)
  | .int i => some (.int i)
  | .str x => some (.str x)
  | _ => none
theorem den_leaf {G S H d v w} (h : vOf d = some w) : Den G S H d v ↔ v = w := by
  cases d <;> simp [vOf] at h <;> subst h <;> simp only [Den]
theorem Rel.view {G S H} : ∀ {ks : List Kd} {ds : List D} {vs : List V} {xs : List Ent}, ks.all (· != Kd.un) = true → ds.length = ks.length → vs.length = ks.length → Rel G S H (ents ks ds (vs.map some) ++ xs) →
    ∃ S2 : Rg, (∀ a, S a → S2 a) ∧ DenL G S2 H ds vs
  | [], [], [], xs, _, _, _, _ => ⟨S, fun _ s => s, by simp only [DenL]⟩
  | k :: ks, d :: ds, v :: vs, xs, hk, l1, l2, h => by
    simp only [List.all_cons, Bool.and_eq_true] at hk
    have h : Rel G S H (⟨k, d, some v⟩ :: (ents ks ds (vs.map some) ++ xs)) := h
    obtain ⟨S2, i2, hd⟩ := Rel.view hk.2 (by simpa using l1) (by simpa using l2) h.drop
    obtain ⟨al, L, q⟩ := h
    cases q with
    | @cons _ _ L0 M he nd f hr =>
      refine ⟨fun a => S2 a ∨ a ∈ L0, fun a s => .inl (i2 a s), ?_⟩
      simp only [DenL]
      refine ⟨v, vs, rfl, ?_, hd.grow (Grow.of fun a s => ⟨.inl s, rfl⟩)⟩
      cases k with
      | un => simp at hk
      | sh =>
        obtain ⟨_, w, e, q⟩ := he
        cases e
        exact q.grow (Grow.of fun a s => ⟨.inl (i2 a s), rfl⟩)
      | ow j =>
        obtain ⟨w, e, q⟩ := he
        cases e
        exact DenO.freeze (fun a s => Or.inl (i2 a s)) (fun a m => Or.inr m) q
  | [], _ :: _, _, _, _, l, _, _ => by simp at l
  | [], [], _ :: _, _, _, _, l, _ => by simp at l
  | _ :: _, [], _, _, _, l, _, _ => by simp at l
  | _ :: _, _ :: _, [], _, _, _, l, _ => by simp at l
theorem Rel.outK {G S H} : ∀ {ks : List Kd} {ds : List D} {vs : List V} {T xs : List Ent}, Rel G S H (T ++ (ents ks ds (vs.map some) ++ xs)) → Rel G S H (T ++ (ents (ks.map Kd.out) ds (vs.map some) ++ xs))
  | [], ds, vs, T, xs, h => h
  | k :: ks, [], vs, T, xs, h => h
  | k :: ks, d :: ds, [], T, xs, h => h
  | k :: ks, d :: ds, v :: vs, T, xs, h => by
    have h1 : Rel G S H ((T ++ [⟨k, d, some v⟩]) ++ (ents ks ds (vs.map some) ++ xs)) := by simpa [ents] using h
    have h2 := Rel.outK h1
    have h3 : Rel G S H (T ++ ⟨k, d, some v⟩ :: (ents (ks.map Kd.out) ds (vs.map some) ++ xs)) := by simpa using h2
    show Rel G S H (T ++ ⟨k.out, d, some v⟩ :: (ents (ks.map Kd.out) ds (vs.map some) ++ xs))
    cases k with
    | un => exact h3
    | sh => exact (h3.perm List.perm_middle).toUn.perm List.perm_middle.symm
    | ow j => exact h3
/-- operations whose answer is no object -/
theorem prim_leaf {G r ks} {g : List D → Option D} (hk : ks.all (· != Kd.un) = true) (h : ∀ S H ds vs d (Q : VK), g ds = some d → DenL G S H ds vs → ∃ w, vOf d = some w ∧ (Q w H → r vs H Q)) : Prim G r ks .sh (ro g) := by
  intro S H ds vs d os xs Q hg l1 l2 hr hq
  unfold ro at hg
  cases eg : g ds with
  | none => rw [eg] at hg; cases hg
  | some d' =>
    rw [eg] at hg
    have e1 : d' = d ∧ ds = os := by cases hg; exact ⟨rfl, rfl⟩
    obtain ⟨rfl, rfl⟩ := e1
    obtain ⟨S2, i2, hd⟩ := hr.view hk l1 l2
    obtain ⟨w, ew, hw⟩ := h S2 H ds vs d' Q eg hd
    refine hw (hq S H w .refl l1 ?_)
    exact (Rel.outK (T := []) hr).push ((den_leaf ew).mpr rfl)
theorem denL1 {G S H d vs} (h : DenL G S H [d] vs) : ∃ v, vs = [v] ∧ Den G S H d v := by
  simp only [DenL] at h
  obtain ⟨v, r, rfl, p, rfl⟩ := h
  exact ⟨v, rfl, p⟩
theorem denL2 {G S H d e vs} (h : DenL G S H [d, e] vs) : ∃ v u, vs = [v, u] ∧ Den G S H d v ∧ Den G S H e u := by
  simp only [DenL] at h
  obtain ⟨v, r, rfl, p, u, r', rfl, q, rfl⟩ := h
  exact ⟨v, u, rfl, p, q⟩

def gAdd : List D → Option D
  | [.int a, .int b] => some (.int (a + b))
  | [.str x, .str y] => if x.length + y.length ≤ lim then some (.str (x ++ y)) else none
  | _ => none
def gI (C : Int → Int → Prop) [DecidableRel C] (f : Int → Int → Int) : List D → Option D
  | [.int a, .int b] => if C a b then some (.int (f a b)) else none
  | _ => none
def cMul (i j : Int) : Prop := (-18446744073709551616 < i ∧ i < 18446744073709551616) ∨ (-18446744073709551616 < j ∧ j < 18446744073709551616)
def cMod (_ j : Int) : Prop := 0 < j
def cDiv (_ j : Int) : Prop := 0 < j ∧ j < 2 ^ 200
def cPow (i j : Int) : Prop := 0 ≤ j ∧ j ≤ 1000 ∧ i.natAbs < 18446744073709551616
def cShr (_ j : Int) : Prop := 0 ≤ j
def cAny (_ _ : Int) : Prop := True
instance : DecidableRel cMul := fun _ _ => inferInstanceAs (Decidable (_ ∨ _))
instance : DecidableRel cMod := fun _ _ => inferInstanceAs (Decidable (_ < _))
instance : DecidableRel cDiv := fun _ _ => inferInstanceAs (Decidable (_ ∧ _))
instance : DecidableRel cPow := fun _ _ => inferInstanceAs (Decidable (_ ∧ _))
instance : DecidableRel cShr := fun _ _ => inferInstanceAs (Decidable (_ ≤ _))
instance : DecidableRel cAny := fun _ _ => inferInstanceAs (Decidable True)
theorem prim_I {G ks} {C C' : Int → Int → Prop} [DecidableRel C] {f : Int → Int → Int} (hk : ks.all (· != Kd.un) = true) (hC : ∀ i j, C i j → C' i j) : Prim G (r2 (rI C' fun i j => .int (f i j))) ks .sh (ro (gI C f)) :=
  prim_leaf hk fun S H ds vs d Q hg hd => by
    unfold gI at hg
    split at hg
    · split at hg
      · rename_i hc
        cases hg
        obtain ⟨v, u, rfl, p, q⟩ := denL2 hd
        simp only [Den] at p q
        exact ⟨_, rfl, fun z => ⟨_, _, p, q, hC _ _ hc, z⟩⟩
      · cases hg
    · cases hg
theorem prim_I0 {G ks} {f : Int → Int → Int} (hk : ks.all (· != Kd.un) = true) : Prim G (r2 (rI0 fun i j => .int (f i j))) ks .sh (ro (gI cAny f)) :=
  prim_leaf hk fun S H ds vs d Q hg hd => by
    unfold gI at hg
    split at hg
    · split at hg
      · rename_i hc
        cases hg
        obtain ⟨v, u, rfl, p, q⟩ := denL2 hd
        simp only [Den] at p q
        exact ⟨_, rfl, fun z => ⟨_, _, p, q, z⟩⟩
      · cases hg
    · cases hg
theorem lg2 {j : Int} (h0 : 0 < j) (h : j < 2 ^ 200) : j.natAbs.log2 < 9000 := by
  have h1 : j.natAbs < 2 ^ 200 := by
    have : (2 : Int) ^ 200 = ((2 ^ 200 : Nat) : Int) := by decide
    rw [this] at h
    omega
  exact Nat.lt_of_lt_of_le (PySem.Flt.log2_lt_of (by decide) h1) (by decide)
abbrev rAddA (X : Cx) : R2 := fun x y H Q => rI0 (fun i j => .int (i + j)) x y H Q ∨ (∃ i j, x = .str i ∧ y = .str j ∧ i.length + j.length ≤ sizeLine ∧ Q (.str (i ++ j)) H)
section
variable {J : Jc} {κ κ1 : List Kd} {a b c e : Expr} {pos : Pos} {fr : M (List D)} {as : List Ak}
theorem ex_add (hev : Ev J κ [a, b] as fr κ1) (hk : (as.map Ak.kd).all (· != Kd.un) = true := by rfl) : Ex J κ (.BinOp a .Add b pos) .sh (primM (ro gAdd) as fr) (backK as κ1) :=
  ex_bin (OpR.or op_add op_add_str) (prim_leaf hk fun S H ds vs d Q hg hd => by
    unfold gAdd at hg
    split at hg
    · cases hg
      obtain ⟨v, u, rfl, p, q⟩ := denL2 hd
      simp only [Den] at p q
      exact ⟨_, rfl, fun z => .inl ⟨_, _, p, q, z⟩⟩
    · split at hg
      · rename_i hl
        cases hg
        obtain ⟨v, u, rfl, p, q⟩ := denL2 hd
        simp only [Den] at p q
        exact ⟨_, rfl, fun z => .inr ⟨_, _, p, q, lim_ok hl, z⟩⟩
      · cases hg
    · cases hg) hev
theorem ex_sub (hev : Ev J κ [a, b] as fr κ1) (hk : (as.map Ak.kd).all (· != Kd.un) = true := by rfl) : Ex J κ (.BinOp a .Sub b pos) .sh (primM (ro (gI cAny fun i j => i - j)) as fr) (backK as κ1) := ex_bin op_sub (prim_I0 hk) hev
theorem ex_mul (hev : Ev J κ [a, b] as fr κ1) (hk : (as.map Ak.kd).all (· != Kd.un) = true := by rfl) : Ex J κ (.BinOp a .Mult b pos) .sh (primM (ro (gI cMul fun i j => i * j)) as fr) (backK as κ1) :=
  ex_bin op_mul (prim_I hk fun i j h => by
    unfold cMul at h
    have e : (2 : Int) ^ 64 = 18446744073709551616 := by decide
    unfold CMul
    rw [e]
    exact h) hev
theorem ex_mod (hev : Ev J κ [a, b] as fr κ1) (hk : (as.map Ak.kd).all (· != Kd.un) = true := by rfl) : Ex J κ (.BinOp a .Mod b pos) .sh (primM (ro (gI cMod fun i j => i % j)) as fr) (backK as κ1) := ex_bin op_mod (prim_I hk fun _ _ h => h) hev
theorem ex_fdiv (hev : Ev J κ [a, b] as fr κ1) (hk : (as.map Ak.kd).all (· != Kd.un) = true := by rfl) : Ex J κ (.BinOp a .FloorDiv b pos) .sh (primM (ro (gI cDiv fun i j => i / j)) as fr) (backK as κ1) := ex_bin op_fdivW (prim_I hk fun _ _ h => ⟨h.1, lg2 h.1 h.2⟩) hev
theorem cPow_ok {i j : Int} (h : cPow i j) : CPow i j := ⟨h.1, Int.le_trans h.2.1 (by decide), Nat.lt_of_lt_of_le h.2.2 (by decide)⟩
theorem ex_pow (hev : Ev J κ [a, b] as fr κ1) (hk : (as.map Ak.kd).all (· != Kd.un) = true := by rfl) : Ex J κ (.BinOp a .Pow b pos) .sh (primM (ro (gI cPow fun i j => i ^ j.toNat)) as fr) (backK as κ1) := ex_bin op_pow (prim_I hk fun _ _ h => cPow_ok h) hev
theorem ex_shl (hev : Ev J κ [a, b] as fr κ1) (hk : (as.map Ak.kd).all (· != Kd.un) = true := by rfl) : Ex J κ (.BinOp a .LShift b pos) .sh (primM (ro (gI cPow fun i j => i * 2 ^ j.toNat)) as fr) (backK as κ1) := ex_bin op_shl (prim_I hk fun _ _ h => cPow_ok h) hev
theorem ex_shr (hev : Ev J κ [a, b] as fr κ1) (hk : (as.map Ak.kd).all (· != Kd.un) = true := by rfl) : Ex J κ (.BinOp a .RShift b pos) .sh (primM (ro (gI cShr fun i j => i / 2 ^ j.toNat)) as fr) (backK as κ1) := ex_bin op_shr (prim_I hk fun _ _ h => h) hev
theorem ex_and (hev : Ev J κ [a, b] as fr κ1) (hk : (as.map Ak.kd).all (· != Kd.un) = true := by rfl) : Ex J κ (.BinOp a .BitAnd b pos) .sh (primM (ro (gI cAny Builtin.bitAnd)) as fr) (backK as κ1) := ex_bin op_and (prim_I0 hk) hev
theorem ex_or (hev : Ev J κ [a, b] as fr κ1) (hk : (as.map Ak.kd).all (· != Kd.un) = true := by rfl) : Ex J κ (.BinOp a .BitOr b pos) .sh (primM (ro (gI cAny Builtin.bitOr)) as fr) (backK as κ1) := ex_bin op_or (prim_I0 hk) hev
def gNeg : List D → Option D
  | [.int a] => some (.int (-a))
  | _ => none
theorem ex_neg (hev : Ev J κ [a] as fr κ1) (hk : (as.map Ak.kd).all (· != Kd.un) = true := by rfl) : Ex J κ (.UnaryOp .USub a pos) .sh (primM (ro gNeg) as fr) (backK as κ1) :=
  ex_un1 un_neg (prim_leaf hk fun S H ds vs d Q hg hd => by
    unfold gNeg at hg
    split at hg
    · cases hg
      obtain ⟨v, rfl, p⟩ := denL1 hd
      simp only [Den] at p
      exact ⟨_, rfl, fun z => ⟨_, p, z⟩⟩
    · cases hg) hev

def gCmp (f : Int → Int → Bool) (h : List Nat → List Nat → Bool) : List D → Option D
  | [.int a, .int b] => some (.bl (f a b))
  | [.str a, .str b] => some (.bl (h a.cps.toList b.cps.toList))
  | _ => none
theorem prim_cmp {G ks} {f : Int → Int → Bool} {h : List Nat → List Nat → Bool} (hk : ks.all (· != Kd.un) = true) :
    Prim G (r2 fun x y H Q => rI0 (fun i j => .bl (f i j)) x y H Q ∨ (∃ i j, x = .str i ∧ y = .str j ∧ Q (.bl (h i.cps.toList j.cps.toList)) H)) ks .sh (ro (gCmp f h)) :=
  prim_leaf hk fun S H ds vs d Q hg hd => by
    unfold gCmp at hg
    split at hg
    · cases hg
      obtain ⟨v, u, rfl, p, q⟩ := denL2 hd
      simp only [Den] at p q
      exact ⟨_, rfl, fun z => .inl ⟨_, _, p, q, z⟩⟩
    · cases hg
      obtain ⟨v, u, rfl, p, q⟩ := denL2 hd
      simp only [Den] at p q
      exact ⟨_, rfl, fun z => .inr ⟨_, _, p, q, z⟩⟩
    · cases hg
abbrev gLt := gCmp (fun i j => decide (i < j)) fun a b => decide (a < b)
abbrev gLe := gCmp (fun i j => decide (i ≤ j)) fun a b => !decide (b < a)
abbrev gGt := gCmp (fun i j => decide (j < i)) fun a b => decide (b < a)
abbrev gGe := gCmp (fun i j => decide (j ≤ i)) fun a b => !decide (a < b)
theorem ex_lt (hev : Ev J κ [a, b] as fr κ1) (hk : (as.map Ak.kd).all (· != Kd.un) = true := by rfl) : Ex J κ (.Compare a [.Lt] [b] pos) .sh (primM (ro gLt) as fr) (backK as κ1) := ex_cmp1 (OpR.or op_lt op_lt_str) (prim_cmp hk) hev (nomark _)
theorem ex_le (hev : Ev J κ [a, b] as fr κ1) (hk : (as.map Ak.kd).all (· != Kd.un) = true := by rfl) : Ex J κ (.Compare a [.LtE] [b] pos) .sh (primM (ro gLe) as fr) (backK as κ1) := ex_cmp1 (OpR.or op_le op_le_str) (prim_cmp hk) hev (nomark _)
theorem ex_gt (hev : Ev J κ [a, b] as fr κ1) (hk : (as.map Ak.kd).all (· != Kd.un) = true := by rfl) : Ex J κ (.Compare a [.Gt] [b] pos) .sh (primM (ro gGt) as fr) (backK as κ1) := ex_cmp1 (OpR.or op_gt op_gt_str) (prim_cmp hk) hev (nomark _)
theorem ex_ge (hev : Ev J κ [a, b] as fr κ1) (hk : (as.map Ak.kd).all (· != Kd.un) = true := by rfl) : Ex J κ (.Compare a [.GtE] [b] pos) .sh (primM (ro gGe) as fr) (backK as κ1) := ex_cmp1 (OpR.or op_ge op_ge_str) (prim_cmp hk) hev (nomark _)
end

mutual
def toP : D → Option PyData
  | .non => some .none
  | .bl b => some (.bool b)
  | .int i => some (.int i)
  | .str x => some (.str x)
  | .lst xs => (toPs xs).map .list
  | .tup xs => (toPs xs).map .tuple
  | _ => none
def toPs : List D → Option (List PyData)
  | [] => some []
  | x :: xs => match toP x, toPs xs with
    | some y, some ys => some (y :: ys)
    | _, _ => none
end
mutual
theorem dp_of {G S H} : ∀ {d : D} {v : V} {p : PyData}, toP d = some p → Den G S H d v → Dp G.K H v p
  | .non, v, p, e, h => by simp only [toP] at e; cases e; simp only [Den] at h; subst h; exact .non
  | .bl b, v, p, e, h => by simp only [toP] at e; cases e; simp only [Den] at h; subst h; exact .bl b
  | .int b, v, p, e, h => by simp only [toP] at e; cases e; simp only [Den] at h; subst h; exact .int b
  | .str b, v, p, e, h => by simp only [toP] at e; cases e; simp only [Den] at h; subst h; exact .str b
  | .lst xs, v, p, e, h => by
    simp only [toP] at e
    cases ep : toPs xs with
    | none => rw [ep] at e; cases e
    | some ps =>
      rw [ep] at e
      cases e
      obtain ⟨a, vs, rfl, q, l⟩ := den_lst h
      exact .lst q (dpAll_of ep l)
  | .tup xs, v, p, e, h => by
    simp only [toP] at e
    cases ep : toPs xs with
    | none => rw [ep] at e; cases e
    | some ps =>
      rw [ep] at e
      cases e
      obtain ⟨a, vs, rfl, q, l⟩ := den_tup h
      exact .tup q (dpAll_of ep l)
  | .dK _, _, _, e, _ | .dT _, _, _, e, _ | .ins _ _, _, _, e, _ | .fn _, _, _, e, _ | .rol _, _, _, e, _ | .ty _, _, _, e, _ | .cls _, _, _, e, _ => by simp only [toP] at e; cases e
theorem dpAll_of {G S H} : ∀ {ds : List D} {vs : List V} {ps : List PyData}, toPs ds = some ps → DenL G S H ds vs → DpAll G.K H vs ps
  | [], vs, ps, e, h => by simp only [toPs] at e; cases e; simp only [DenL] at h; subst h; exact .nil
  | d :: ds, vs, ps, e, h => by
    simp only [toPs] at e
    simp only [DenL] at h
    obtain ⟨v, r, rfl, h1, h2⟩ := h
    split at e
    · rename_i y ys e1 e2
      cases e
      exact .cons (dp_of e1 h1) (dpAll_of e2 h2)
    · cases e
end
def eqD (x y : D) : Option Bool := match toP x, toP y with
  | some a, some b => if SeqAt.shaped a = true ∧ SeqAt.shaped b = true then some (PyData.eqv a b) else none
  | _, _ => none
def gEq : List D → Option D
  | [x, y] => (eqD x y).map .bl
  | _ => none
def gNe : List D → Option D
  | [x, y] => (eqD x y).map fun b => .bl (!b)
  | _ => none
theorem eqD_some {x y : D} {b} (h : eqD x y = some b) : ∃ p q, toP x = some p ∧ toP y = some q ∧ SeqAt.shaped p = true ∧ SeqAt.shaped q = true ∧ b = PyData.eqv p q := by
  unfold eqD at h
  split at h
  · rename_i p q e1 e2
    split at h
    · rename_i hs
      cases h
      exact ⟨p, q, e1, e2, hs.1, hs.2, rfl⟩
    · cases h
  · cases h
theorem prim_eq {G ks} (hk : ks.all (· != Kd.un) = true) : Prim G (r2 (rEqD G.K)) ks .sh (ro gEq) := prim_leaf hk fun S H ds vs d Q hg hd => by
  unfold gEq at hg
  split at hg
  · rename_i x y
    cases eb : eqD x y with
    | none => rw [eb] at hg; cases hg
    | some b =>
      rw [eb] at hg
      cases hg
      obtain ⟨p, q, e1, e2, s1, s2, rfl⟩ := eqD_some eb
      obtain ⟨v, u, rfl, h1, h2⟩ := denL2 hd
      exact ⟨_, rfl, fun z => ⟨p, q, dp_of e1 h1, dp_of e2 h2, s1, s2, z⟩⟩
  · cases hg
theorem prim_ne {G ks} (hk : ks.all (· != Kd.un) = true) : Prim G (r2 (rNeD G.K)) ks .sh (ro gNe) := prim_leaf hk fun S H ds vs d Q hg hd => by
  unfold gNe at hg
  split at hg
  · rename_i x y
    cases eb : eqD x y with
    | none => rw [eb] at hg; cases hg
    | some b =>
      rw [eb] at hg
      cases hg
      obtain ⟨p, q, e1, e2, s1, s2, rfl⟩ := eqD_some eb
      obtain ⟨v, u, rfl, h1, h2⟩ := denL2 hd
      exact ⟨_, rfl, fun z => ⟨p, q, dp_of e1 h1, dp_of e2 h2, s1, s2, z⟩⟩
  · cases hg
section
variable {J : Jc} {κ κ1 : List Kd} {a b c e : Expr} {pos : Pos} {fr : M (List D)} {as : List Ak} {n : Nat}
theorem ex_eq (hr : Room n J.X.A) (hev : Ev J κ [a, b] as fr κ1) (hk : (as.map Ak.kd).all (· != Kd.un) = true := by rfl) : Ex J κ (.Compare a [.Eq] [b] pos) .sh (primM (ro gEq) as fr) (backK as κ1) := ex_cmp1 (op_eqD hr.units) (prim_eq hk) hev (nomark _)
theorem ex_ne (hr : Room n J.X.A) (hev : Ev J κ [a, b] as fr κ1) (hk : (as.map Ak.kd).all (· != Kd.un) = true := by rfl) : Ex J κ (.Compare a [.NotEq] [b] pos) .sh (primM (ro gNe) as fr) (backK as κ1) := ex_cmp1 (op_neD hr.units) (prim_ne hk) hev (nomark _)
end
end Rm
namespace Rm
open PySem PySem.Spec L2

theorem Rel.wrL {G S H xs ds v} (h : Rel G S H (⟨.ow 0, .lst ds, some v⟩ :: xs)) : ∃ a vs, v = .ref a ∧ H a = some (.lst vs) ∧ DenL G S H ds vs ∧
    ∀ ds' vs', DenL G S H ds' vs' → Grow S H S (upd H a (.lst vs')) ∧ Rel G S (upd H a (.lst vs')) (⟨.ow 0, .lst ds', some v⟩ :: xs) := by
  obtain ⟨al, L, q⟩ := id h
  cases q with
  | @cons _ _ L0 M he nd f hr =>
    obtain ⟨w, e, a, vs, M0, e1, ha, e2, hA⟩ := he
    cases e
    cases e1
    obtain ⟨hl, rfl⟩ := All3_zero.mp hA
    refine ⟨a, vs, rfl, ha, hl, fun ds' vs' hd => ?_⟩
    have ns : ¬ S a := (f a (by rw [e2]; simp)).1
    have g : Grow S H S (upd H a (.lst vs')) := Grow.of fun b s => ⟨s, upd_ne fun e => ns (e ▸ s)⟩
    refine Rel.step h (ys := [⟨.ow 0, .lst ds', some (.ref a)⟩]) fun L' he' nd' f' => ?_
    obtain ⟨w, e, a', vs2, M1, e1, ha', e2', hA'⟩ := he'
    cases e
    cases e1
    obtain ⟨hl', rfl⟩ := All3_zero.mp hA'
    subst e2'
    refine ⟨g, fun b n nb => .inr (upd_ne fun e => nb (by rw [e]; simp)), fun b s => .inl s, fun b s => ?_, [a] ++ [], fun b m => ?_, .cons ⟨_, rfl, a, vs', [], rfl, upd_same, rfl, All3_zero.mpr ⟨hd.grow g, rfl⟩⟩ (by simp) (fun b m => ?_) .nil⟩
    · have e : upd H a (.lst vs') b = H b := upd_ne (fun e => ns (e ▸ s))
      rw [e]; exact al b s
    · simp at m; subst m; exact .inl (by simp)
    · simp at m; subst m
      exact ⟨ns, by rw [upd_same]; simp, by simp⟩
theorem denL_append {G S H} : ∀ {ds es : List D} {vs us : List V}, DenL G S H ds vs → DenL G S H es us → DenL G S H (ds ++ es) (vs ++ us)
  | [], es, vs, us, h, k => by simp only [DenL] at h; subst h; exact k
  | d :: ds, es, vs, us, h, k => by
    simp only [DenL] at h
    obtain ⟨v, r, rfl, p, q⟩ := h
    simp only [List.cons_append, DenL]
    exact ⟨v, r ++ us, rfl, p, denL_append q k⟩
theorem denL_one {G S H d v} (h : Den G S H d v) : DenL G S H [d] [v] := by
  simp only [DenL]
  exact ⟨v, [], rfl, h, rfl⟩
theorem denL_rev {G S H} : ∀ {ds : List D} {vs : List V}, DenL G S H ds vs → DenL G S H ds.reverse vs.reverse
  | [], vs, h => by simp only [DenL] at h; subst h; simp only [List.reverse_nil, DenL]
  | d :: ds, vs, h => by
    simp only [DenL] at h
    obtain ⟨v, r, rfl, p, q⟩ := h
    rw [List.reverse_cons, List.reverse_cons]
    exact denL_append (denL_rev q) (denL_one p)
theorem denL_set {G S H} : ∀ {ds : List D} {vs : List V} {d v} (i : Nat), DenL G S H ds vs → Den G S H d v → DenL G S H (ds.set i d) (vs.set i v)
  | [], vs, _, _, i, h, _ => by simp only [DenL] at h; subst h; simp only [List.set_nil, DenL]
  | d0 :: ds, vs, d, v, 0, h, k => by
    simp only [DenL] at h
    obtain ⟨v0, r, rfl, p, q⟩ := h
    simp only [List.set_cons_zero, DenL]
    exact ⟨v, r, rfl, k, q⟩
  | d0 :: ds, vs, d, v, i + 1, h, k => by
    simp only [DenL] at h
    obtain ⟨v0, r, rfl, p, q⟩ := h
    simp only [List.set_cons_succ, DenL]
    exact ⟨v0, r.set i v, rfl, p, denL_set i q k⟩
theorem denL_take {G S H} : ∀ {ds : List D} {vs : List V} (n : Nat), DenL G S H ds vs → DenL G S H (ds.take n) (vs.take n)
  | _, _, 0, _ => by simp only [List.take_zero, DenL]
  | [], vs, n + 1, h => by simp only [DenL] at h; subst h; simp only [List.take_nil, DenL]
  | d :: ds, vs, n + 1, h => by
    simp only [DenL] at h
    obtain ⟨v, r, rfl, p, q⟩ := h
    simp only [List.take_succ_cons, DenL]
    exact ⟨v, r.take n, rfl, p, denL_take n q⟩
theorem denL_drop {G S H} : ∀ {ds : List D} {vs : List V} (n : Nat), DenL G S H ds vs → DenL G S H (ds.drop n) (vs.drop n)
  | _, _, 0, h => h
  | [], vs, n + 1, h => by simp only [DenL] at h; subst h; simp only [List.drop_nil, DenL]
  | d :: ds, vs, n + 1, h => by
    simp only [DenL] at h
    obtain ⟨v, r, rfl, p, q⟩ := h
    simp only [List.drop_succ_cons]
    exact denL_drop n q

def gApp : List D → Option (D × List D)
  | [.lst ds, d] => if ds.length < lim then some (.non, [.lst (ds ++ [d]), d]) else none
  | _ => none
theorem prim_app {G} : Prim G (rM rAppend) [.ow 0, .sh] .sh gApp := by
  intro S H ds vs d os xs Q hg l1 l2 hr hq
  unfold gApp at hg
  split at hg
  · rename_i ds0 d0
    split at hg
    · rename_i hl
      cases hg
      match vs, l2 with
      | [v0, v1], _ =>
        have h1 : Rel G S H (⟨.sh, d0, some v1⟩ :: ⟨.ow 0, .lst ds0, some v0⟩ :: xs) := hr.perm (List.Perm.swap _ _ _)
        have hd := h1.shared
        obtain ⟨a, us, rfl, ha, hA, wr⟩ := h1.drop.wrL
        obtain ⟨g, r⟩ := wr (ds0 ++ [d0]) (us ++ [v1]) (denL_append hA (denL_one hd))
        refine ⟨a, us, v1, rfl, rfl, ha, by rw [hA.length]; exact lim_lt (Nat.le_of_lt hl), hq S _ .non g rfl ?_⟩
        refine Rel.push ?_ (by simp only [Den])
        show Rel G S _ (⟨.ow 0, .lst (ds0 ++ [d0]), some (.ref a)⟩ :: ⟨.un, d0, some v1⟩ :: xs)
        exact (r.un (d := d0) (v := some v1)).perm (List.Perm.swap _ _ _)
    · cases hg
  · cases hg
def gSetI : List D → Option (D × List D)
  | [.lst ds, .int i, d] => match ixN ds.length i with
    | some j => some (.non, [.lst (ds.set j d), .int i, d])
    | none => none
  | _ => none

section
variable {J : Jc} {κ κ1 κ2 : List Kd} {a b c e : Expr} {pos p apos cpos : Pos} {fr : M (List D)} {fa fb fi : M D} {as : List Ak} {n : Nat} {xn : Str} {np : Pos}
theorem ex_append (i : Nat) (hN : J.X.N[i]? = some xn) (hvi : Vis J.X.env.scope xn) (hk : κ[i]? = some (.ow 0)) (hev : Ev J (κ.set i .un) [e] [.sh] fr κ2)
    (hst : noStar [e] = true := by rfl) (hbase : attributeBase (.Name xn np) "append" J.X.env (eval (.Name xn np) J.X.env) = eval (.Name xn np) J.X.env := by rfl)
    (hfew : ((backTo cpos (starEach [e] J.X.env)).all (fun x => !x.1) && (backToKw cpos (keywordEach [] J.X.env)).all (fun x => x.1.isSome)
      && decide ([e].length + ([] : List Keyword).length + (if ([] : List Keyword).isEmpty then 0 else 1) < 30)) = true := by rfl)
    (hline : (apos.endLine == cpos.line) = true := by rfl) (hplain : (backTo cpos (starEach [] J.X.env)).any (·.1) = false := by rfl)
    (hdb : (xn == ("__debug__" : Str)) = false := by decide) (hcd : (xn == ("__classdict__" : Str)) = false := by decide) :
    Ex J κ (.Call (.Attribute (.Name xn np) "append" apos) [e] [] cpos) .sh (methM "list" gApp (.io i 0) [.sh] (vr i) fr) (backK [.io i 0, .sh] κ2) :=
  ex_bmI i 0 hN hvi hk PySem.F.plainAttrs_list PySem.F.slot_list_append PySem.F.type_list_append mt_append (by decide) prim_app hev hst hbase hfew hline hplain hdb hcd

def setIM (i : Nat) (fe fi : M D) : M Fl := fun e => (fe e).bind fun d e => match e[i]? with
  | some l => (fi (e.set i .non)).bind fun k e => match gSetI [l, k, d] with
    | some (_, l' :: _) => .ok .nx (e.set i l')
    | _ => .stuck
  | none => .stuck
theorem sx_setI (i : Nat) {ix : Expr} {tpos : Pos} (hN : J.X.N[i]? = some xn) (hvi : Vis J.X.env.scope xn) (he : Ex J κ e .sh fa κ1) (hk : κ1[i]? = some (.ow 0)) (hi : Ex J (κ1.set i .un) ix .sh fi κ2)
    (hs : swapsWithSole [.Subscript (.Name xn np) ix tpos] e pos.line J.X.env = pure false := by rfl) (hw : swappedStores [.Subscript (.Name xn np) ix tpos] e J.X.env = pure none := by rfl)
    (h1 : (assignEach [.Subscript (.Name xn np) ix tpos] J.X.env).map (·.2) = [assign (.Subscript (.Name xn np) ix tpos) J.X.env] := by rfl)
    (hpg : ∀ to ti t, PE J.X (.Name xn np) to → PE J.X ix ti → PSet J.X t → PG J.X (.Subscript (.Name xn np) ix tpos) (gSub to ti t) := by intro to ti t h1 h2 h3; exact pg_sub h1 h2 h3)
    (hdb : (xn == ("__debug__" : Str)) = false := by decide) (hcd : (xn == ("__classdict__" : Str)) = false := by decide) :
    Sx J κ (.Assign [.Subscript (.Name xn np) ix tpos] e pos) (setIM i fa fi) (κ2.set i (.ow 0)) := by
  obtain ⟨t, p, q⟩ := he.ex
  obtain ⟨t2, p2, q2⟩ := hi.ex
  refine ⟨_, ps_asg p (hpg _ _ _ (pe_var hN hvi hdb hcd) p2 set_list) hs hw h1, fun R S H σ env D h hq => q _ _ _ _ _ _ h (SReq.bind hq |>.mono fun d e1 _ z S1 H1 v g1 r1 => ?_)⟩
  cases el : e1[i]? with
  | none => rw [el] at z; exact z.elim
  | some l =>
    rw [el] at z
    obtain ⟨v0, hv, h'⟩ := r1.take hk el
    refine ⟨v0, hv, q2 _ _ _ _ _ _ (h' .non) ((((SReq.bind (show SReq J _ R S H σ ((fi (e1.set i .non)).bind _) D from z)).later g1).tmp _).tmp _ |>.mono fun k e2 _ z2 S2 H2 u g2 r2 => ?_)⟩
    cases eg : gSetI [l, k, d] with
    | none => rw [eg] at z2; exact z2.elim
    | some pr =>
      rw [eg] at z2
      unfold gSetI at eg
      split at eg
      · rename_i ds k' d'' heq
        cases heq
        split at eg
        · rename_i j hj
          cases eg
          have hu := r2.rel.shared
          simp only [Den] at hu
          subst hu
          have r3 : Rel J.G S2 H2 (⟨.sh, d, some v⟩ :: ⟨.ow 0, .lst ds, some v0⟩ :: (R ++ ents κ2 e2 σ)) := r2.rel.drop.perm (List.Perm.swap _ _ _)
          have hd := r3.shared
          obtain ⟨a, us, rfl, ha, hA, wr⟩ := r3.drop.wrL
          obtain ⟨g3, r4⟩ := wr (ds.set j d) (us.set j v) (denL_set j hA hd)
          refine ⟨a, us, k', j, rfl, rfl, ha, by rw [hA.length]; exact hj, ?_⟩
          have hi' : i < σ.length := (List.getElem?_eq_some_iff.mp hv).1
          have e3 : κ2[i]? = some (κ2[i]'(by rw [r2.l1]; exact hi')) := List.getElem?_eq_getElem _
          have e4 : e2[i]? = some (e2[i]'(by rw [r2.l2]; exact hi')) := List.getElem?_eq_getElem _
          have z2 : ∀ S' H' σ', Grow S H S' H' → Fix J.kx σ σ' → Rl J.G S' H' (κ2.set i (.ow 0)) (e2.set i (.lst (ds.set j d))) σ' R → D.nx σ' H' := z2
          exact z2 S2 _ σ ((g1.trans g2).trans g3) .refl (Rl.put ⟨r2.l1, r2.l2, r4⟩ e3 e4 hv)
        · cases eg
      · cases eg

/-- operations that hand on a part of what is shared -/
theorem prim_part {G r} {g : List D → Option D} {n : Nat} (h : ∀ S H ds vs d (Q : VK), g ds = some d → DenL G S H ds vs → ∃ w, Den G S H d w ∧ (Q w H → r vs H Q)) : Prim G r (List.replicate n .sh) .sh (ro g) := by
  intro S H ds vs d os xs Q hg l1 l2 hr hq
  unfold ro at hg
  cases eg : g ds with
  | none => rw [eg] at hg; cases hg
  | some d' =>
    rw [eg] at hg
    have e1 : d' = d ∧ ds = os := by cases hg; exact ⟨rfl, rfl⟩
    obtain ⟨rfl, rfl⟩ := e1
    have hd := rel_sh hr (by simpa using l1) (by simpa using l2)
    obtain ⟨w, ew, hw⟩ := h S H ds vs d' Q eg hd
    exact hw (hq S H w .refl l1 ((Rel.outK (T := []) hr).push ew))
def gIx : List D → Option D
  | [.lst xs, .int i] => atI xs i
  | [.rol xs, .int i] => atI xs i
  | [.tup xs, .int i] => atI xs i
  | [.str z, .int i] => if z.length ≤ lim then (atI z.cps.toList i).map chD else none
  | _ => none
theorem atI_den {G S H ds vs} {i : Int} {d} (h : DenL G S H ds vs) (e : atI ds i = some d) : ∃ w, atI vs i = some w ∧ Den G S H d w := by
  unfold atI at e ⊢
  rw [h.length]
  cases ei : ixN ds.length i with
  | none => rw [ei] at e; cases e
  | some j =>
    rw [ei] at e
    exact denL_get h e
theorem prim_ix {G} : Prim G (r2 (rIx G.K)) (List.replicate 2 .sh) .sh (ro gIx) := prim_part fun S H ds vs d Q hg hd => by
  unfold gIx at hg
  split at hg
  · obtain ⟨v, u, rfl, p, q⟩ := denL2 hd
    obtain ⟨a, us, rfl, s, l⟩ := den_lst p
    simp only [Den] at q
    obtain ⟨w, e1, e2⟩ := atI_den l hg
    exact ⟨w, e2, fun z => .inl ⟨a, us, _, w, rfl, q, s, e1, z⟩⟩
  · obtain ⟨v, u, rfl, p, q⟩ := denL2 hd
    obtain ⟨a, us, rfl, s, l⟩ := den_rol p
    simp only [Den] at q
    obtain ⟨w, e1, e2⟩ := atI_den l hg
    exact ⟨w, e2, fun z => .inl ⟨a, us, _, w, rfl, q, s, e1, z⟩⟩
  · obtain ⟨v, u, rfl, p, q⟩ := denL2 hd
    obtain ⟨a, us, rfl, s, l⟩ := den_tup p
    simp only [Den] at q
    obtain ⟨w, e1, e2⟩ := atI_den l hg
    exact ⟨w, e2, fun z => .inr (.inl ⟨a, us, _, w, rfl, q, s, e1, z⟩)⟩
  · rename_i z i
    split at hg
    · rename_i hl
      obtain ⟨v, u, rfl, p, q⟩ := denL2 hd
      simp only [Den] at p q
      cases ec : atI z.cps.toList i with
      | none => rw [ec] at hg; cases hg
      | some c =>
        rw [ec] at hg
        cases hg
        exact ⟨.str ⟨#[c]⟩, by simp only [chD, Den], fun zq => .inr (.inr ⟨z, i, c, p, q, lim_ok hl, ec, zq⟩)⟩
    · cases hg
  · cases hg
theorem ex_index (hev : Ev J κ [a, b] [.sh, .sh] fr κ1) (hs : PlainIx b := by exact fun _ _ => rfl) : Ex J κ (.Subscript a b pos) .sh (primM (ro gIx) [.sh, .sh] fr) κ1 := ex_ix L2.ix_seq prim_ix hev hs
/-- an item of an owned list of what is shared -/
def gIxO : List D → Option D
  | [.lst xs, .int i] => atI xs i
  | _ => none
theorem prim_ixO {G} : Prim G (r2 (rIx G.K)) [.ow 0, .sh] .sh (ro gIxO) := by
  intro S H ds vs d os xs Q hg l1 l2 hr hq
  unfold ro at hg
  cases eg : gIxO ds with
  | none => rw [eg] at hg; cases hg
  | some d' =>
    rw [eg] at hg
    have e1 : d' = d ∧ ds = os := by cases hg; exact ⟨rfl, rfl⟩
    obtain ⟨rfl, rfl⟩ := e1
    unfold gIxO at eg
    split at eg
    · rename_i ds0 i
      match vs, l2 with
      | [v0, v1], _ =>
        have h1 : Rel G S H (⟨.sh, .int i, some v1⟩ :: ⟨.ow 0, .lst ds0, some v0⟩ :: xs) := hr.perm (List.Perm.swap _ _ _)
        have hi := h1.shared
        simp only [Den] at hi
        obtain ⟨a, us, rfl, ha, hA, _⟩ := h1.drop.wrL
        obtain ⟨w, e1, e2⟩ := atI_den hA eg
        refine .inl ⟨a, us, i, w, rfl, hi, SqL.of ha, e1, hq S H w .refl rfl ?_⟩
        exact (Rel.outK (ks := [.ow 0, .sh]) (ds := [.lst ds0, .int i]) (vs := [.ref a, v1]) (T := []) hr).push e2
    · cases eg
theorem ex_indexO (hev : Ev J κ [a, b] [.io n 0, .sh] fr κ1) (hs : PlainIx b := by exact fun _ _ => rfl) : Ex J κ (.Subscript a b pos) .sh (primM (ro gIxO) [.io n 0, .sh] fr) (backK [.io n 0, .sh] κ1) := ex_ix L2.ix_seq prim_ixO hev hs

def isNon : D → Bool
  | .non => true
  | _ => false
def gIsN : List D → Option D
  | [x, .non] => some (.bl (isNon x))
  | _ => none
def gNotN : List D → Option D
  | [x, .non] => some (.bl (!isNon x))
  | _ => none
theorem den_isNon {G S H d v} (h : Den G S H d v) : decide (v = .non) = isNon d := by
  cases d with
  | non => simp only [Den] at h; subst h; rfl
  | bl b => simp only [Den] at h; subst h; rfl
  | int b => simp only [Den] at h; subst h; rfl
  | str b => simp only [Den] at h; subst h; rfl
  | fn b => simp only [Den] at h; subst h; rfl
  | ty b => simp only [Den] at h; subst h; rfl
  | cls b => simp only [Den] at h; subst h; rfl
  | lst b => simp only [Den] at h; obtain ⟨a, _, rfl, _⟩ := h; rfl
  | rol b => simp only [Den] at h; obtain ⟨a, _, rfl, _⟩ := h; rfl
  | tup b => simp only [Den] at h; obtain ⟨a, _, rfl, _⟩ := h; rfl
  | dK b => simp only [Den] at h; obtain ⟨a, _, rfl, _⟩ := h; rfl
  | dT b => simp only [Den] at h; obtain ⟨a, _, rfl, _⟩ := h; rfl
  | ins c b => simp only [Den] at h; obtain ⟨a, _, _, rfl, _⟩ := h; rfl
theorem ex_isN (hev : Ev J κ [a, b] as fr κ1) (hk : (as.map Ak.kd).all (· != Kd.un) = true := by rfl) : Ex J κ (.Compare a [.Is] [b] pos) .sh (primM (ro gIsN) as fr) (backK as κ1) :=
  ex_cmp1 op_isN (prim_leaf hk fun S H ds vs d Q hg hd => by
    unfold gIsN at hg
    split at hg
    · cases hg
      obtain ⟨v, u, rfl, p, q⟩ := denL2 hd
      simp only [Den] at q
      exact ⟨_, rfl, fun z => ⟨q, by rw [den_isNon p]; exact z⟩⟩
    · cases hg) hev (nomark _)
theorem ex_notN (hev : Ev J κ [a, b] as fr κ1) (hk : (as.map Ak.kd).all (· != Kd.un) = true := by rfl) : Ex J κ (.Compare a [.IsNot] [b] pos) .sh (primM (ro gNotN) as fr) (backK as κ1) :=
  ex_cmp1 op_notN (prim_leaf hk fun S H ds vs d Q hg hd => by
    unfold gNotN at hg
    split at hg
    · cases hg
      obtain ⟨v, u, rfl, p, q⟩ := denL2 hd
      simp only [Den] at q
      exact ⟨_, rfl, fun z => ⟨q, by rw [den_isNon p]; exact z⟩⟩
    · cases hg) hev (nomark _)

def strIn (i j : Str) : Bool := !(Builtin.Str.occurrences j i 0 j.length 1).isEmpty
/-- x in a text, a list of data, a tuple of flat things -/
def flatD : D → Bool
  | .non => true | .bl _ => true | .int _ => true | .str _ => true
  | _ => false
def inD (x y : D) : Option Bool := match y with
  | .str z => match x with
    | .str s => some (strIn s z)
    | _ => none
  | .lst ys => match toP x, toPs ys with
    | some p, some ps => if SeqAt.shaped p = true ∧ SeqAt.shaped (.list ps) = true then some (ps.any fun z => PyData.eqv z p) else none
    | _, _ => none
  | .tup ys => if flatD x = true ∧ ys.all flatD = true then match toP x, toPs ys with
      | some p, some ps => some (ps.any fun z => PyData.eqv z p)
      | _, _ => none
    else none
  | _ => none
def gIn : List D → Option D
  | [x, y] => (inD x y).map .bl
  | _ => none
def gNotIn : List D → Option D
  | [x, y] => (inD x y).map fun b => .bl (!b)
  | _ => none
theorem flat_v {G S H d v} (h : flatD d = true) (q : Den G S H d v) : flatV v = true ∧ vOf d = some v := by
  cases d <;> first | (cases h; done) | (simp only [Den] at q; subst q; exact ⟨rfl, rfl⟩)
theorem flat_vs {G S H} : ∀ {ds vs}, ds.all flatD = true → DenL G S H ds vs → vs.all flatV = true ∧ ds.map vOf = vs.map some
  | [], vs, _, h => by simp only [DenL] at h; subst h; exact ⟨rfl, rfl⟩
  | d :: ds, vs, hf, h => by
    simp only [List.all_cons, Bool.and_eq_true] at hf
    simp only [DenL] at h
    obtain ⟨v, r, rfl, p, q⟩ := h
    have h1 := flat_v hf.1 p
    have h2 := flat_vs hf.2 q
    simp [h1.1, h1.2, h2.1, h2.2]
theorem eqv_flat {x y : D} {v u : V} {p q : PyData} (hx : vOf x = some v) (hy : vOf y = some u) (ex : toP x = some p) (ey : toP y = some q) : PyData.eqv q p = eqV u v := by
  cases x <;> simp only [vOf, reduceCtorEq, Option.some.injEq] at hx <;> subst hx <;> simp only [toP, Option.some.injEq] at ex <;> subst ex <;>
  cases y <;> simp only [vOf, reduceCtorEq, Option.some.injEq] at hy <;> subst hy <;> simp only [toP, Option.some.injEq] at ey <;> subst ey <;> simp only [PyData.eqv, eqV]
theorem inV_flat {x : D} {v : V} {p : PyData} (hx : vOf x = some v) (ex : toP x = some p) : ∀ {ds : List D} {vs : List V} {ps : List PyData}, ds.map vOf = vs.map some → toPs ds = some ps → (ps.any fun z => PyData.eqv z p) = inV v vs
  | [], vs, ps, e1, e2 => by
    simp only [toPs, Option.some.injEq] at e2
    subst e2
    cases vs with
    | nil => rfl
    | cons _ _ => simp at e1
  | d :: ds, vs, ps, e1, e2 => by
    cases vs with
    | nil => simp at e1
    | cons u us =>
      simp only [List.map_cons, List.cons.injEq] at e1
      simp only [toPs] at e2
      split at e2
      · rename_i y ys h1 h2
        cases e2
        have := inV_flat hx ex e1.2 h2
        unfold inV at this ⊢
        rw [List.any_cons, List.any_cons, this, eqv_flat hx e1.1 ex h1]
      · cases e2
abbrev rInA (K : PySem.W.Frag) (neg : Bool) : R2 := fun x y H Q => (∃ i j, x = .str i ∧ y = .str j ∧ Q (.bl (if neg then !strIn i j else strIn i j)) H) ∨ ((∃ d ds, Dp K H x d ∧ Dp K H y (.list ds) ∧ SeqAt.shaped d = true ∧ SeqAt.shaped (.list ds) = true ∧ Q (.bl (if neg then !(ds.any fun z => PyData.eqv z d) else ds.any fun z => PyData.eqv z d)) H) ∨ rIn K neg x y H Q)
theorem in_val {G S H x y v u b} {Q : VK} (neg : Bool) (e : inD x y = some b) (hx : Den G S H x v) (hy : Den G S H y u) (z : Q (.bl (if neg then !b else b)) H) : rInA G.K neg v u H Q := by
  unfold inD at e
  split at e
  · split at e
    · cases e
      simp only [Den] at hx hy
      exact .inl ⟨_, _, hx, hy, z⟩
    · cases e
  · rename_i ys
    split at e
    · rename_i p ps e1 e2
      split at e
      · rename_i hs
        cases e
        have hp : toP (.lst ys) = some (.list ps) := by simp only [toP]; rw [e2]; rfl
        exact .inr (.inl ⟨p, ps, dp_of e1 hx, dp_of hp hy, hs.1, hs.2, z⟩)
      · cases e
    · cases e
  · rename_i ys
    split at e
    · rename_i hf
      split at e
      · rename_i p ps e1 e2
        cases e
        obtain ⟨a, us, rfl, s, l⟩ := den_tup hy
        have f1 := flat_v hf.1 hx
        have f2 := flat_vs hf.2 l
        refine .inr (.inr ⟨a, us, rfl, .inr s, f1.1, f2.1, ?_⟩)
        rw [← inV_flat f1.2 e1 f2.2 e2]
        exact z
      · cases e
    · cases e
  · cases e
theorem opR_in {X : Cx} {m : Nat} (hr : Room m X.A) : OpR X (compareOp .In) (rInA X.K false) := fun pins s σ H x y v u Q I rx ry h => by
  have hu : X.A.units + 65 < cLine := by have := hr.un; omega
  rcases h with h | h | h
  · exact op_in_str pins s σ H x y v u Q I rx ry h
  · exact op_inD hu pins s σ H x y v u Q I rx ry h
  · exact op_in_seq pins s σ H x y v u Q I rx ry h
theorem opR_notIn {X : Cx} {m : Nat} (hr : Room m X.A) : OpR X (compareOp .NotIn) (rInA X.K true) := fun pins s σ H x y v u Q I rx ry h => by
  have hu : X.A.units + 65 < cLine := by have := hr.un; omega
  rcases h with h | h | h
  · exact op_notin_str pins s σ H x y v u Q I rx ry h
  · exact op_notInD hu pins s σ H x y v u Q I rx ry h
  · exact op_notIn_seq pins s σ H x y v u Q I rx ry h
theorem prim_in {G ks} (hk : ks.all (· != Kd.un) = true) : Prim G (r2 (rInA G.K false)) ks .sh (ro gIn) := prim_leaf hk fun S H ds vs d Q hg hd => by
  unfold gIn at hg
  split at hg
  · rename_i x y
    cases eb : inD x y with
    | none => rw [eb] at hg; cases hg
    | some b =>
      rw [eb] at hg
      cases hg
      obtain ⟨v, u, rfl, p, q⟩ := denL2 hd
      exact ⟨_, rfl, fun z => in_val false eb p q z⟩
  · cases hg
theorem prim_notIn {G ks} (hk : ks.all (· != Kd.un) = true) : Prim G (r2 (rInA G.K true)) ks .sh (ro gNotIn) := prim_leaf hk fun S H ds vs d Q hg hd => by
  unfold gNotIn at hg
  split at hg
  · rename_i x y
    cases eb : inD x y with
    | none => rw [eb] at hg; cases hg
    | some b =>
      rw [eb] at hg
      cases hg
      obtain ⟨v, u, rfl, p, q⟩ := denL2 hd
      exact ⟨_, rfl, fun z => in_val true eb p q z⟩
  · cases hg
theorem ex_in (hr : Room n J.X.A) (hev : Ev J κ [a, b] as fr κ1) (hm : behindInMarks .In b = false := by rfl) (hk : (as.map Ak.kd).all (· != Kd.un) = true := by rfl) : Ex J κ (.Compare a [.In] [b] pos) .sh (primM (ro gIn) as fr) (backK as κ1) := ex_cmp1 (opR_in hr) (prim_in hk) hev hm
theorem ex_notIn (hr : Room n J.X.A) (hev : Ev J κ [a, b] as fr κ1) (hm : behindInMarks .NotIn b = false := by rfl) (hk : (as.map Ak.kd).all (· != Kd.un) = true := by rfl) : Ex J κ (.Compare a [.NotIn] [b] pos) .sh (primM (ro gNotIn) as fr) (backK as κ1) := ex_cmp1 (opR_notIn hr) (prim_notIn hk) hev hm
end
end Rm
namespace Rm
open PySem PySem.Spec L2

def typN : D → Option String
  | .non => some "NoneType" | .bl _ => some "bool" | .int _ => some "int" | .str _ => some "str"
  | .lst _ => some "list" | .rol _ => some "list" | .tup _ => some "tuple" | .dK _ => some "dict"
  | _ => none
def isiB (t n : String) : Bool := t == n || (t == "bool" && n == "int")
def isiTs : List String := ["NoneType", "bool", "int", "str", "list", "tuple", "dict"]
theorem isiB_ok : ∀ t ∈ isiTs, ∀ n ∈ isiTs, kitB t n = some (isiB t n) := by decide +kernel
theorem typN_mem {d t} (h : typN d = some t) : t ∈ isiTs := by
  cases d <;> simp only [typN, reduceCtorEq, Option.some.injEq] at h <;> subst h <;> decide
theorem tyx_of {G S H d v t} (h : typN d = some t) (q : Den G S H d v) : TyX G.K H v (.type t) := by
  cases d with
  | non => simp only [typN, Option.some.injEq] at h; subst h; simp only [Den] at q; subst q; exact .base .non
  | bl b => simp only [typN, Option.some.injEq] at h; subst h; simp only [Den] at q; subst q; exact .base (.bl b)
  | int b => simp only [typN, Option.some.injEq] at h; subst h; simp only [Den] at q; subst q; exact .base (.int b)
  | str b => simp only [typN, Option.some.injEq] at h; subst h; simp only [Den] at q; subst q; exact .base (.str b)
  | lst b =>
    simp only [typN, Option.some.injEq] at h; subst h; simp only [Den] at q
    obtain ⟨a, vs, rfl, _, e, _⟩ := q
    exact .base (.lst e)
  | rol b =>
    simp only [typN, Option.some.injEq] at h; subst h
    obtain ⟨a, vs, rfl, s, _⟩ := den_rol q
    rcases s with (s | ⟨o, s⟩) | ⟨o, its, n, hk, hc, _⟩
    · exact .base (.lst s)
    · exact .base (.frz s)
    · exact .kList hk hc
  | tup b =>
    simp only [typN, Option.some.injEq] at h; subst h
    obtain ⟨a, vs, rfl, s, _⟩ := den_tup q
    rcases s with (s | ⟨o, s⟩) | ⟨o, its, n, hk, hc, _⟩
    · exact .base (.tup s)
    · exact .fTuple s
    · exact .kTuple hk hc
  | dK b =>
    simp only [typN, Option.some.injEq] at h; subst h; simp only [Den] at q
    obtain ⟨a, vs, rfl, _, e, _⟩ := q
    rcases e with s | ⟨o, s⟩
    · exact .base (.dK s)
    · exact .fDict s
  | _ => cases h
def tyNames : List D → Option (List String)
  | [] => some []
  | .ty n :: r => (tyNames r).map (n :: ·)
  | _ => none
def gIsi : List D → Option D
  | [x, .ty n] => if isiTs.contains n = true then (typN x).map fun t => .bl (isiB t n) else none
  | [x, .tup ts] => match tyNames ts with
    | some ns => if ns.all isiTs.contains = true then (typN x).map fun t => .bl (ns.any fun n => isiB t n) else none
    | none => none
  | _ => none
theorem tyNames_den {G S H} : ∀ {ts : List D} {ns vs}, tyNames ts = some ns → DenL G S H ts vs → vs = ns.map V.ty ∧ Paired ClsV vs (ns.map Value.type)
  | [], ns, vs, e, h => by simp only [tyNames] at e; cases e; simp only [DenL] at h; subst h; exact ⟨rfl, .nil⟩
  | t :: ts, ns, vs, e, h => by
    cases t with
    | ty n =>
      simp only [tyNames] at e
      cases er : tyNames ts with
      | none => rw [er] at e; cases e
      | some r =>
        rw [er] at e
        cases e
        simp only [DenL, Den] at h
        obtain ⟨v, us, rfl, rfl, q⟩ := h
        have := tyNames_den er q
        refine ⟨by rw [this.1]; rfl, .cons (.ty n) this.2⟩
    | _ => simp only [tyNames] at e; cases e
theorem kitAny_of {K : PySem.W.Frag} {t : String} (ht : t ∈ isiTs) : ∀ {ns : List String}, ns.all isiTs.contains = true → PySem.W.kitAny K (.type t) (ns.map Value.type) = some (ns.any fun n => isiB t n)
  | [], _ => rfl
  | n :: ns, h => by
    simp only [List.all_cons, Bool.and_eq_true] at h
    have h1 := isiB_ok t ht n (by simpa using h.1)
    rw [List.map_cons, List.any_cons]
    refine kitAny_cons (kit_ty h1) (fun e => ?_) (fun e => by rw [e]; rfl)
    rw [e, kitAny_of ht h.2]
    rfl
section
variable {J : Jc} {κ κ1 κ2 : List Kd} {a b c e : Expr} {es : List Expr} {pos p apos cpos : Pos} {fr : M (List D)} {fa fb fc fi : M D} {as : List Ak} {n : Nat} {x xn : Str} {np : Pos}
theorem ex_ty {T : String} (hg : Gl J.X x) (hm : J.X.mg x = none) (hv : bootBuiltins x = some (.type T)) (hn : x ≠ "__name__" := by decide) (hd : (x == ("__debug__" : Str)) = false := by decide) : Ex J κ (.Name x pos) .sh (cn (.ty T)) κ :=
  ex_cn (pe_bltn hg hm hv (v := .ty T) rfl hn hd) fun _ _ => by simp only [Den]
abbrev rIsiA (K : PySem.W.Frag) : List V → Hp → VK → Prop := fun xs H Q => rIsi K xs H Q ∨ (rIsiT K xs H Q ∨ False)
theorem isi_one {G S H d v n t} (ht : typN d = some t) (hn : isiTs.contains n = true) (q : Den G S H d v) {Q : VK} (z : Q (.bl (isiB t n)) H) : rIsi G.K [v, .ty n] H Q :=
  ⟨v, .ty n, .type t, .type n, _, rfl, .ty n, tyx_of ht q, kit_ty (isiB_ok t (typN_mem ht) n (by simpa using hn)), z⟩
/-- isinstance of plain data, one built-in class -/
def gIsi1 : List D → Option D
  | [x, .ty n] => if isiTs.contains n = true then (typN x).map fun t => .bl (isiB t n) else none
  | _ => none
theorem ex_isi1 (hg : Gl J.X "isinstance") (hm : J.X.mg "isinstance" = none) (hev : Ev J κ [a, b] as fr κ1) (hk : (as.map Ak.kd).all (· != Kd.un) = true := by rfl) (hst : noStar [a, b] = true := by rfl) (hpl : (backTo pos (starEach [b] J.X.env)).any (·.1) = false := by rfl) :
    Ex J κ (.Call (.Name "isinstance" p) [a, b] [] pos) .sh (primM (ro gIsi1) as fr) (backK as κ1) :=
  ex_callB call_isi (prim_leaf hk fun S H ds vs d Q hgd hd => by
    unfold gIsi1 at hgd
    split at hgd
    · split at hgd
      · rename_i x n hn
        cases et : typN x with
        | none => rw [et] at hgd; cases hgd
        | some t =>
          rw [et] at hgd
          cases hgd
          obtain ⟨v, u, rfl, p, q⟩ := denL2 hd
          simp only [Den] at q
          subst q
          exact ⟨_, rfl, fun z => isi_one et hn p z⟩
      · cases hgd
    · cases hgd) hg hm (by decide +kernel) hev hst (by decide) (by decide) hpl

def gLen : List D → Option D
  | [.lst xs] => some (.int xs.length)
  | [.rol xs] => some (.int xs.length)
  | [.tup xs] => some (.int xs.length)
  | [.str x] => if x.length ≤ lim then some (.int x.length) else none
  | _ => none
theorem ex_len (hg : Gl J.X "len") (hm : J.X.mg "len" = none) (hev : Ev J κ [a] as fr κ1) (hk : (as.map Ak.kd).all (· != Kd.un) = true := by rfl) (hst : noStar [a] = true := by rfl) (hpl : (backTo pos (starEach [] J.X.env)).any (·.1) = false := by rfl) :
    Ex J κ (.Call (.Name "len" p) [a] [] pos) .sh (primM (ro gLen) as fr) (backK as κ1) :=
  ex_callB call_len (prim_leaf hk fun S H ds vs d Q hgd hd => by
    unfold gLen at hgd
    split at hgd
    · cases hgd
      obtain ⟨v, rfl, q⟩ := denL1 hd
      obtain ⟨a, us, rfl, s, l⟩ := den_lst q
      exact ⟨_, rfl, fun z => ⟨_, _, rfl, .inl ⟨us, s, rfl⟩, by rw [l.length]; exact z⟩⟩
    · cases hgd
      obtain ⟨v, rfl, q⟩ := denL1 hd
      obtain ⟨a, us, rfl, s, l⟩ := den_rol q
      exact ⟨_, rfl, fun z => ⟨_, _, rfl, .inl ⟨us, s, rfl⟩, by rw [l.length]; exact z⟩⟩
    · cases hgd
      obtain ⟨v, rfl, q⟩ := denL1 hd
      obtain ⟨a, us, rfl, s, l⟩ := den_tup q
      exact ⟨_, rfl, fun z => ⟨_, _, rfl, .inr ⟨us, s, rfl⟩, by rw [l.length]; exact z⟩⟩
    · split at hgd
      · rename_i x hl
        cases hgd
        obtain ⟨v, rfl, q⟩ := denL1 hd
        simp only [Den] at q
        subst q
        exact ⟨_, rfl, fun z => ⟨_, _, rfl, ⟨lim_ok hl, rfl⟩, z⟩⟩
      · cases hgd
    · cases hgd) hg hm PySem.boot_len hev hst (by decide) (by decide) hpl
def gMax : List D → Option D
  | [.int i, .int j] => some (.int (if j > i then j else i))
  | _ => none
def gMin : List D → Option D
  | [.int i, .int j] => some (.int (if j < i then j else i))
  | _ => none
theorem ex_max2 (hg : Gl J.X "max") (hm : J.X.mg "max" = none) (hev : Ev J κ [a, b] as fr κ1) (hk : (as.map Ak.kd).all (· != Kd.un) = true := by rfl) (hst : noStar [a, b] = true := by rfl) (hpl : (backTo pos (starEach [b] J.X.env)).any (·.1) = false := by rfl) :
    Ex J κ (.Call (.Name "max" p) [a, b] [] pos) .sh (primM (ro gMax) as fr) (backK as κ1) :=
  ex_callB (call_max2 J.calm) (prim_leaf hk fun S H ds vs d Q hgd hd => by
    unfold gMax at hgd
    split at hgd
    · cases hgd
      obtain ⟨v, u, rfl, p, q⟩ := denL2 hd
      simp only [Den] at p q
      subst p q
      exact ⟨_, rfl, fun z => ⟨_, _, rfl, z⟩⟩
    · cases hgd) hg hm (by decide +kernel) hev hst (by decide) (by decide) hpl
theorem ex_min2 (hg : Gl J.X "min") (hm : J.X.mg "min" = none) (hev : Ev J κ [a, b] as fr κ1) (hk : (as.map Ak.kd).all (· != Kd.un) = true := by rfl) (hst : noStar [a, b] = true := by rfl) (hpl : (backTo pos (starEach [b] J.X.env)).any (·.1) = false := by rfl) :
    Ex J κ (.Call (.Name "min" p) [a, b] [] pos) .sh (primM (ro gMin) as fr) (backK as κ1) :=
  ex_callB (call_min2 J.calm) (prim_leaf hk fun S H ds vs d Q hgd hd => by
    unfold gMin at hgd
    split at hgd
    · cases hgd
      obtain ⟨v, u, rfl, p, q⟩ := denL2 hd
      simp only [Den] at p q
      subst p q
      exact ⟨_, rfl, fun z => ⟨_, _, rfl, z⟩⟩
    · cases hgd) hg hm (by decide +kernel) hev hst (by decide) (by decide) hpl

def chain3 (fa fb fc : M D) (g h : List D → Option D) : M D := fun e => (fa e).bind fun x e => (fb e).bind fun y e => match g [x, y] with
  | some (.bl true) => (fc e).bind fun w e => match h [y, w] with
    | some d => .ok d e
    | none => .stuck
  | some (.bl false) => .ok (.bl false) e
  | _ => .stuck
/-- a comparison of two shared values as data -/
def CmpD (G : Gx) (r : R2) (g : List D → Option D) : Prop := ∀ S H x y u v d (Q : VK), g [x, y] = some d → Den G S H x u → Den G S H y v → ∃ w, vOf d = some w ∧ (Q w H → r u v H Q)
theorem chain_rd {r r' : R2} {g h : List D → Option D} {ta tb tc : TE} (hg : CmpD J.G r g) (hh : CmpD J.G r' h)
    (ra : ∀ R S H σ env Q, Rl J.G S H κ env σ R → Req J R S H σ (fa env) (fun d e => ∀ S' H' v, Grow S H S' H' → Rl J.G S' H' κ1 e σ (⟨.sh, d, some v⟩ :: R) → Q v H') → ta σ H Q)
    (rb : ∀ R S H σ env Q, Rl J.G S H κ1 env σ R → Req J R S H σ (fb env) (fun d e => ∀ S' H' v, Grow S H S' H' → Rl J.G S' H' κ2 e σ (⟨.sh, d, some v⟩ :: R) → Q v H') → tb σ H Q)
    (rc : ∀ R S H σ env Q, Rl J.G S H κ2 env σ R → Req J R S H σ (fc env) (fun d e => ∀ S' H' v, Grow S H S' H' → Rl J.G S' H' κ2 e σ (⟨.sh, d, some v⟩ :: R) → Q v H') → tc σ H Q)
    {R S H σ env} {Q : VK} (hR : Rl J.G S H κ env σ R) (hq : Req J R S H σ (chain3 fa fb fc g h env) (fun d e => ∀ S' H' v, Grow S H S' H' → Rl J.G S' H' κ2 e σ (⟨.sh, d, some v⟩ :: R) → Q v H')) : tChain r r' ta tb tc σ H Q := by
  refine ra _ _ _ _ _ _ hR (hq.bind.mono fun x e1 _ z S1 H1 u g1 r1 => ?_)
  refine rb _ _ _ _ _ _ r1 (((z.bind.later g1).tmp _).mono fun y e2 _ z2 S2 H2 v g2 r2 => ?_)
  have hx : Den J.G S2 H2 x u := r2.rel.drop.shared
  have hy : Den J.G S2 H2 y v := r2.rel.shared
  split at z2
  · rename_i heq
    obtain ⟨w, ew, k⟩ := hg S2 H2 x y u v _ (fun z H3 => ∃ k, z = .bl k ∧ (if k = true then tc σ H3 fun w' H4 => r' v w' H4 Q else Q (.bl false) H3)) heq hx hy
    cases ew
    refine k ⟨true, rfl, iteT (rc _ _ _ _ _ _ r2 (((((Req.bind z2).later (g1.trans g2)).tmp _).tmp _).mono fun w e3 _ z3 S3 H3 w' g3 r3 => ?_))⟩
    have hy3 : Den J.G S3 H3 y v := r3.rel.drop.shared
    have hw3 : Den J.G S3 H3 w w' := r3.rel.shared
    cases eh : h [y, w] with
    | none => rw [eh] at z3; exact z3.elim
    | some d =>
      rw [eh] at z3
      obtain ⟨w2, ew2, k2⟩ := hh S3 H3 y w v w' d Q eh hy3 hw3
      exact k2 (z3 S3 H3 w2 ((g1.trans g2).trans g3) ⟨r3.l1, r3.l2, Rel.push r3.rel.drop.drop.drop ((den_leaf ew2).mpr rfl)⟩)
  · rename_i heq
    obtain ⟨w, ew, k⟩ := hg S2 H2 x y u v _ (fun z H3 => ∃ k, z = .bl k ∧ (if k = true then tc σ H3 fun w' H4 => r' v w' H4 Q else Q (.bl false) H3)) heq hx hy
    cases ew
    exact k ⟨false, rfl, iteF (z2 S2 H2 (.bl false) (g1.trans g2) ⟨r2.l1, r2.l2, Rel.push r2.rel.drop.drop (by simp only [Den])⟩)⟩
  · exact z2.elim
theorem ex_chain {op op' : CmpOp} {r r' : R2} {g h : List D → Option D} (ho : OpR J.X (compareOp op) r) (ho' : OpR J.X (compareOp op') r') (hg : CmpD J.G r g) (hh : CmpD J.G r' h)
    (ha : Ex J κ a .sh fa κ1) (hb : Ex J κ1 b .sh fb κ2) (hc : Ex J κ2 c .sh fc κ2) (hm : lastMarks [op, op'] [b, c] = false := by with_unfolding_all rfl) : Ex J κ (.Compare a [op, op'] [b, c] pos) .sh (chain3 fa fb fc g h) κ2 := by
  obtain ⟨ta, pa, ra⟩ := ha.ex
  obtain ⟨tb, pb, rb⟩ := hb.ex
  obtain ⟨tc, pc, rc⟩ := hc.ex
  exact ⟨_, pe_chain ho ho' pa pb pc hm, fun R S H σ env Q hR hq => chain_rd hg hh ra rb rc hR hq⟩
theorem tx_chain {op op' : CmpOp} {r r' : R2} {g h : List D → Option D} (ho : OpR J.X (compareOp op) r) (ho' : OpR J.X (compareOp op') r') (hg : CmpD J.G r g) (hh : CmpD J.G r' h)
    (ha : Ex J κ a .sh fa κ1) (hb : Ex J κ1 b .sh fb κ2) (hc : Ex J κ2 c .sh fc κ2) (hm : lastMarks [op, op'] [b, c] = false := by with_unfolding_all rfl) : Tx J κ (.Compare a [op, op'] [b, c] pos) (asB (chain3 fa fb fc g h)) κ2 := by
  obtain ⟨ta, pa, ra⟩ := ha.ex
  obtain ⟨tb, pb, rb⟩ := hb.ex
  obtain ⟨tc, pc, rc⟩ := hc.ex
  refine ⟨_, pt_chain ho ho' pa pb pc hm, fun R S H σ env Q hR hq => chain_rd (Q := fun z H2 => ∃ k, z = .bl k ∧ Q k H2) hg hh ra rb rc hR (hq.bind.mono fun d e1 _ z S1 H1 v g1 r1 => ?_)⟩
  cases d with
  | bl b =>
    have := r1.rel.shared
    simp only [Den] at this
    exact ⟨b, this, z S1 H1 g1 r1.drop⟩
  | _ => exact z.elim
theorem cmpD {G} {f : Int → Int → Bool} {h : List Nat → List Nat → Bool} : CmpD G (fun x y H Q => rI0 (fun i j => .bl (f i j)) x y H Q ∨ (∃ i j, x = .str i ∧ y = .str j ∧ Q (.bl (h i.cps.toList j.cps.toList)) H)) (gCmp f h) := by
  intro S H x y u v d Q hg p q
  unfold gCmp at hg
  split at hg
  · rename_i heq
    cases heq
    cases hg
    simp only [Den] at p q
    exact ⟨_, rfl, fun z => .inl ⟨_, _, p, q, z⟩⟩
  · rename_i heq
    cases heq
    cases hg
    simp only [Den] at p q
    exact ⟨_, rfl, fun z => .inr ⟨_, _, p, q, z⟩⟩
  · cases hg
theorem ex_le_le (ha : Ex J κ a .sh fa κ1) (hb : Ex J κ1 b .sh fb κ2) (hc : Ex J κ2 c .sh fc κ2) (hm : lastMarks [.LtE, .LtE] [b, c] = false := by with_unfolding_all rfl) : Ex J κ (.Compare a [.LtE, .LtE] [b, c] pos) .sh (chain3 fa fb fc gLe gLe) κ2 := ex_chain (OpR.or op_le op_le_str) (OpR.or op_le op_le_str) cmpD cmpD ha hb hc hm
theorem tx_le_le (ha : Ex J κ a .sh fa κ1) (hb : Ex J κ1 b .sh fb κ2) (hc : Ex J κ2 c .sh fc κ2) (hm : lastMarks [.LtE, .LtE] [b, c] = false := by with_unfolding_all rfl) : Tx J κ (.Compare a [.LtE, .LtE] [b, c] pos) (asB (chain3 fa fb fc gLe gLe)) κ2 := tx_chain (OpR.or op_le op_le_str) (OpR.or op_le op_le_str) cmpD cmpD ha hb hc hm
theorem tx_lt_lt (ha : Ex J κ a .sh fa κ1) (hb : Ex J κ1 b .sh fb κ2) (hc : Ex J κ2 c .sh fc κ2) (hm : lastMarks [.Lt, .Lt] [b, c] = false := by with_unfolding_all rfl) : Tx J κ (.Compare a [.Lt, .Lt] [b, c] pos) (asB (chain3 fa fb fc gLt gLt)) κ2 := tx_chain (OpR.or op_lt op_lt_str) (OpR.or op_lt op_lt_str) cmpD cmpD ha hb hc hm
theorem tx_le_lt (ha : Ex J κ a .sh fa κ1) (hb : Ex J κ1 b .sh fb κ2) (hc : Ex J κ2 c .sh fc κ2) (hm : lastMarks [.LtE, .Lt] [b, c] = false := by with_unfolding_all rfl) : Tx J κ (.Compare a [.LtE, .Lt] [b, c] pos) (asB (chain3 fa fb fc gLe gLt)) κ2 := tx_chain (OpR.or op_le op_le_str) (OpR.or op_lt op_lt_str) cmpD cmpD ha hb hc hm
theorem ex_le_lt (ha : Ex J κ a .sh fa κ1) (hb : Ex J κ1 b .sh fb κ2) (hc : Ex J κ2 c .sh fc κ2) (hm : lastMarks [.LtE, .Lt] [b, c] = false := by with_unfolding_all rfl) : Ex J κ (.Compare a [.LtE, .Lt] [b, c] pos) .sh (chain3 fa fb fc gLe gLt) κ2 := ex_chain (OpR.or op_le op_le_str) (OpR.or op_lt op_lt_str) cmpD cmpD ha hb hc hm
theorem ex_lt_lt (ha : Ex J κ a .sh fa κ1) (hb : Ex J κ1 b .sh fb κ2) (hc : Ex J κ2 c .sh fc κ2) (hm : lastMarks [.Lt, .Lt] [b, c] = false := by with_unfolding_all rfl) : Ex J κ (.Compare a [.Lt, .Lt] [b, c] pos) .sh (chain3 fa fb fc gLt gLt) κ2 := ex_chain (OpR.or op_lt op_lt_str) (OpR.or op_lt op_lt_str) cmpD cmpD ha hb hc hm

def gSlS (lo hi : Option Int) : D → Option D
  | .str z => if z.length ≤ lim then some (.str (cutS z lo hi)) else none
  | _ => none
structure Ox (J : Jc) (κ : List Kd) (e : Option Expr) (f : M (Option Int)) (κ' : List Kd) : Prop where
  ex : ∃ t : TO, PO J.X e t ∧ ∀ R S H σ env Q, Rl J.G S H κ env σ R →
    Req J R S H σ (f env) (fun o e => ∀ S' H', Grow S H S' H' → Rl J.G S' H' κ' e σ R → Q o H') → t σ H Q
def oNone : M (Option Int) := fun e => .ok none e
def oSome (f : M D) : M (Option Int) := fun e => (f e).bind fun d e => match d with | .int i => .ok (some i) e | _ => .stuck
theorem ox_none : Ox J κ none oNone κ := ⟨tNoPart, po_none, fun R S H σ env Q h q => q S H .refl h⟩
theorem ox_some (h : Ex J κ e .sh fa κ1) : Ox J κ (some e) (oSome fa) κ1 := by
  obtain ⟨t, p, q⟩ := h.ex
  refine ⟨tPart t, po_some p, fun R S H σ env Q h hq => q _ _ _ _ _ _ h (hq.bind.mono fun d e1 _ z S1 H1 v g1 r1 => ?_)⟩
  cases d with
  | int i =>
    have := r1.rel.shared
    simp only [Den] at this
    exact ⟨i, this, z S1 H1 g1 r1.drop⟩
  | _ => exact z.elim
def slM (f : M D) (fl fh : M (Option Int)) (g : Option Int → Option Int → D → Option D) : M D := fun e => (f e).bind fun d e => (fl e).bind fun lo e => (fh e).bind fun hi e => match g lo hi d with | some d => .ok d e | none => .stuck
variable {f1 f2 : M (Option Int)} {lo hi : Option Expr} {κ3 : List Kd} {p2 : Pos}
theorem ex_slS (he : Ex J κ e .sh fa κ1) (hl : Ox J κ1 lo f1 κ2) (hh : Ox J κ2 hi f2 κ3) : Ex J κ (.Subscript e (.Slice lo hi none p2) pos) .sh (slM fa f1 f2 gSlS) κ3 := by
  obtain ⟨t, p, q⟩ := he.ex
  obtain ⟨tl, pl, ql⟩ := hl.ex
  obtain ⟨th, ph, qh⟩ := hh.ex
  refine ⟨_, pe_slice sl_str p pl ph, fun R S H σ env Q h hq => q _ _ _ _ _ _ h (hq.bind.mono fun d e1 _ z S1 H1 v g1 r1 => ?_)⟩
  refine ql _ _ _ _ _ _ r1 (((z.bind.later g1).tmp _).mono fun o e2 _ z2 S2 H2 g2 r2 => ?_)
  refine qh _ _ _ _ _ _ r2 (((z2.bind.later (g1.trans g2)).tmp _).mono fun o' e3 _ z3 S3 H3 g3 r3 => ?_)
  cases d with
  | str s =>
    simp only [gSlS] at z3
    by_cases hl : s.length ≤ lim
    · simp only [if_pos hl] at z3
      have := r3.rel.shared
      simp only [Den] at this
      exact ⟨s, this, lim_ok hl, z3 S3 H3 _ ((g1.trans g2).trans g3) ⟨r3.l1, r3.l2, Rel.push r3.rel.drop (by simp only [Den])⟩⟩
    · simp only [if_neg hl] at z3
      exact z3.elim
  | _ => exact z3.elim

def strsOf : List D → Option (List Str)
  | [] => some []
  | .str x :: r => (strsOf r).map (x :: ·)
  | _ => none
theorem strsOf_den {G S H} : ∀ {ds : List D} {ys vs}, strsOf ds = some ys → DenL G S H ds vs → vs = ys.map V.str
  | [], ys, vs, e, h => by simp only [strsOf] at e; cases e; simp only [DenL] at h; subst h; rfl
  | t :: ts, ys, vs, e, h => by
    cases t with
    | str x =>
      simp only [strsOf] at e
      cases er : strsOf ts with
      | none => rw [er] at e; cases e
      | some r =>
        rw [er] at e
        cases e
        simp only [DenL, Den] at h
        obtain ⟨v, us, rfl, rfl, q⟩ := h
        rw [strsOf_den er q]
        rfl
    | _ => simp only [strsOf] at e; cases e
def seqOf : D → Option (List D)
  | .lst ds => some ds
  | .tup ds => some ds
  | _ => none
def gJoin : List D → Option D
  | [.str a, y] => match seqOf y with
    | some ds => match strsOf ds with
      | some ys => if (ys.map (·.length)).sum + ys.length * a.length ≤ lim then some (.str (Txt.join a ys)) else none
      | none => none
    | none => none
  | _ => none
theorem prim_join {G} {r : V → List V → Hp → VK → Prop} (hr : r = fun x xs H Q => ∃ a p, ∃ ys : List Str, x = .str a ∧ xs = [.ref p] ∧ (SqL G.K H p (ys.map V.str) ∨ SqT G.K H p (ys.map V.str)) ∧
      (ys.map (·.length)).sum + ys.length * a.length ≤ 16777216 ∧ Q (.str (Txt.join a ys)) H) : Prim G (rM r) [.sh, .sh] .sh (ro gJoin) := prim_leaf (by rfl) fun S H ds vs d Q hgd hd => by
  subst hr
  unfold gJoin at hgd
  split at hgd
  · split at hgd
    · split at hgd
      · split at hgd
        · rename_i a y _ ds es _ ys ey hl
          cases hgd
          obtain ⟨v, u, rfl, p, q⟩ := denL2 hd
          simp only [Den] at p
          subst p
          have : ∃ b, u = .ref b ∧ (SqL G.K H b (ys.map V.str) ∨ SqT G.K H b (ys.map V.str)) := by
            cases y with
            | lst xs => cases es; obtain ⟨b, us, rfl, s, l⟩ := den_lst q; rw [strsOf_den ey l] at s; exact ⟨b, rfl, .inl s⟩
            | tup xs => cases es; obtain ⟨b, us, rfl, s, l⟩ := den_tup q; rw [strsOf_den ey l] at s; exact ⟨b, rfl, .inr s⟩
            | _ => cases es
          obtain ⟨b, rfl, s⟩ := this
          exact ⟨_, rfl, fun z => ⟨a, b, ys, rfl, rfl, s, Nat.le_trans hl (by unfold lim; decide), z⟩⟩
        · cases hgd
      · cases hgd
    · cases hgd
  · cases hgd
theorem ex_join {o : Expr} {fo : M D} (ho : Ex J κ o .sh fo κ1) (hev : Ev J κ1 [e] [.sh] fr κ2) (hst : noStar [e] = true := by rfl) (hbase : attributeBase o "join" J.X.env (eval o J.X.env) = eval o J.X.env := by rfl)
    (hfew : ((backTo cpos (starEach [e] J.X.env)).all (fun x => !x.1) && (backToKw cpos (keywordEach [] J.X.env)).all (fun x => x.1.isSome)
      && decide ([e].length + ([] : List Keyword).length + (if ([] : List Keyword).isEmpty then 0 else 1) < 30)) = true := by rfl)
    (hline : (apos.endLine == cpos.line) = true := by rfl) (hplain : (backTo cpos (starEach [] J.X.env)).any (·.1) = false := by rfl) :
    Ex J κ (.Call (.Attribute o "join" apos) [e] [] cpos) .sh (methM "str" (ro gJoin) .sh [.sh] fo fr) κ2 :=
  ex_bm (as := [.sh]) PySem.F.plainAttrs_str PySem.F.slot_str_join PySem.F.type_str_join mt_join (by decide) (prim_join rfl) ho hev hst hbase hfew hline hplain

def keyD : D → Option Key
  | .int i => some (.inl i)
  | .str x => some (.inr x)
  | _ => none
theorem keyD_den {G S H d k v} (h : keyD d = some k) (q : Den G S H d v) : v = kV k := by
  cases d with
  | int i => cases h; simp only [Den] at q; exact q
  | str i => cases h; simp only [Den] at q; exact q
  | _ => cases h
/-- a new dict, owned -/
theorem Rel.newDK {G S H xs} {p : Addr} (h : Rel G S H xs) (hp : H p = none) : Grow S H S (upd H p (.dK [])) ∧ Rel G S (upd H p (.dK [])) (⟨.ow 0, .dK [], some (.ref p)⟩ :: xs) := by
  have ns : ¬ S p := fun s => h.1 p s hp
  have g : Grow S H S (upd H p (.dK [])) := Grow.of fun a s => ⟨s, upd_ne fun e => ns (e ▸ s)⟩
  refine Rel.step0 (ys := [⟨.ow 0, .dK [], some (.ref p)⟩]) h g (fun a n => .inr (upd_ne fun e => n (e ▸ hp))) (fun a s => .inl s) (fun a s => by
    have e : upd H p (.dK []) a = H a := upd_ne (fun e => ns (e ▸ s))
    rw [e]; exact h.1 a s) ⟨[p] ++ [], fun a m => ?_, .cons ⟨_, rfl, ?_⟩ (by simp) (fun a m => ?_) .nil⟩
  · simp at m; subst m; exact hp
  · exact ⟨p, [], [], rfl, upd_same, rfl, rfl, rfl, rfl⟩
  · simp at m; subst m
    exact ⟨ns, by rw [upd_same]; simp, by simp⟩
theorem ex_dict0 : Ex J κ (.Dict [] [] pos) (.ow 0) (cn (.dK [])) κ :=
  ⟨tDNewK, pe_dnewK, fun R S H σ env Q h hq p hp => by
    obtain ⟨g, r⟩ := h.rel.newDK hp
    exact hq S _ _ g ⟨h.l1, h.l2, r⟩⟩
/-- an owned dict is written -/
theorem Rel.wrK {G S H xs ds v} (h : Rel G S H (⟨.ow 0, .dK ds, some v⟩ :: xs)) : ∃ a ws, v = .ref a ∧ H a = some (.dK ws) ∧ DenK G S H ds ws ∧
    ∀ ds' ws', DenK G S H ds' ws' → Grow S H S (upd H a (.dK ws')) ∧ Rel G S (upd H a (.dK ws')) (⟨.ow 0, .dK ds', some v⟩ :: xs) := by
  obtain ⟨al, L, q⟩ := id h
  cases q with
  | @cons _ _ L0 M he nd f hr =>
    obtain ⟨w, e, a, ws, M0, e1, ha, e2, hk, hA⟩ := he
    cases e
    cases e1
    obtain ⟨hl, rfl⟩ := All3_zero.mp hA
    refine ⟨a, ws, rfl, ha, DenK_iff.mpr ⟨hk, hl⟩, fun ds' ws' hd => ?_⟩
    have ns : ¬ S a := (f a (by rw [e2]; simp)).1
    have g : Grow S H S (upd H a (.dK ws')) := Grow.of fun b s => ⟨s, upd_ne fun e => ns (e ▸ s)⟩
    refine Rel.step h (ys := [⟨.ow 0, .dK ds', some (.ref a)⟩]) fun L' he' nd' f' => ?_
    obtain ⟨w, e, a', vs2, M1, e1, ha', e2', hk', hA'⟩ := he'
    cases e
    cases e1
    obtain ⟨hl', rfl⟩ := All3_zero.mp hA'
    subst e2'
    have hd' := DenK_iff.mp hd
    refine ⟨g, fun b n nb => .inr (upd_ne fun e => nb (by rw [e]; simp)), fun b s => .inl s, fun b s => ?_, [a] ++ [], fun b m => ?_, .cons ⟨_, rfl, a, ws', [], rfl, upd_same, rfl, hd'.1, All3_zero.mpr ⟨hd'.2.grow g, rfl⟩⟩ (by simp) (fun b m => ?_) .nil⟩
    · have e : upd H a (.dK ws') b = H b := upd_ne (fun e => ns (e ▸ s))
      rw [e]; exact al b s
    · simp at m; subst m; exact .inl (by simp)
    · simp at m; subst m
      exact ⟨ns, by rw [upd_same]; simp, by simp⟩
def putD {κ : Type} [DecidableEq κ] (kvs : List (κ × D)) (k : κ) (v : D) : List (κ × D) :=
  if (kvs.any fun kv => decide (kv.1 = k)) = true then kvs.map (fun kv => if kv.1 = k then (kv.1, v) else kv) else kvs ++ [(k, v)]
theorem denK_cons {G S H k d ds ws} : DenK G S H ((k, d) :: ds) ws ↔ ∃ v r, ws = (k, v) :: r ∧ Den G S H d v ∧ DenK G S H ds r := by simp only [DenK]
theorem denK_any {G S H} {k : Key} : ∀ {ds ws}, DenK G S H ds ws → (ws.any fun kv => decide (kv.1 = k)) = (ds.any fun kv => decide (kv.1 = k))
  | [], ws, h => by simp only [DenK] at h; subst h; rfl
  | (k0, d) :: ds, ws, h => by
    obtain ⟨v, r, rfl, _, q⟩ := denK_cons.mp h
    simp only [List.any_cons, denK_any q]
theorem denK_put {G S H} {k : Key} {d v} (hd : Den G S H d v) {ds ws} (h : DenK G S H ds ws) : DenK G S H (putD ds k d) (putK ws k v) := by
  unfold putD putK
  rw [denK_any h]
  split
  · have : ∀ {ds ws}, DenK G S H ds ws → DenK G S H (ds.map fun kv => if kv.1 = k then (kv.1, d) else kv) (ws.map fun kv => if kv.1 = k then (kv.1, v) else kv) := by
      intro ds
      induction ds with
      | nil => intro ws h; simp only [DenK] at h; subst h; simp only [List.map_nil, DenK]
      | cons p ds ih =>
        intro ws h
        obtain ⟨k0, d0⟩ := p
        obtain ⟨v0, r, rfl, p, q⟩ := denK_cons.mp h
        simp only [List.map_cons]
        by_cases e : k0 = k
        · simp only [if_pos e]
          exact denK_cons.mpr ⟨v, _, rfl, hd, ih q⟩
        · simp only [if_neg e]
          exact denK_cons.mpr ⟨v0, _, rfl, p, ih q⟩
    exact this h
  · have : ∀ {ds ws}, DenK G S H ds ws → DenK G S H (ds ++ [(k, d)]) (ws ++ [(k, v)]) := by
      intro ds
      induction ds with
      | nil => intro ws h; simp only [DenK] at h; subst h; exact denK_cons.mpr ⟨v, [], rfl, hd, by simp only [DenK]⟩
      | cons p ds ih =>
        intro ws h
        obtain ⟨k0, d0⟩ := p
        obtain ⟨v0, r, rfl, p, q⟩ := denK_cons.mp h
        exact denK_cons.mpr ⟨v0, r ++ [(k, v)], rfl, p, ih q⟩
    exact this h
def mergeD (kvs more : List (Key × D)) : List (Key × D) := more.foldl (fun acc kv => putD acc kv.1 kv.2) kvs
theorem denK_merge {G S H} : ∀ {more ms ds ws}, DenK G S H more ms → DenK G S H ds ws → DenK G S H (mergeD ds more) (mergeK ws ms)
  | [], ms, ds, ws, h, k => by simp only [DenK] at h; subst h; exact k
  | (k0, d0) :: more, ms, ds, ws, h, k => by
    obtain ⟨v, r, rfl, p, q⟩ := denK_cons.mp h
    have := denK_merge (more := more) q (denK_put (k := k0) p k)
    exact this
/-- one written entry (more are not needed so far) -/
def dict1M (fk fv : M D) : M D := fun e => (fk e).bind fun k e => (fv e).bind fun v e => match keyD k with
  | some k => .ok (.dK [(k, v)]) e
  | none => .stuck
theorem ex_dict1 {fk fv : M D} (hk : Ex J κ a .sh fk κ1) (hv : Ex J κ1 b .sh fv κ2) : Ex J κ (.Dict [some a] [b] pos) (.ow 0) (dict1M fk fv) κ2 := by
  obtain ⟨tk, pk, rk⟩ := hk.ex
  obtain ⟨tv, pv, rv⟩ := hv.ex
  refine ⟨_, pe_disp (pps_cons pk pv pps_nil) rfl rfl (by simp) (by simp), fun R S H σ env Q h hq p hp => ?_⟩
  obtain ⟨g, r⟩ := h.rel.newDK hp
  refine rk _ _ _ _ _ _ (⟨h.l1, h.l2, r⟩ : Rl J.G S _ κ env σ (⟨.ow 0, .dK [], some (.ref p)⟩ :: R)) (((hq.bind.later g).tmp _).mono fun k e1 _ z S1 H1 u g1 r1 => ?_)
  refine rv _ _ _ _ _ _ r1 ((((z.bind.later (g.trans g1)).tmp _).tmp _).mono fun v e2 _ z2 S2 H2 w g2 r2 => ?_)
  cases ek : keyD k with
  | none => rw [ek] at z2; exact z2.elim
  | some kk =>
    rw [ek] at z2
    have hk' : Den J.G S2 H2 k u := r2.rel.drop.shared
    have hv' : Den J.G S2 H2 v w := r2.rel.shared
    have hku := keyD_den ek hk'
    obtain ⟨a0, ws, e0, ha, _, wr⟩ := r2.rel.drop.drop.wrK
    cases e0
    have e1 : ws = [] := by
      rename_i hd0
      simp only [DenK] at hd0
      exact hd0
    subst e1
    obtain ⟨g3, r3⟩ := wr [(kk, v)] [(kk, w)] (denK_cons.mpr ⟨w, [], rfl, hv', by simp only [DenK]⟩)
    exact ⟨ha, [(kk, w)], by rw [hku]; rfl, by simp, z2 S2 _ _ ((g.trans g1).trans (g2.trans g3)) ⟨r2.l1, r2.l2, r3⟩⟩
end
end Rm
namespace Rm
open PySem PySem.Spec L2

structure Cal (P : Program) (w : World) (K : PySem.W.Frag) (mg : Str → Option Value) (base : Heap) (x : Str) (n : Nat) (ps : List Str) (sp : Sp) : Prop where
  ex : ∃ g fd, FnOk P w K mg base (L2.CX P w) n g fd ps sp ∧ mg x = some (.ref g) ∧ PySem.W.keepIn K (.ref g) = true ∧ Binds K fd ps []

section
variable {J : Jc} {κ κ1 κ2 κ3 κ' : List Kd} {a b c e : Expr} {es : List Expr} {pos p apos : Pos} {fa fb fc f : M D} {fr : M (List D)} {k ka kb kc kr : Kd} {as : List Ak} {x m : Str} {n : Nat} {ps : List Str} {F : List D → Out D}
theorem ex_c (C : Cal J.X.prog J.X.w J.X.K J.X.mg J.X.base x n ps (SpF J.G (as.map Ak.kd) kr F)) (hr : Room n J.X.A) (ha : Ax J κ (e :: es) as fr κ1) (hg : Gl J.X x := by rfl) (hl : kle J.kx (backK as κ1) = true := by rfl) (hdb : (x == ("__debug__" : Str)) = false := by decide)
    (he : starEach (e :: es) J.X.env = (false, eval e J.X.env) :: starEach es J.X.env := by rfl) (hpl : (backTo pos (starEach es J.X.env)).any (·.1) = false := by rfl) :
    Ex J κ (.Call (.Name x p) (e :: es) [] pos) kr (callM F as fr) (backK as κ1) := by
  obtain ⟨g, fd, Fk, hm, hk, hb⟩ := C.ex
  exact ex_call Fk hr hg hm hk hb ha hl hdb he hpl
theorem ex_c0 (C : Cal J.X.prog J.X.w J.X.K J.X.mg J.X.base x n ps (SpF J.G [] kr F)) (hr : Room n J.X.A) (hg : Gl J.X x := by rfl) (hl : kle J.kx κ = true := by rfl) (hdb : (x == ("__debug__" : Str)) = false := by decide) :
    Ex J κ (.Call (.Name x p) [] [] pos) kr (callM F [] aNil) κ := by
  obtain ⟨g, fd, Fk, hm, hk, hb⟩ := C.ex
  exact ex_call0 Fk hr hg hm hk hb hl hdb
def sBrk : M Fl := fun e => .ok .bk e
def sCnt : M Fl := fun e => .ok .ct e
theorem sx_brk (h : kle J.kb κ = true := by rfl) : Sx J κ (.Break pos) sBrk κ' := ⟨tBreak, ps_break, fun R S H σ env D r q => q S H σ .refl .refl (r.weak h)⟩
theorem sx_cnt (h : kle J.kc κ = true := by rfl) : Sx J κ (.Continue pos) sCnt κ' := ⟨tCont, ps_continue, fun R S H σ env D r q => q S H σ .refl .refl (r.weak h)⟩
theorem Ix.weak {tg : Expr} {f : M (List D)} (h : Ix J κ tg e f κ1) (l : kle κ' κ1 = true) : Ix J κ tg e f κ' := by
  obtain ⟨t, p, q⟩ := h.ex
  exact ⟨t, p, fun R S H σ env Q h hq => q R S H σ env Q h (hq.mono fun d e _ z S' H' I g r it => z S' H' I g (r.weak l) it)⟩
theorem Tx.weak {f : M Bool} (h : Tx J κ e f κ1) (l : kle κ' κ1 = true) : Tx J κ e f κ' := by
  obtain ⟨t, p, q⟩ := h.ex
  exact ⟨t, p, fun R S H σ env Q h hq => q R S H σ env Q h (hq.mono fun d e _ z S' H' g r => z S' H' g (r.weak l))⟩
end
structure CmpS (J : Jc) (op : CmpOp) (as : List Ak) (g : List D → Option (D × List D)) : Prop where
  ex : ∃ r, OpR J.X (compareOp op) r ∧ Prim J.G (Rm.r2 r) (as.map Ak.kd) .sh g
section
variable {J : Jc} {κ κ1 : List Kd} {a b : Expr} {pos : Pos} {fr : M (List D)} {as : List Ak} {op : CmpOp} {g : List D → Option (D × List D)} {n : Nat}
theorem cs_lt (hk : (as.map Ak.kd).all (· != Kd.un) = true := by rfl) : CmpS J .Lt as (ro gLt) := ⟨_, OpR.or op_lt op_lt_str, prim_cmp hk⟩
theorem cs_le (hk : (as.map Ak.kd).all (· != Kd.un) = true := by rfl) : CmpS J .LtE as (ro gLe) := ⟨_, OpR.or op_le op_le_str, prim_cmp hk⟩
theorem cs_gt (hk : (as.map Ak.kd).all (· != Kd.un) = true := by rfl) : CmpS J .Gt as (ro gGt) := ⟨_, OpR.or op_gt op_gt_str, prim_cmp hk⟩
theorem cs_ge (hk : (as.map Ak.kd).all (· != Kd.un) = true := by rfl) : CmpS J .GtE as (ro gGe) := ⟨_, OpR.or op_ge op_ge_str, prim_cmp hk⟩
theorem cs_eq (hr : Room n J.X.A) (hk : (as.map Ak.kd).all (· != Kd.un) = true := by rfl) : CmpS J .Eq as (ro gEq) := ⟨_, op_eqD hr.units, prim_eq hk⟩
theorem cs_ne (hr : Room n J.X.A) (hk : (as.map Ak.kd).all (· != Kd.un) = true := by rfl) : CmpS J .NotEq as (ro gNe) := ⟨_, op_neD hr.units, prim_ne hk⟩
theorem cs_in (hr : Room n J.X.A) (hk : (as.map Ak.kd).all (· != Kd.un) = true := by rfl) : CmpS J .In as (ro gIn) := ⟨_, opR_in hr, prim_in hk⟩
theorem cs_notIn (hr : Room n J.X.A) (hk : (as.map Ak.kd).all (· != Kd.un) = true := by rfl) : CmpS J .NotIn as (ro gNotIn) := ⟨_, opR_notIn hr, prim_notIn hk⟩
theorem cs_isN (hk : (as.map Ak.kd).all (· != Kd.un) = true := by rfl) : CmpS J .Is as (ro gIsN) := ⟨_, op_isN, prim_leaf hk fun S H ds vs d Q hg hd => by
  unfold gIsN at hg
  split at hg
  · cases hg
    obtain ⟨v, u, rfl, p, q⟩ := denL2 hd
    simp only [Den] at q
    exact ⟨_, rfl, fun z => ⟨q, by rw [den_isNon p]; exact z⟩⟩
  · cases hg⟩
theorem cs_notN (hk : (as.map Ak.kd).all (· != Kd.un) = true := by rfl) : CmpS J .IsNot as (ro gNotN) := ⟨_, op_notN, prim_leaf hk fun S H ds vs d Q hg hd => by
  unfold gNotN at hg
  split at hg
  · cases hg
    obtain ⟨v, u, rfl, p, q⟩ := denL2 hd
    simp only [Den] at q
    exact ⟨_, rfl, fun z => ⟨q, by rw [den_isNon p]; exact z⟩⟩
  · cases hg⟩
theorem ex_cs (c : CmpS J op as g) (hev : Ev J κ [a, b] as fr κ1) (hm : behindInMarks op b = false := by rfl) : Ex J κ (.Compare a [op] [b] pos) .sh (primM g as fr) (backK as κ1) := by
  obtain ⟨r, h, p⟩ := c.ex
  exact ex_cmp1 h p hev hm
theorem tx_cs (c : CmpS J op as g) (hev : Ev J κ [a, b] as fr κ1) (hm : behindInMarks op b = false := by rfl) : Tx J κ (.Compare a [op] [b] pos) (asB (primM g as fr)) (backK as κ1) := by
  obtain ⟨r, h, p⟩ := c.ex
  exact tx_cmp1 h p hev hm
theorem ex_gs {x z : Str} (hm : ∃ t, J.X.mg x = some (.str z t)) (hg : Gl J.X x := by rfl) (hdb : (x == ("__debug__" : Str)) = false := by decide) : Ex J κ (.Name x pos) .sh (cn (.str z)) κ := by
  obtain ⟨t, hm⟩ := hm
  exact ex_glob (v := .str z) hg hm (by first | exact .str _ _ | exact ⟨_, rfl⟩ | rfl | constructor) (fun _ _ => by simp only [Den]) hdb
theorem ex_gi {x : Str} {z : Int} (hm : ∃ t, J.X.mg x = some (.int z t)) (hg : Gl J.X x := by rfl) (hdb : (x == ("__debug__" : Str)) = false := by decide) : Ex J κ (.Name x pos) .sh (cn (.int z)) κ := by
  obtain ⟨t, hm⟩ := hm
  exact ex_glob (v := .int z) hg hm (by first | exact .int _ _ | exact ⟨_, rfl⟩ | rfl | constructor) (fun _ _ => by simp only [Den]) hdb
end
/-- a def's facts, made from its datum and its own proof -/
theorem Cal.mk' {P : Program} {w : World} {K : PySem.W.Frag} {mg : Str → Option Value} {base : Heap} {x qual : Str} {st : Stmt} {n : Nat} {ps : List Str} {sp : Sp} {f : Addr} {fd : FuncData}
    (F : FunD K x qual (defArgs st) (defBody st) (defScope st) [] [] f fd) (hm : mg x = some (.ref f)) (ok : FnOk P w K mg base (L2.CX P w) n f fd ps sp)
    (h : ∀ (kV doc pm : Value) (an : Option Addr) (cdv ct : Value) (us : List Value), us.length = ps.length → bindArgs (PySem.W.fnOf x qual (defArgs st) (defBody st) (defScope st) .none kV doc pm an cdv ct) ⟨us, []⟩ = pure (ps.zip us)) : Cal P w K mg base x n ps sp :=
  ⟨f, fd, ok, hm, F.kp, F.bindsN h⟩
end Rm
namespace Rm
open PySem PySem.Spec L2

/-- the script as a datum -/
def scr (ns : List Int) : D := .rol (ns.map D.int)
theorem denL_ints {G S H} : ∀ ns : List Int, DenL G S H (ns.map D.int) (ns.map V.int)
  | [] => by simp only [List.map_nil, DenL]
  | n :: ns => by
    simp only [List.map_cons, DenL]
    exact ⟨_, _, rfl, by simp only [Den], denL_ints ns⟩
theorem law_sp {K : PySem.W.Frag} {cl fa : Nat → Addr} {F : List D → Out D} {H : Hp} {a : Addr} {ns : List Int} (hS : SqL K H a (ns.map V.int)) (hF : ∃ e, F [scr ns] = .ok (.bl true) e) : SpF ⟨K, cl, fa⟩ [.sh] .sh F [.ref a] H (fun v _ => v = .bl true) (fun _ _ _ => False) := by
  obtain ⟨e, hF⟩ := hF
  have hd : ∃ S : Rg, (∀ b, S b → H b ≠ none) ∧ Den (⟨K, cl, fa⟩ : Gx) S H (scr ns) (.ref a) := by
    rcases hS with h | h
    · refine ⟨fun b => b = a, fun b e => ?_, ?_⟩
      · rw [e]
        rcases h with h | ⟨o, h⟩ <;> (rw [h]; simp)
      · unfold scr
        simp only [Den]
        exact ⟨a, _, rfl, .inl ⟨rfl, h⟩, denL_ints ns⟩
    · refine ⟨fun _ => False, fun b e => e.elim, ?_⟩
      unfold scr
      simp only [Den]
      exact ⟨a, _, rfl, .inr fun H' => .inr h, denL_ints ns⟩
  obtain ⟨S, al, hd⟩ := hd
  refine ⟨S, [], [scr ns], rfl, rfl, ⟨al, [], ?_⟩, ?_⟩
  · exact RelP.cons (L := []) (M := []) ⟨rfl, _, rfl, hd⟩ .nil (fun a m => nomatch m) .nil
  · rw [hF]
    intro S' H' v g l r
    have := r.shared
    simp only [Den] at this
    exact this
theorem CX_none {P : Program} {w : World} {H : Hp} {s : Shared} {e : Value} {s' : Shared} (h : L2.CX P w [] H s (fun _ _ _ => False) e s') : False := by
  obtain ⟨a, B, H', cls, d, h⟩ := h
  exact h.2.2.2.2.2.2.2
/-- the end: the law's def walked, its data law -/
theorem walk_rm {l : PySem.W.OpenLaw} {n k : Nat} {q : Program} {loose : List Str} {XP : (Str → Option Value) → Heap → Prop} {YP : World → Heap → Prop} {d : DefRec} {x : Str}
    (hn : l.most = some n) (hn2 : n ≤ sizeLine) (hdf : d.params.defaults = []) (hr : Room k callerA)
    (F : ∀ (w : World) (mg : Str → Option Value) (fa : Addr) (h : Heap), YP w h → h.Ns mainGlobals mg → mg d.name = some (.ref fa) →
      ∃ (K : PySem.W.Frag) (fd : FuncData) (sp : Sp), K.In h ∧ (∀ (s : Shared) (u : Value), BindsTo s fd ⟨[u], []⟩ [(x, u)]) ∧
        (∀ (H : Hp) (a : Addr) (ns : List Int), ns.length ≤ n → (∀ z ∈ ns, Builtin.Int.intBits z ≤ 1048576) → Only H → SqL K H a (ns.map V.int) → sp [.ref a] H (fun v _ => v = .bl true) fun _ _ _ => False) ∧
        ∀ base : Heap, K.In base → base.Ns mainGlobals mg → FnOk l.prog w K mg base (L2.CX l.prog w) k fa fd [x] sp) :
    PySem.W.WalkO q loose XP YP l.row.toRowW d [] (fun f vs => PySem.call f vs) := by
  refine Att.attach_callB hn hdf fun w s₀ s₁ mg mb fa o pm cd doc a vs ns G Y ho hd hcd hmg hobj hints hlen hbits hg => ?_
  obtain ⟨K, fd, sp, KX, hb, hsp, hF⟩ := F w mg fa _ Y G.T.g hmg
  exact law_call KX G.T.g G.T.b G.T.builtins G.T.nolimit hg hobj hints (Nat.le_trans hlen hn2) hr hF hb (fun H hO hS => hsp H a ns hlen hbits hO hS) fun H e s' => CX_none
/-- a call's facts give the def's -/
theorem Cal.ok {P : Program} {w : World} {K : PySem.W.Frag} {mg : Str → Option Value} {base : Heap} {x : Str} {n : Nat} {ps : List Str} {sp : Sp} {f : Addr} {fd : FuncData} {X : Str} (h : ∃ fd, FnOk P w K mg base (L2.CX P w) n f fd ps sp) : True := trivial
end Rm
namespace Rm
open PySem PySem.Spec L2

abbrev KX := Nat → List (Str × D) → List D → Prop
def Wp {α : Type} (o : Out α) (K : α → List D → Prop) (X : KX) : Prop := match o with
  | .ok a e => K a e
  | .ex c fs e => X c fs e
  | .stuck => False
theorem Wp.bind {α β} (o : Out α) (f : α → List D → Out β) (K X) : Wp (o.bind f) K X = Wp o (fun a e => Wp (f a e) K X) X := by cases o <;> rfl
theorem Wp.mono {α} {o : Out α} {K K' : α → List D → Prop} {X X' : KX} (h : Wp o K X) (f : ∀ a e, K a e → K' a e) (g : ∀ c fs e, X c fs e → X' c fs e) : Wp o K' X' := by
  cases o with
  | ok a e => exact f a e h
  | ex c fs e => exact g c fs e h
  | stuck => exact h
def nxK (g : M Fl) (K : Fl → List D → Prop) (X : KX) (fl : Fl) (e : List D) : Prop := match fl with
  | .nx => Wp (g e) K X
  | fl => K fl e
def bK (K : Bool → List D → Prop) (d : D) (e : List D) : Prop := match d with | .bl b => K b e | _ => False
/-- o gives one, P of it -/
def oK {α : Type} (o : Option α) (P : α → Prop) : Prop := match o with | some d => P d | none => False
def pK (g : List D → Option (D × List D)) (as : List Ak) (K : D → List D → Prop) (ds : List D) (e : List D) : Prop := oK (g ds) fun p => K p.1 (backE as p.2 e)
def getK (x : Option D) (K : D → Prop) : Prop := match x with | some d => K d | none => False
def setK (i : Nat) (K : Fl → List D → Prop) (l k d : D) (e : List D) : Prop := match gSetI [l, k, d] with
  | some (_, l' :: _) => K .nx (e.set i l')
  | _ => False
def listK (K : List D → List D → Prop) (d : D) (e : List D) : Prop := match d with | .lst ds => K ds e | .rol ds => K ds e | .tup ds => K ds e | _ => False
def intK (K : Option Int → List D → Prop) (d : D) (e : List D) : Prop := match d with | .int i => K (some i) e | _ => False
def chK (g h : List D → Option D) (fc : M D) (K : D → List D → Prop) (X : KX) (x y : D) (e : List D) : Prop := match g [x, y] with
  | some (.bl b) => if b = true then Wp (fc e) (fun w e => oK (h [y, w]) fun d => K d e) X else K (.bl false) e
  | _ => False
theorem Wp.and_l {P Q : Prop} (p : P) (q : Q) : P ∧ Q := ⟨p, q⟩

theorem wpS :
    (∀ {α : Type} (a : α) (e K X), Wp (Out.ok a e) K X = K a e) ∧
    (∀ (f g : M Fl) (e K X), Wp (sCons f g e) K X = Wp (f e) (nxK g K X) X) ∧
    (∀ (g : M Fl) (K X e), nxK g K X .nx e = Wp (g e) K X) ∧
    (∀ (g : M Fl) (K X d e), nxK g K X (.rt d) e = K (.rt d) e) ∧
    (∀ (g : M Fl) (K X e), nxK g K X .bk e = K .bk e) ∧
    (∀ (g : M Fl) (K X e), nxK g K X .ct e = K .ct e) ∧
    (∀ (e K X), Wp (sNil e) K X = K .nx e) ∧
    (∀ (e K X), Wp (sBrk e) K X = K .bk e) ∧
    (∀ (e K X), Wp (sCnt e) K X = K .ct e) ∧
    (∀ (f : M D) (i e K X), Wp (sAsg f (tName i) e) K X = Wp (f e) (fun d e => K .nx (e.set i d)) X) ∧
    (∀ (f : M D) (n g e K X), Wp (sAsg f (tN n g) e) K X = Wp (f e) (fun d e => oK (tN n g d e) fun e => K .nx e) X) ∧
    (∀ (f : M D) (e K X), Wp (sRet f e) K X = Wp (f e) (fun d e => K (.rt d) e) X) ∧
    (∀ (f : M D) (e K X), Wp (sExp f e) K X = Wp (f e) (fun _ e => K .nx e) X) ∧
    (∀ {α : Type} (t : M Bool) (f g : M α) (e K X), Wp (ifM t f g e) K X = Wp (t e) (fun b e => if b = true then Wp (f e) K X else Wp (g e) K X) X) ∧
    (∀ (f : M D) (e K X), Wp (asB f e) K X = Wp (f e) (bK K) X) ∧
    (∀ (K b e), bK K (.bl b) e = K b e) ∧
    (∀ (f : M Bool) (e K X), Wp (notB f e) K X = Wp (f e) (fun b e => K (!b) e) X) ∧
    (∀ (f g : M Bool) (e K X), Wp (andB f g e) K X = Wp (f e) (fun b e => if b = true then Wp (g e) K X else K false e) X) ∧
    (∀ (f g : M Bool) (e K X), Wp (orB f g e) K X = Wp (f e) (fun b e => if b = true then K true e else Wp (g e) K X) X) ∧
    (∀ (f : M Bool) (e K X), Wp (bD f e) K X = Wp (f e) (fun b e => K (.bl b) e) X) ∧
    (∀ (i e K X), Wp (vr i e) K X = getK e[i]? fun d => K d e) ∧
    (∀ (d : D) (e K X), Wp (cn d e) K X = K d e) ∧
    (∀ (e K X), Wp (aNil e) K X = K [] e) ∧
    (∀ (f : M D) (r : M (List D)) (e K X), Wp (aCons f r e) K X = Wp (f e) (fun d e => Wp (r e) (fun ds e => K (d :: ds) e) X) X) ∧
    (∀ (g as) (r : M (List D)) (e K X), Wp (primM g as r e) K X = Wp (r e) (pK g as K) X) ∧
    (∀ (F as) (r : M (List D)) (e K X), Wp (callM F as r e) K X = Wp (r e) (fun ds e => Wp (F ds) (fun d o => K d (backE as o e)) fun c fs o => X c fs (backE as o e)) X) ∧
    (∀ (r : M (List D)) (e K X), Wp (lstM r e) K X = Wp (r e) (fun ds e => ds.length ≤ lim ∧ K (.lst ds) e) X) ∧
    (∀ (r : M (List D)) (e K X), Wp (tupM r e) K X = Wp (r e) (fun ds e => ds.length ≤ lim ∧ K (.tup ds) e) X) ∧
    (∀ (i fe fi e K X), Wp (setIM i fe fi e) K X = Wp (fe e) (fun d e => getK e[i]? fun l => Wp (fi (e.set i .non)) (fun k e => setK i K l k d e) X) X) ∧
    (∀ (src tg body e K X), Wp (forM' src tg body e) K X = Wp (src e) (fun items e => Wp (forGo tg body items e) K X) X) ∧
    (∀ (f : M D) (e K X), Wp (seqM f e) K X = Wp (f e) (listK K) X) ∧
    (∀ (K ds e), listK K (.lst ds) e = K ds e) ∧ (∀ (K ds e), listK K (.rol ds) e = K ds e) ∧ (∀ (K ds e), listK K (.tup ds) e = K ds e) ∧
    (∀ (src own tg c f e K X), Wp (lcM src own tg c f e) K X = Wp (src e) (fun items e => items.length ≤ lim ∧ Wp (lcGo own tg c f items (wipeE e own)) (fun ds e => K (.lst ds) e) X) X) ∧
    (∀ (fa fb fc g h e K X), Wp (chain3 fa fb fc g h e) K X = Wp (fa e) (fun x e => Wp (fb e) (fun y e => chK g h fc K X x y e) X) X) ∧
    (∀ (e K X), Wp (oNone e) K X = K none e) ∧
    (∀ (f : M D) (e K X), Wp (oSome f e) K X = Wp (f e) (intK K) X) ∧
    (∀ (K i e), intK K (.int i) e = K (some i) e) ∧
    (∀ (f lo hi g e K X), Wp (slM f lo hi g e) K X = Wp (f e) (fun d e => Wp (lo e) (fun l e => Wp (hi e) (fun h e => oK (g l h d) fun d => K d e) X) X) X) ∧
    (∀ (T g a0 as fo fr e K X), Wp (methM T g a0 as fo fr e) K X = Wp (fo e) (fun d0 e => tyD T d0 = true ∧ Wp (fr e) (fun ds e => pK g (a0 :: as) K (d0 :: ds) e) X) X) := by
  refine ⟨?_, ?_, ?_, ?_, ?_, ?_, ?_, ?_, ?_, ?_, ?_, ?_, ?_, ?_, ?_, ?_, ?_, ?_, ?_, ?_, ?_, ?_, ?_, ?_, ?_, ?_, ?_, ?_, ?_, ?_, ?_, ?_, ?_, ?_, ?_, ?_, ?_, ?_, ?_, ?_, ?_⟩
  · intros; rfl
  · intro f g e K X; unfold sCons; rw [Wp.bind]; congr 1; funext fl e; cases fl <;> rfl
  · intros; rfl
  · intros; rfl
  · intros; rfl
  · intros; rfl
  · intros; rfl
  · intros; rfl
  · intros; rfl
  · intro f i e K X; unfold sAsg; rw [Wp.bind]; rfl
  · intro f n g e K X; unfold sAsg; rw [Wp.bind]; congr 1; funext d e; cases tN n g d e <;> rfl
  · intro f e K X; unfold sRet; rw [Wp.bind]; rfl
  · intro f e K X; unfold sExp; rw [Wp.bind]; rfl
  · intro α t f g e K X; unfold ifM; rw [Wp.bind]; congr 1; funext b e; cases b <;> rfl
  · intro f e K X; unfold asB; rw [Wp.bind]; congr 1; funext d e; cases d <;> rfl
  · intros; rfl
  · intro f e K X; unfold notB; rw [Wp.bind]; rfl
  · intro f g e K X; unfold andB; rw [Wp.bind]; congr 1; funext b e; cases b <;> rfl
  · intro f g e K X; unfold orB; rw [Wp.bind]; congr 1; funext b e; cases b <;> rfl
  · intro f e K X; unfold bD; rw [Wp.bind]; rfl
  · intro i e K X; unfold vr; cases e[i]? <;> rfl
  · intros; rfl
  · intros; rfl
  · intro f r e K X; unfold aCons; rw [Wp.bind]; congr 1; funext d e; rw [Wp.bind]; rfl
  · intro g as r e K X; unfold primM; rw [Wp.bind]; congr 1; funext ds e; unfold pK; cases g ds <;> rfl
  · intro F as r e K X; unfold callM; rw [Wp.bind]; congr 1; funext ds e; cases F ds <;> rfl
  · intro r e K X; unfold lstM; rw [Wp.bind]; congr 1; funext ds e; by_cases h : ds.length ≤ lim <;> simp [h, Wp]
  · intro r e K X; unfold tupM; rw [Wp.bind]; congr 1; funext ds e; by_cases h : ds.length ≤ lim <;> simp [h, Wp]
  · intro i fe fi e K X; unfold setIM; rw [Wp.bind]; congr 1; funext d e; cases e[i]? with
    | none => rfl
    | some l =>
      show Wp ((fi (e.set i .non)).bind _) K X = Wp (fi (e.set i .non)) _ X
      rw [Wp.bind]; congr 1; funext k e; unfold setK
      generalize gSetI [l, k, d] = q
      match q with
      | none => rfl
      | some (_, []) => rfl
      | some (_, l' :: _) => rfl
  · intro src tg body e K X; unfold forM'; rw [Wp.bind]
  · intro f e K X; unfold seqM; rw [Wp.bind]; congr 1; funext d e; cases d <;> rfl
  · intros; rfl
  · intros; rfl
  · intros; rfl
  · intro src own tg c f e K X; unfold lcM; rw [Wp.bind]; congr 1; funext ds e; by_cases h : ds.length ≤ lim
    · simp only [h, if_true, true_and]; rw [Wp.bind]; rfl
    · simp [h, Wp]
  · intro fa fb fc g h e K X; unfold chain3; rw [Wp.bind]; congr 1; funext x e; rw [Wp.bind]; congr 1; funext y e; unfold chK
    cases g [x, y] with
    | none => rfl
    | some d =>
      cases d with
      | bl b =>
        cases b with
        | true =>
          show Wp ((fc e).bind _) K X = if true = true then _ else _
          rw [if_pos rfl, Wp.bind]; congr 1; funext w e; cases h [y, w] <;> rfl
        | false => rfl
      | _ => rfl
  · intros; rfl
  · intro f e K X; unfold oSome; rw [Wp.bind]; congr 1; funext d e; cases d <;> rfl
  · intros; rfl
  · intro f lo hi g e K X; unfold slM; rw [Wp.bind]; congr 1; funext d e; rw [Wp.bind]; congr 1; funext l e; rw [Wp.bind]; congr 1; funext h e; cases g l h d <;> rfl
  · intro T g a0 as fo fr e K X; unfold methM; rw [Wp.bind]; congr 1; funext d0 e; by_cases h : tyD T d0 = true
    · simp only [h, if_true, true_and]; rw [Wp.bind]; congr 1; funext ds e; unfold pK; cases g (d0 :: ds) <;> rfl
    · simp [h, Wp]
/-- what is read, stored -/
theorem wpE :
    (∀ (d : D) (e K), getK (d :: e)[0]? K = K d) ∧ (∀ (d : D) (e : List D) (n K), getK (d :: e)[n + 1]? K = getK e[n]? K) ∧
    (∀ (g : List D → Option D) (as K ds e), pK (ro g) as K ds e = oK (g ds) fun d => K d (backE as ds e)) := by
  refine ⟨fun _ _ _ => rfl, fun _ _ _ _ => rfl, fun g as K ds e => ?_⟩
  unfold pK ro
  cases g ds <;> rfl
theorem wpB : (∀ (os e), backE [] os e = e) ∧ (∀ (as o os e), backE (.sh :: as) (o :: os) e = backE as os e) ∧ (∀ (i k as o os e), backE (.io i k :: as) (o :: os) e = backE as os (e.set i o)) :=
  ⟨fun os _ => by cases os <;> rfl, fun _ _ _ _ => rfl, fun _ _ _ _ _ _ => rfl⟩
theorem gI_of {C : Int → Int → Prop} [DecidableRel C] {f : Int → Int → Int} {a b : Int} {P : D → Prop} {o : Option D} (h : (if C a b then some (D.int (f a b)) else none) = o) : oK o P = (C a b ∧ P (.int (f a b))) := by
  subst h
  by_cases h : C a b
  · rw [if_pos h]; exact propext ⟨fun z => ⟨h, z⟩, fun z => z.2⟩
  · rw [if_neg h]; exact propext ⟨fun z => z.elim, fun z => h z.1⟩
/-- operations on what is known -/
theorem wpO :
    (∀ (a b : Int) P, oK (gAdd [.int a, .int b]) P = P (.int (a + b))) ∧
    (∀ (x y : Str) P, oK (gAdd [.str x, .str y]) P = (x.length + y.length ≤ lim ∧ P (.str (x ++ y)))) ∧
    (∀ (f) (a b : Int) P, oK (gI cAny f [.int a, .int b]) P = P (.int (f a b))) ∧
    (∀ (f) (a b : Int) P, oK (gI cMul f [.int a, .int b]) P = (cMul a b ∧ P (.int (f a b)))) ∧
    (∀ (f) (a b : Int) P, oK (gI cMod f [.int a, .int b]) P = (0 < b ∧ P (.int (f a b)))) ∧
    (∀ (f) (a b : Int) P, oK (gI cDiv f [.int a, .int b]) P = ((0 < b ∧ b < 2 ^ 200) ∧ P (.int (f a b)))) ∧
    (∀ (f) (a b : Int) P, oK (gI cPow f [.int a, .int b]) P = ((0 ≤ b ∧ b ≤ 1000 ∧ a.natAbs < 18446744073709551616) ∧ P (.int (f a b)))) ∧
    (∀ (f) (a b : Int) P, oK (gI cShr f [.int a, .int b]) P = (0 ≤ b ∧ P (.int (f a b)))) ∧
    (∀ (a : Int) P, oK (gNeg [.int a]) P = P (.int (-a))) ∧
    (∀ (f h) (a b : Int) P, oK (gCmp f h [.int a, .int b]) P = P (.bl (f a b))) ∧
    (∀ (f h) (a b : Str) P, oK (gCmp f h [.str a, .str b]) P = P (.bl (h a.cps.toList b.cps.toList))) ∧
    (∀ (xs : List D) P, oK (gLen [.lst xs]) P = P (.int xs.length)) ∧ (∀ (xs : List D) P, oK (gLen [.rol xs]) P = P (.int xs.length)) ∧ (∀ (xs : List D) P, oK (gLen [.tup xs]) P = P (.int xs.length)) ∧
    (∀ (x : Str) P, oK (gLen [.str x]) P = (x.length ≤ lim ∧ P (.int x.length))) ∧
    (∀ (a b : Int) P, oK (gMax [.int a, .int b]) P = P (.int (max a b))) ∧ (∀ (a b : Int) P, oK (gMin [.int a, .int b]) P = P (.int (min a b))) ∧
    (∀ (xs : List D) (i : Int) P, oK (gIx [.lst xs, .int i]) P = oK (atI xs i) P) ∧ (∀ (xs : List D) (i : Int) P, oK (gIx [.rol xs, .int i]) P = oK (atI xs i) P) ∧ (∀ (xs : List D) (i : Int) P, oK (gIx [.tup xs, .int i]) P = oK (atI xs i) P) ∧
    (∀ (z : Str) (i : Int) P, oK (gIx [.str z, .int i]) P = (z.length ≤ lim ∧ oK (atI z.cps.toList i) fun c => P (chD c))) ∧
    (∀ (xs : List D) (i : Int) P, oK (gIxO [.lst xs, .int i]) P = oK (atI xs i) P) ∧
    (∀ (x n) P, oK (gIsi1 [x, .ty n]) P = (isiTs.contains n = true ∧ oK (typN x) fun t => P (.bl (isiB t n)))) ∧
    (∀ (x y) P, oK (gEq [x, y]) P = oK (eqD x y) fun b => P (.bl b)) ∧ (∀ (x y) P, oK (gNe [x, y]) P = oK (eqD x y) fun b => P (.bl (!b))) ∧
    (∀ (x y) P, oK (gIn [x, y]) P = oK (inD x y) fun b => P (.bl b)) ∧ (∀ (x y) P, oK (gNotIn [x, y]) P = oK (inD x y) fun b => P (.bl (!b))) ∧
    (∀ {α : Type} (x : α) P, oK (some x) P = P x) := by
  refine ⟨?_, ?_, ?_, ?_, ?_, ?_, ?_, ?_, ?_, ?_, ?_, ?_, ?_, ?_, ?_, ?_, ?_, ?_, ?_, ?_, ?_, ?_, ?_, ?_, ?_, ?_, ?_, ?_⟩ <;> intros <;> try rfl
  · rename_i x y P; unfold gAdd; by_cases h : x.length + y.length ≤ lim <;> simp [h, oK]
  · rename_i f a b P; unfold gI; by_cases h : cMul a b <;> simp [h, oK]
  · rename_i f a b P; unfold gI; by_cases h : 0 < b <;> simp [h, oK, cMod]
  · rename_i f a b P; exact gI_of (show (if cDiv a b then some (D.int (f a b)) else none) = gI cDiv f [.int a, .int b] from rfl)
  · rename_i f a b P; exact gI_of (show (if cPow a b then some (D.int (f a b)) else none) = gI cPow f [.int a, .int b] from rfl)
  · rename_i f a b P; unfold gI; by_cases h : 0 ≤ b <;> simp [h, oK, cShr]
  · rename_i x P; unfold gLen; by_cases h : x.length ≤ lim <;> simp [h, oK]
  · rename_i a b P
    show P (.int (if b > a then b else a)) = _
    have : (if b > a then b else a) = max a b := by split <;> omega
    rw [this]
  · rename_i a b P
    show P (.int (if b < a then b else a)) = _
    have : (if b < a then b else a) = min a b := by split <;> omega
    rw [this]
  · rename_i z i P; unfold gIx; by_cases h : z.length ≤ lim
    · simp only [h, if_true, true_and]; cases atI z.cps.toList i <;> rfl
    · simp [h, oK]
  · rename_i x n P; unfold gIsi1; by_cases h : isiTs.contains n = true
    · simp only [h, if_true, true_and]; cases typN x <;> rfl
    · show oK (if isiTs.contains n = true then _ else none) P = _
      rw [if_neg h]; exact propext ⟨fun z => z.elim, fun z => h z.1⟩
  · rename_i x y P; show oK ((eqD x y).map D.bl) P = _; cases eqD x y <;> rfl
  · rename_i x y P; show oK ((eqD x y).map fun b => D.bl (!b)) P = _; cases eqD x y <;> rfl
  · rename_i x y P; show oK ((inD x y).map D.bl) P = _; cases inD x y <;> rfl
  · rename_i x y P; show oK ((inD x y).map fun b => D.bl (!b)) P = _; cases inD x y <;> rfl
/-- a def's answer -/
def rtK (m : Nat) (K : D → List D → Prop) (fl : Fl) (e : List D) : Prop := match fl with
  | .rt d => K d (e.take m)
  | .nx => K .non (e.take m)
  | _ => False
theorem wpF : (∀ (m n b ds K X), Wp (runF m n b ds) K X = Wp (b (ds ++ List.replicate n .non)) (rtK m K) fun c fs e => X c fs (e.take m)) ∧ (∀ (m K d e), rtK m K (.rt d) e = K d (e.take m)) ∧ (∀ (m K e), rtK m K .nx e = K .non (e.take m)) := by
  refine ⟨fun m n b ds K X => ?_, fun _ _ _ _ => rfl, fun _ _ _ => rfl⟩
  unfold runF
  cases b (ds ++ List.replicate n .non) with
  | ok fl e => cases fl <;> rfl
  | ex c fs e => rfl
  | stuck => rfl
theorem of_wp {α} {o : Out α} {d : α} (h : Wp o (fun a _ => a = d) (fun _ _ _ => False)) : ∃ e, o = .ok d e := by
  cases o with
  | ok a e => exact ⟨e, by rw [show a = d from h]⟩
  | ex c fs e => exact h.elim
  | stuck => exact h.elim

theorem for_inv {tg : D → List D → Option (List D)} {body : M Fl} {K : Fl → List D → Prop} {X : KX} (I : Nat → List D → Prop) {items : List D} {e : List D} (h0 : I 0 e)
    (step : ∀ i x e, items[i]? = some x → I i e → oK (tg x e) fun e => Wp (body e) (fun fl e => match fl with | .nx => I (i + 1) e | .ct => I (i + 1) e | .bk => K .nx e | .rt d => K (.rt d) e) X)
    (fin : ∀ e, I items.length e → K .nx e) : Wp (forGo tg body items e) K X := by
  have go : ∀ (l : List D) (n : Nat) (e : List D), (∀ i x, l[i]? = some x → items[n + i]? = some x) → n + l.length = items.length → I n e → Wp (forGo tg body l e) K X := by
    intro l
    induction l with
    | nil => intro n e _ hl hI; exact fin e (by rw [← hl]; exact hI)
    | cons x l ih =>
      intro n e hx hl hI
      have s := step n x e (hx 0 x rfl) hI
      unfold forGo
      cases et : tg x e with
      | none => rw [et] at s; exact s.elim
      | some e1 =>
        rw [et] at s
        show Wp ((body e1).bind _) K X
        rw [Wp.bind]
        refine Wp.mono s (fun fl e2 z => ?_) fun _ _ _ z => z
        have nx : I (n + 1) e2 → Wp (forGo tg body l e2) K X := fun z => ih (n + 1) e2 (fun i y q => by have := hx (i + 1) y (by simpa using q); rwa [Nat.add_assoc, Nat.add_comm 1 i]) (by simp at hl; omega) z
        cases fl with
        | nx => exact nx z
        | ct => exact nx z
        | bk => exact z
        | rt d => exact z
  exact go items 0 e (fun i x q => by simpa using q) (by simp) h0
theorem noEx_wp {α β} {o : Out α} {F : α → List D → Out β} {K : β → List D → Prop} {X : KX} (h : Wp o (fun a e => Wp (F a e) K X) fun _ _ _ => False) : Wp (o.noEx.bind F) K X := by
  cases o with
  | ok a e => exact h
  | ex c fs e => exact h.elim
  | stuck => exact h.elim
/-- a comprehension: acc what is made so far -/
theorem lc_inv {own : List Nat} {tg : D → List D → Option (List D)} {c : M Bool} {f : M D} {K : List D → List D → Prop} {X : KX} (I : Nat → List D → List D → Prop) {items : List D} {e : List D} (h0 : I 0 [] e)
    (step : ∀ i x acc e, items[i]? = some x → I i acc e → oK (tg x e) fun e => Wp (c e) (fun b e => if b = true then Wp (f e) (fun d e => I (i + 1) (acc ++ [d]) (wipeE e own)) (fun _ _ _ => False) else I (i + 1) acc (wipeE e own)) fun _ _ _ => False)
    (fin : ∀ acc e, I items.length acc e → K acc e) : Wp (lcGo own tg c f items e) K X := by
  have go : ∀ (l : List D) (n : Nat) (acc e : List D), (∀ i x, l[i]? = some x → items[n + i]? = some x) → n + l.length = items.length → I n acc e → Wp (lcGo own tg c f l e) (fun ds e => K (acc ++ ds) e) X := by
    intro l
    induction l with
    | nil => intro n acc e _ hl hI; exact fin _ e (by rw [List.append_nil, ← hl]; exact hI)
    | cons x l ih =>
      intro n acc e hx hl hI
      have s := step n x acc e (hx 0 x rfl) hI
      unfold lcGo
      cases et : tg x e with
      | none => rw [et] at s; exact s.elim
      | some e1 =>
        rw [et] at s
        show Wp ((c e1).noEx.bind _) _ X
        refine noEx_wp (Wp.mono s (fun b e2 z => ?_) fun _ _ _ z => z)
        have nx : ∀ acc e, I (n + 1) acc e → Wp (lcGo own tg c f l e) (fun ds e => K (acc ++ ds) e) X := fun acc e z => ih (n + 1) acc e (fun i y q => by have := hx (i + 1) y (by simpa using q); rwa [Nat.add_assoc, Nat.add_comm 1 i]) (by simp at hl; omega) z
        cases b with
        | false => exact nx acc _ z
        | true =>
          refine noEx_wp (Wp.mono (show Wp (f e2) _ _ from z) (fun d e3 z => ?_) fun _ _ _ z => z)
          rw [Wp.bind]
          refine Wp.mono (nx (acc ++ [d]) _ z) (fun ds e4 z => ?_) fun _ _ _ z => z
          show K (acc ++ d :: ds) e4
          simpa using z
  have := go items 0 [] e (fun i x q => by simpa using q) (by simp) h0
  simpa using this
end Rm
namespace Rm
open PySem PySem.Spec L2
open SX (S join_S S_cat S_tl S_len)

def takeB : M Fl :=
 sCons (ifM (asB (primM (ro gGt) [.sh, .sh] (aCons (primM (ro gIxO) [.io 0 0, .sh] (aCons (vr 0) (aCons (cn (.int 0)) (aNil)))) (aCons (cn (.int 0)) (aNil)))))
 (sCons (sAsg (primM (ro (gI cMod fun i j => i % j)) [.sh, .sh] (aCons (primM (ro gIxO) [.io 0 0, .sh] (aCons (vr 0) (aCons (cn (.int 0)) (aNil)))) (aCons (vr 1) (aNil)))) (tName 2))
 (sCons (setIM 0 (primM (ro (gI cDiv fun i j => i / j)) [.sh, .sh] (aCons (primM (ro gIxO) [.io 0 0, .sh] (aCons (vr 0) (aCons (cn (.int 0)) (aNil)))) (aCons (vr 1) (aNil)))) (cn (.int 0)))
 (sCons (sRet (vr 2))
 (sNil))))
 (sNil))
 (sCons (setIM 0 (primM (ro gAdd) [.sh, .sh] (aCons (primM (ro gIxO) [.io 0 0, .sh] (aCons (vr 0) (aCons (cn (.int 2)) (aNil)))) (aCons (cn (.int 1)) (aNil)))) (cn (.int 2)))
 (sCons (sAsg (primM (ro gIxO) [.io 0 0, .sh] (aCons (vr 0) (aCons (cn (.int 2)) (aNil)))) (tName 3))
 (sCons (sAsg (primM (ro (gI cMod fun i j => i % j)) [.sh, .sh] (aCons (primM (ro gAdd) [.sh, .sh] (aCons (primM (ro gAdd) [.sh, .sh] (aCons (primM (ro gIxO) [.io 0 0, .sh] (aCons (vr 0) (aCons (cn (.int 1)) (aNil)))) (aCons (primM (ro (gI cMul fun i j => i * j)) [.sh, .sh] (aCons (primM (ro (gI cMul fun i j => i * j)) [.sh, .sh] (aCons (cn (.int 7919)) (aCons (vr 3) (aNil)))) (aCons (vr 3) (aNil)))) (aNil)))) (aCons (primM (ro (gI cMul fun i j => i * j)) [.sh, .sh] (aCons (cn (.int 104729)) (aCons (vr 3) (aNil)))) (aNil)))) (aCons (cn (.int 2147483647)) (aNil)))) (tName 4))
 (sCons (sAsg (primM (ro (gI cMod fun i j => i % j)) [.sh, .sh] (aCons (primM (ro (gI cPow fun i j => i ^ j.toNat)) [.sh, .sh] (aCons (vr 4) (aCons (cn (.int 5)) (aNil)))) (aCons (cn (.int 2147483647)) (aNil)))) (tName 4))
 (sCons (sRet (primM (ro (gI cMod fun i j => i % j)) [.sh, .sh] (aCons (primM (ro (gI cDiv fun i j => i / j)) [.sh, .sh] (aCons (primM (ro (gI cMod fun i j => i % j)) [.sh, .sh] (aCons (primM (ro gAdd) [.sh, .sh] (aCons (primM (ro (gI cMul fun i j => i * j)) [.sh, .sh] (aCons (vr 4) (aCons (vr 4) (aNil)))) (aCons (primM (ro (gI cMul fun i j => i * j)) [.sh, .sh] (aCons (cn (.int 31)) (aCons (vr 3) (aNil)))) (aNil)))) (aCons (cn (.int 2147483629)) (aNil)))) (aCons (cn (.int 8)) (aNil)))) (aCons (vr 1) (aNil)))))
 (sNil))))))
def boxB : M Fl :=
 sCons (sRet (lstM (aCons (primM (ro gMax) [.sh, .sh] (aCons (cn (.int 0)) (aCons (primM (ro (gI cAny fun i j => i - j)) [.sh, .sh] (aCons (vr 0) (aCons (primM (ro (gI cPow fun i j => i ^ j.toNat)) [.sh, .sh] (aCons (cn (.int 10)) (aCons (cn (.int 18)) (aNil)))) (aNil)))) (aNil)))) (aCons (primM (ro (gI cMod fun i j => i % j)) [.sh, .sh] (aCons (vr 0) (aCons (cn (.int 2147483629)) (aNil)))) (aCons (cn (.int 0)) (aNil))))))
 (sNil)
def cellB : M Fl :=
 sCons (ifM (asB (primM (ro gLt) [.sh, .sh] (aCons (vr 1) (aCons (primM (ro gLen) [.sh] (aCons (vr 0) (aNil))) (aNil)))))
 (sCons (sRet (primM (ro gIx) [.sh, .sh] (aCons (vr 0) (aCons (vr 1) (aNil)))))
 (sNil))
 (sNil))
 (sCons (sRet (primM (ro gAdd) [.sh, .sh] (aCons (primM (ro (gI cMul fun i j => i * j)) [.sh, .sh] (aCons (cn (.int 104729)) (aCons (vr 1) (aNil)))) (aCons (cn (.int 71)) (aNil)))))
 (sNil))

/-- a box: three numbers, the third counts -/
def Bx3 (n : Nat) (d : D) : Prop := ∃ a b c : Int, d = .lst [.int a, .int b, .int c] ∧ 0 ≤ a ∧ 0 ≤ b ∧ b < 2147483629 ∧ 0 ≤ c ∧ c ≤ n
theorem Bx3.mono {n m d} (h : Bx3 n d) (l : n ≤ m) : Bx3 m d := by
  obtain ⟨a, b, c, e, h1, h2, h3, h4, h5⟩ := h
  exact ⟨a, b, c, e, h1, h2, h3, h4, by omega⟩
def r1K (K : List D → List D → Prop) (ds e : List D) : Prop := oK (int1 ds) fun j => (-(lim : Int) ≤ j ∧ j ≤ lim) ∧ K (rngD 0 j.toNat) e
def r2K (K : List D → List D → Prop) (ds e : List D) : Prop := oK (int2 ds) fun p => ((-(lim : Int) ≤ p.1 ∧ p.1 ≤ lim) ∧ -(lim : Int) ≤ p.2 ∧ p.2 ≤ lim) ∧ K (rngD p.1 (p.2 - p.1).toNat) e
def strK (K : List D → List D → Prop) (d : D) (e : List D) : Prop := match d with | .str x => K (x.cps.toList.map chD) e | _ => False
theorem wpR :
    (∀ (f e K X), Wp (rng1M f e) K X = Wp (f e) (r1K K) X) ∧ (∀ (f e K X), Wp (rng2M f e) K X = Wp (f e) (r2K K) X) ∧
    (∀ K j e, r1K K [.int j] e = ((-(lim : Int) ≤ j ∧ j ≤ lim) ∧ K (rngD 0 j.toNat) e)) ∧
    (∀ K i j e, r2K K [.int i, .int j] e = (((-(lim : Int) ≤ i ∧ i ≤ lim) ∧ -(lim : Int) ≤ j ∧ j ≤ lim) ∧ K (rngD i (j - i).toNat) e)) ∧
    (∀ (f e K X), Wp (strM f e) K X = Wp (f e) (strK K) X) ∧ (∀ K x e, strK K (.str x) e = K (x.cps.toList.map chD) e) ∧
    (∀ (e K X), Wp (yes e) K X = K true e) ∧
    (∀ (i x e P), oK (tName i x e) P = P (e.set i x)) ∧
    (∀ (n g ds e P), oK (tN n g (.tup ds) e) P = (ds.length = n ∧ oK (g ds e) P)) ∧
    (∀ (g h d ds e P), oK (tsCons g h (d :: ds) e) P = oK (g d e) fun e => oK (h ds e) P) ∧ (∀ (e P), oK (tsNil [] e) P = P e) ∧
    (∀ (lo hi z P), oK (gSlS lo hi (.str z)) P = (z.length ≤ lim ∧ P (.str (cutS z lo hi)))) ∧
    (∀ (a b : Int) P, oK (eqD (.int a) (.int b)) P = P (decide (a = b))) ∧ (∀ (a b : Bool) P, oK (eqD (.bl a) (.bl b)) P = P (a == b)) := by
  refine ⟨?_, ?_, ?_, ?_, ?_, ?_, ?_, ?_, ?_, ?_, ?_, ?_, ?_, ?_⟩
  · intro f e K X; unfold rng1M; rw [Wp.bind]; congr 1; funext ds e; unfold r1K
    cases int1 ds with
    | none => rfl
    | some j => show Wp (if _ then _ else _) K X = _; by_cases h : -(lim : Int) ≤ j ∧ j ≤ lim
                · rw [if_pos h]; exact propext ⟨fun z => ⟨h, z⟩, fun z => z.2⟩
                · rw [if_neg h]; exact propext ⟨fun z => z.elim, fun z => h z.1⟩
  · intro f e K X; unfold rng2M; rw [Wp.bind]; congr 1; funext ds e; unfold r2K
    cases int2 ds with
    | none => rfl
    | some p => show Wp (if _ then _ else _) K X = _; by_cases h : (-(lim : Int) ≤ p.1 ∧ p.1 ≤ lim) ∧ -(lim : Int) ≤ p.2 ∧ p.2 ≤ lim
                · rw [if_pos h]; exact propext ⟨fun z => ⟨h, z⟩, fun z => z.2⟩
                · rw [if_neg h]; exact propext ⟨fun z => z.elim, fun z => h z.1⟩
  · intros; rfl
  · intros; rfl
  · intro f e K X; unfold strM; rw [Wp.bind]; congr 1; funext d e; cases d <;> rfl
  · intros; rfl
  · intros; rfl
  · intros; rfl
  · intro n g ds e P; show oK (if ds.length = n then _ else none) P = _; by_cases h : ds.length = n
    · rw [if_pos h]; exact propext ⟨fun z => ⟨h, z⟩, fun z => z.2⟩
    · rw [if_neg h]; exact propext ⟨fun z => z.elim, fun z => h z.1⟩
  · intro g h d ds e P; show oK ((g d e).bind fun e => h ds e) P = _; cases g d e <;> rfl
  · intros; rfl
  · intro lo hi z P; show oK (if _ then _ else none) P = _; by_cases h : z.length ≤ lim
    · rw [if_pos h]; exact propext ⟨fun z => ⟨h, z⟩, fun z => z.2⟩
    · rw [if_neg h]; exact propext ⟨fun z => z.elim, fun z => h z.1⟩
  · intro a b P
    have : eqD (.int a) (.int b) = some (decide (a = b)) := by
      show (if SeqAt.shaped (.int a) = true ∧ SeqAt.shaped (.int b) = true then some (PyData.eqv (.int a) (.int b)) else none) = _
      rw [if_pos ⟨rfl, rfl⟩]
      show some (a == b) = some (decide (a = b))
      rfl
    rw [this]; rfl
  · intro a b P
    have : eqD (.bl a) (.bl b) = some (a == b) := by
      show (if SeqAt.shaped (.bool a) = true ∧ SeqAt.shaped (.bool b) = true then some (PyData.eqv (.bool a) (.bool b)) else none) = _
      rw [if_pos ⟨rfl, rfl⟩]
      rfl
    rw [this]; rfl
theorem wpD : (∀ (fk fv : M D) (e K X), Wp (dict1M fk fv e) K X = Wp (fk e) (fun k e => Wp (fv e) (fun v e => oK (keyD k) fun kk => K (.dK [(kk, v)]) e) X) X) ∧ (∀ x P, oK (keyD (.str x)) P = P (.inr x)) ∧ (∀ x P, oK (keyD (.int x)) P = P (.inl x)) := by
  refine ⟨fun fk fv e K X => ?_, fun _ _ => rfl, fun _ _ => rfl⟩
  unfold dict1M; rw [Wp.bind]; congr 1; funext k e; rw [Wp.bind]; congr 1; funext v e; cases keyD k <;> rfl
theorem wpC : (∀ f h g fc K X (a b : Int) e, chK (gCmp f h) g fc K X (.int a) (.int b) e = if f a b = true then Wp (fc e) (fun w e => oK (g [.int b, w]) fun d => K d e) X else K (.bl false) e) ∧
    (∀ f h g fc K X (a b : Str) e, chK (gCmp f h) g fc K X (.str a) (.str b) e = if h a.cps.toList b.cps.toList = true then Wp (fc e) (fun w e => oK (g [.str b, w]) fun d => K d e) X else K (.bl false) e) := ⟨fun _ _ _ _ _ _ _ _ _ => rfl, fun _ _ _ _ _ _ _ _ _ => rfl⟩
theorem wpT : typN .non = some "NoneType" ∧ (∀ b, typN (.bl b) = some "bool") ∧ (∀ b, typN (.int b) = some "int") ∧ (∀ b, typN (.str b) = some "str") ∧ (∀ b, typN (.lst b) = some "list") ∧ (∀ b, typN (.rol b) = some "list") ∧ (∀ b, typN (.tup b) = some "tuple") ∧ (∀ b, typN (.dK b) = some "dict") ∧
    isiTs.contains "str" = true ∧ isiTs.contains "int" = true ∧ isiTs.contains "bool" = true ∧ isiTs.contains "list" = true ∧ isiTs.contains "tuple" = true ∧ isiTs.contains "dict" = true ∧
    isiB "str" "str" = true ∧ isiB "str" "int" = false ∧ isiB "str" "bool" = false ∧ isiB "int" "int" = true ∧ isiB "int" "str" = false ∧ isiB "int" "bool" = false ∧ isiB "bool" "bool" = true ∧ isiB "bool" "int" = true ∧ isiB "bool" "str" = false := by
  refine ⟨rfl, fun _ => rfl, fun _ => rfl, fun _ => rfl, fun _ => rfl, fun _ => rfl, fun _ => rfl, fun _ => rfl, ?_⟩
  decide
theorem isiB_ne {t n : String} (h : t ≠ n) (h2 : t ≠ "bool" ∨ n ≠ "int") : isiB t n = false := by
  unfold isiB
  rcases h2 with h2 | h2 <;> simp [h, h2]
theorem wpJ : (∀ (a ds P), oK (gJoin [.str a, .lst ds]) P = oK (strsOf ds) fun ys => (ys.map (·.length)).sum + ys.length * a.length ≤ lim ∧ P (.str (Txt.join a ys))) := by
  intro a ds P; show oK (match strsOf ds with | some ys => _ | none => none) P = _; cases strsOf ds with
    | none => rfl
    | some ys => show oK (if _ then _ else none) P = _; by_cases h : (ys.map (·.length)).sum + ys.length * a.length ≤ lim
                 · rw [if_pos h]; exact propext ⟨fun z => ⟨h, z⟩, fun z => z.2⟩
                 · rw [if_neg h]; exact propext ⟨fun z => z.elim, fun z => h z.1⟩
theorem wpA : (∀ (x : D) xs P, oK (atI (x :: xs) 0) P = P x) ∧ (∀ (x y : D) xs P, oK (atI (x :: y :: xs) 1) P = P y) ∧ (∀ (x y z : D) xs P, oK (atI (x :: y :: z :: xs) 2) P = P z) := by
  refine ⟨fun x xs P => ?_, fun x y xs P => ?_, fun x y z xs P => ?_⟩
  · have : atI (x :: xs) 0 = some x := by simp [atI, ixN]
    rw [this]; rfl
  · have : atI (x :: y :: xs) 1 = some y := by simp [atI, ixN]; rw [if_pos (by omega)]; rfl
    rw [this]; rfl
  · have : atI (x :: y :: z :: xs) 2 = some z := by simp [atI, ixN]; rw [if_pos (by omega)]; rfl
    rw [this]; rfl
theorem wpI : (∀ (i K) (x y z d : D) e, setK i K (.lst [x, y, z]) (.int 0) d e = K .nx (e.set i (.lst [d, y, z]))) ∧ (∀ (i K) (x y z d : D) e, setK i K (.lst [x, y, z]) (.int 1) d e = K .nx (e.set i (.lst [x, d, z]))) ∧ (∀ (i K) (x y z d : D) e, setK i K (.lst [x, y, z]) (.int 2) d e = K .nx (e.set i (.lst [x, y, d]))) :=
  ⟨fun _ _ _ _ _ _ _ => rfl, fun _ _ _ _ _ _ _ => rfl, fun _ _ _ _ _ _ _ => rfl⟩
theorem take_wp {n : Nat} {d : D} {m : Int} {K X} (h : Bx3 n d) (hn : n < 2 ^ 50) (h0 : 0 < m) (h1 : m < 2 ^ 200) (k : ∀ v d', 0 ≤ v → v < m → Bx3 (n + 1) d' → K (.int v) [d', .int m]) : Wp (runF 2 3 takeB [d, .int m]) K X := by
  obtain ⟨a, b, c, rfl, ha, hb, hb2, hc, hcn⟩ := h
  have hn' : (n : Int) < 2 ^ 50 := by exact_mod_cast hn
  simp only [↓wpF, takeB, List.replicate, List.cons_append, List.nil_append, ↓wpS, ↓wpE, wpB, List.set_cons_zero, List.set_cons_succ, ↓wpO, wpA, ↓wpI, decide_eq_true_eq, List.take_succ_cons, List.take_zero]
  by_cases hp : 0 < a
  · rw [if_pos hp]
    exact ⟨h0, ⟨h0, h1⟩, k _ _ (Int.emod_nonneg _ (by omega)) (Int.emod_lt_of_pos _ h0) ⟨a / m, b, c, rfl, Int.ediv_nonneg (by omega) (by omega), hb, hb2, hc, by omega⟩⟩
  · rw [if_neg hp]
    generalize (b + 7919 * (c + 1) * (c + 1) + 104729 * (c + 1)) = q
    have q1 := Int.emod_nonneg q (show (2147483647 : Int) ≠ 0 by decide)
    have q2 := Int.emod_lt_of_pos q (show (0 : Int) < 2147483647 by decide)
    generalize q % 2147483647 = q0 at q1 q2
    generalize q0 ^ Int.toNat 5 = p
    have p1 := Int.emod_nonneg p (show (2147483647 : Int) ≠ 0 by decide)
    have p2 := Int.emod_lt_of_pos p (show (0 : Int) < 2147483647 by decide)
    generalize p % 2147483647 = p0 at p1 p2
    refine ⟨.inl (by decide), .inr (by omega), .inl (by decide), by decide, ⟨by decide, by decide, by omega⟩, by decide, .inl (by omega), .inl (by decide), by decide, by decide, h0, k _ _ (Int.emod_nonneg _ (by omega)) (Int.emod_lt_of_pos _ h0) ⟨a, b, c + 1, rfl, ha, hb, hb2, by omega, by omega⟩⟩
theorem rngD_len {lo n} : (rngD lo n).length = n := by unfold rngD; simp
theorem rngD_get {lo n i x} (h : (rngD lo n)[i]? = some x) : i < n ∧ x = .int (lo + i) := by
  unfold rngD at h
  rw [List.getElem?_map] at h
  by_cases hi : i < n
  · rw [List.getElem?_range hi] at h
    cases h
    exact ⟨hi, rfl⟩
  · rw [List.getElem?_eq_none (by simpa using hi)] at h
    cases h
theorem strsOf_ch : ∀ cs : List Nat, strsOf (cs.map chD) = some (cs.map fun c => S [c])
  | [] => rfl
  | c :: cs => by
    show (strsOf (cs.map chD)).map _ = _
    rw [strsOf_ch cs]
    rfl
theorem joinL_one : ∀ cs : List Nat, TL.joinL [] (cs.map fun c => [c]) = cs
  | [] => rfl
  | [_] => rfl
  | c :: d :: r => by
    show [c] ++ ([] ++ TL.joinL [] ((d :: r).map fun c => [c])) = _
    rw [joinL_one (d :: r)]
    rfl
theorem join_ch (cs : List Nat) : Txt.join (S []) (cs.map fun c => S [c]) = S cs := by
  have := join_S [] (cs.map fun c => [c])
  rw [List.map_map, joinL_one] at this
  exact this
theorem ones_sum : ∀ cs : List Nat, ((cs.map fun c => S [c]).map (·.length)).sum = cs.length
  | [] => rfl
  | c :: cs => by
    simp only [List.map_cons, List.sum_cons, List.length_cons]
    rw [ones_sum cs, S_len]
    simp [Nat.add_comm]
theorem join_wp {cs : List Nat} {P : D → Prop} (h : cs.length ≤ lim) (p : P (.str (S cs))) : oK (gJoin [.str (Str.ofString ""), .lst (cs.map chD)]) P := by
  rw [wpJ, strsOf_ch]
  show _ ∧ P (.str (Txt.join (Str.ofString "") (cs.map fun c => S [c])))
  have jn : Txt.join (Str.ofString "") (cs.map fun c => S [c]) = S cs := join_ch cs
  rw [jn, ones_sum]
  have z : (Str.ofString "").length = 0 := rfl
  rw [z, List.length_map]
  exact ⟨by simpa using h, p⟩
theorem cut_S {z : Str} : z.length ≤ n → (cutS z lo hi).length ≤ n := fun h => Nat.le_trans (cutS_length z lo hi) h
theorem cat_len (x y : Str) : (x ++ y).length = x.length + y.length := by
  have := S_cat x.cps.toList y.cps.toList
  have e : x ++ y = S (x.cps.toList ++ y.cps.toList) := this
  rw [e, S_len, List.length_append]
  rfl
/-- a text of plain signs -/
def Pl (s : Str) : Prop := ∀ c ∈ s.cps.toList, c < 128
theorem Pl.cat {x y : Str} (h : Pl x) (h' : Pl y) : Pl (x ++ y) := by
  have e : x ++ y = S (x.cps.toList ++ y.cps.toList) := S_cat x.cps.toList y.cps.toList
  intro c m
  rw [e] at m
  rcases List.mem_append.mp m with m | m
  · exact h c m
  · exact h' c m
theorem Pl.cut {z : Str} (h : Pl z) (lo hi) : Pl (cutS z lo hi) := fun c m => h c (List.mem_of_mem_drop (List.mem_of_mem_take m))
theorem Pl.ok {s : Str} (h : Pl s) : PyData.canLay0 (.str s) = true := by
  simp only [PyData.canLay0]
  unfold PyData.strOk
  rw [Array.all_eq_true']
  intro c m
  have := h c (by simpa using m)
  simp only [decide_eq_true_eq]
  omega
theorem toPs_ch : ∀ cs : List Nat, toPs (cs.map chD) = some (cs.map fun c => PyData.str (S [c]))
  | [] => by simp only [List.map_nil, toPs]
  | c :: cs => by
    simp only [List.map_cons, toPs, toPs_ch cs, chD, toP]
theorem shaped_ch {cs : List Nat} (h : ∀ c ∈ cs, c < 128) : SeqAt.shaped (.list (cs.map fun c => PyData.str (S [c]))) = true := by
  have a : PyData.canLayAll0 (cs.map fun c => PyData.str (S [c])) = true := by
    induction cs with
    | nil => simp only [List.map_nil, PyData.canLayAll0]
    | cons c cs ih =>
      simp only [List.map_cons, PyData.canLayAll0, Bool.and_eq_true]
      exact ⟨Pl.ok (s := S [c]) fun d m => by
        have : d = c := by simpa using m
        exact this ▸ h c (by simp), ih fun d m => h d (by simp [m])⟩
  have b : PyData.depthAll (cs.map fun c => PyData.str (S [c])) = 0 := by
    clear h a
    induction cs with
    | nil => simp only [List.map_nil, PyData.depthAll]
    | cons c cs ih => simp only [List.map_cons, PyData.depthAll, PyData.depth, ih]; rfl
  unfold SeqAt.shaped
  simp only [PyData.canLay0, PyData.depth, a, b]
  decide
theorem eqD_ch0 {cs : List Nat} (h : ∀ c ∈ cs, c < 128) {P} (p : P cs.isEmpty) : oK (eqD (.lst (cs.map chD)) (.lst [])) P := by
  have : eqD (.lst (cs.map chD)) (.lst []) = some cs.isEmpty := by
    unfold eqD
    simp only [toP, toPs_ch, toPs, Option.map]
    rw [if_pos ⟨shaped_ch h, rfl⟩]
    cases cs <;> simp only [List.map_nil, List.map_cons, PyData.eqv, PyData.eqvAll, List.isEmpty]
  rw [this]
  exact p
theorem box_wp {x : Int} {K X} (k : ∀ d', Bx3 0 d' → K d' [.int x]) : Wp (runF 1 0 boxB [.int x]) K X := by
  simp only [↓wpF, boxB, List.replicate, List.cons_append, List.nil_append, ↓wpS, ↓wpE, wpB, List.set_cons_zero, List.set_cons_succ, ↓wpO, wpA, ↓wpI, decide_eq_true_eq, List.take_succ_cons, List.take_zero]
  have b1 := Int.emod_nonneg x (show (2147483629 : Int) ≠ 0 by decide)
  have b2 := Int.emod_lt_of_pos x (show (0 : Int) < 2147483629 by decide)
  exact ⟨⟨by decide, by decide, by decide⟩, by decide, Nat.le_of_ble_eq_true rfl, k _ ⟨_, _, _, rfl, by omega, b1, b2, by decide, by decide⟩⟩
theorem atI_lt {α} {xs : List α} {i : Nat} (h : i < xs.length) (P : α → Prop) : oK (atI xs (i : Int)) P = P xs[i] := by
  have : atI xs (i : Int) = some xs[i] := by
    unfold atI ixN
    rw [if_pos (by omega), if_pos (by omega)]
    simp [h]
  rw [this]; rfl
theorem cell_wp {ns : List Int} {i : Nat} {K X} (hi : i < 2 ^ 40) (k : ∀ x : Int, K (.int x) [scr ns, .int i]) : Wp (runF 2 0 cellB [scr ns, .int i]) K X := by
  unfold scr at k ⊢
  simp only [↓wpF, cellB, List.replicate, List.cons_append, List.nil_append, ↓wpS, ↓wpE, wpB, List.set_cons_zero, List.set_cons_succ, ↓wpO, ↓wpI, decide_eq_true_eq, List.take_succ_cons, List.take_zero, List.append_nil]
  by_cases h : i < ns.length
  · rw [if_pos (by simpa using h), atI_lt (by simpa using h)]
    simpa using k _
  · rw [if_neg (by simpa using h)]
    exact ⟨.inl (by decide), k _⟩
end Rm
namespace K01
open PySem PySem.Spec L2 Rm
def b_is_whole : M Fl :=
 sCons (sRet (bD (andB (asB (primM (ro gIsi1) [.sh, .sh] (aCons (vr 0) (aCons (cn (.ty "int")) (aNil))))) (andB (notB (asB (primM (ro gIsi1) [.sh, .sh] (aCons (vr 0) (aCons (cn (.ty "bool")) (aNil)))))) (asB (chain3 (vr 1) (vr 0) (vr 2) gLe gLe))))))
 (sNil)
def F_is_whole : List D → Out D := runF 3 0 b_is_whole
def b_is_name : M Fl :=
 sCons (ifM (orB (notB (asB (primM (ro gIsi1) [.sh, .sh] (aCons (vr 0) (aCons (cn (.ty "str")) (aNil)))))) (notB (asB (chain3 (cn (.int 1)) (primM (ro gLen) [.sh] (aCons (vr 0) (aNil))) (cn (.int 6)) gLe gLe))))
 (sCons (sRet (cn (.bl false)))
 (sNil))
 (sNil))
 (sCons (sRet (primM (ro gEq) [.sh, .sh] (aCons (lcM (strM (vr 0)) [1] (tName 1) (asB (primM (ro gNotIn) [.sh, .sh] (aCons (vr 1) (aCons (cn (.str ("abcdefghijklmnopqrstuvwxyz" : Str))) (aNil))))) (vr 1)) (aCons (lstM (aNil)) (aNil)))))
 (sNil))
def F_is_name : List D → Out D := runF 1 1 b_is_name
def b_l_cell : M Fl :=
 sCons (ifM (asB (primM (ro gLt) [.sh, .sh] (aCons (vr 1) (aCons (primM (ro gLen) [.sh] (aCons (vr 0) (aNil))) (aNil)))))
 (sCons (sRet (primM (ro gIx) [.sh, .sh] (aCons (vr 0) (aCons (vr 1) (aNil)))))
 (sNil))
 (sNil))
 (sCons (sRet (primM (ro gAdd) [.sh, .sh] (aCons (primM (ro (gI cMul fun i j => i * j)) [.sh, .sh] (aCons (cn (.int 104729)) (aCons (vr 1) (aNil)))) (aCons (cn (.int 71)) (aNil)))))
 (sNil))
def F_l_cell : List D → Out D := runF 2 0 b_l_cell
def b_l_box : M Fl :=
 sCons (sRet (lstM (aCons (primM (ro gMax) [.sh, .sh] (aCons (cn (.int 0)) (aCons (primM (ro (gI cAny fun i j => i - j)) [.sh, .sh] (aCons (vr 0) (aCons (primM (ro (gI cPow fun i j => i ^ j.toNat)) [.sh, .sh] (aCons (cn (.int 10)) (aCons (cn (.int 18)) (aNil)))) (aNil)))) (aNil)))) (aCons (primM (ro (gI cMod fun i j => i % j)) [.sh, .sh] (aCons (vr 0) (aCons (cn (.int 2147483629)) (aNil)))) (aCons (cn (.int 0)) (aNil))))))
 (sNil)
def F_l_box : List D → Out D := runF 1 0 b_l_box
def b_l_take : M Fl :=
 sCons (ifM (asB (primM (ro gGt) [.sh, .sh] (aCons (primM (ro gIxO) [.io 0 0, .sh] (aCons (vr 0) (aCons (cn (.int 0)) (aNil)))) (aCons (cn (.int 0)) (aNil)))))
 (sCons (sAsg (primM (ro (gI cMod fun i j => i % j)) [.sh, .sh] (aCons (primM (ro gIxO) [.io 0 0, .sh] (aCons (vr 0) (aCons (cn (.int 0)) (aNil)))) (aCons (vr 1) (aNil)))) (tName 2))
 (sCons (setIM 0 (primM (ro (gI cDiv fun i j => i / j)) [.sh, .sh] (aCons (primM (ro gIxO) [.io 0 0, .sh] (aCons (vr 0) (aCons (cn (.int 0)) (aNil)))) (aCons (vr 1) (aNil)))) (cn (.int 0)))
 (sCons (sRet (vr 2))
 (sNil))))
 (sNil))
 (sCons (setIM 0 (primM (ro gAdd) [.sh, .sh] (aCons (primM (ro gIxO) [.io 0 0, .sh] (aCons (vr 0) (aCons (cn (.int 2)) (aNil)))) (aCons (cn (.int 1)) (aNil)))) (cn (.int 2)))
 (sCons (sAsg (primM (ro gIxO) [.io 0 0, .sh] (aCons (vr 0) (aCons (cn (.int 2)) (aNil)))) (tName 3))
 (sCons (sAsg (primM (ro (gI cMod fun i j => i % j)) [.sh, .sh] (aCons (primM (ro gAdd) [.sh, .sh] (aCons (primM (ro gAdd) [.sh, .sh] (aCons (primM (ro gIxO) [.io 0 0, .sh] (aCons (vr 0) (aCons (cn (.int 1)) (aNil)))) (aCons (primM (ro (gI cMul fun i j => i * j)) [.sh, .sh] (aCons (primM (ro (gI cMul fun i j => i * j)) [.sh, .sh] (aCons (cn (.int 7919)) (aCons (vr 3) (aNil)))) (aCons (vr 3) (aNil)))) (aNil)))) (aCons (primM (ro (gI cMul fun i j => i * j)) [.sh, .sh] (aCons (cn (.int 104729)) (aCons (vr 3) (aNil)))) (aNil)))) (aCons (cn (.int 2147483647)) (aNil)))) (tName 4))
 (sCons (sAsg (primM (ro (gI cMod fun i j => i % j)) [.sh, .sh] (aCons (primM (ro (gI cPow fun i j => i ^ j.toNat)) [.sh, .sh] (aCons (vr 4) (aCons (cn (.int 5)) (aNil)))) (aCons (cn (.int 2147483647)) (aNil)))) (tName 4))
 (sCons (sRet (primM (ro (gI cMod fun i j => i % j)) [.sh, .sh] (aCons (primM (ro (gI cDiv fun i j => i / j)) [.sh, .sh] (aCons (primM (ro (gI cMod fun i j => i % j)) [.sh, .sh] (aCons (primM (ro gAdd) [.sh, .sh] (aCons (primM (ro (gI cMul fun i j => i * j)) [.sh, .sh] (aCons (vr 4) (aCons (vr 4) (aNil)))) (aCons (primM (ro (gI cMul fun i j => i * j)) [.sh, .sh] (aCons (cn (.int 31)) (aCons (vr 3) (aNil)))) (aNil)))) (aCons (cn (.int 2147483629)) (aNil)))) (aCons (cn (.int 8)) (aNil)))) (aCons (vr 1) (aNil)))))
 (sNil))))))
def F_l_take : List D → Out D := runF 2 3 b_l_take
def b_l_page : M Fl :=
 sCons (sAsg (cn (.str (" !\"#$&'()*+,-./0123456789:;<=>?@ABCDEFGHIJKLMNOPQRSTUVWXYZ[\\]^_`" : Str))) (tName 0))
 (sCons (sRet (primM (ro gAdd) [.sh, .sh] (aCons (vr 0) (aCons (cn (.str ("abcdefghijklmnopqrstuvwxyz{|}~\n" : Str))) (aNil)))))
 (sNil))
def F_l_page : List D → Out D := runF 0 1 b_l_page
def b_l_text : M Fl :=
 sCons (sAsg (callM F_l_take [.io 0 0, .sh] (aCons (vr 0) (aCons (cn (.int 4)) (aNil)))) (tName 1))
 (sCons (sAsg (callM F_l_take [.io 0 0, .sh] (aCons (vr 0) (aCons (cn (.int 9)) (aNil)))) (tName 2))
 (sCons (sAsg (primM (ro gIx) [.sh, .sh] (aCons (callM F_l_page [] aNil) (aCons (callM F_l_take [.io 0 0, .sh] (aCons (vr 0) (aCons (cn (.int 95)) (aNil)))) (aNil)))) (tName 3))
 (sCons (sAsg (cn (.str ("abcdefghijklmnopqrstuvwxyz" : Str))) (tName 4))
 (sCons (sAsg (methM "str" (ro gJoin) .sh [.sh] (cn (.str ("" : Str))) (aCons (lcM (rng1M (aCons (vr 2) (aNil))) [7] (tName 7) (yes) (primM (ro gIx) [.sh, .sh] (aCons (vr 4) (aCons (callM F_l_take [.io 0 0, .sh] (aCons (vr 0) (aCons (cn (.int 26)) (aNil)))) (aNil))))) aNil)) (tName 5))
 (sCons (sAsg (callM F_l_take [.io 0 0, .sh] (aCons (vr 0) (aCons (primM (ro gAdd) [.sh, .sh] (aCons (vr 2) (aCons (cn (.int 1)) (aNil)))) (aNil)))) (tName 6))
 (sCons (ifM (asB (primM (ro gEq) [.sh, .sh] (aCons (vr 1) (aCons (cn (.int 2)) (aNil)))))
 (sCons (sRet (primM (ro gAdd) [.sh, .sh] (aCons (primM (ro gAdd) [.sh, .sh] (aCons (slM (vr 5) (oNone) (oSome (vr 6)) gSlS) (aCons (vr 3) (aNil)))) (aCons (slM (vr 5) (oSome (vr 6)) (oNone) gSlS) (aNil)))))
 (sNil))
 (sNil))
 (sCons (ifM (asB (primM (ro gEq) [.sh, .sh] (aCons (vr 1) (aCons (cn (.int 3)) (aNil)))))
 (sCons (sRet (primM (ro gAdd) [.sh, .sh] (aCons (primM (ro gAdd) [.sh, .sh] (aCons (slM (vr 5) (oNone) (oSome (vr 6)) gSlS) (aCons (vr 3) (aNil)))) (aCons (slM (vr 5) (oSome (primM (ro gAdd) [.sh, .sh] (aCons (vr 6) (aCons (cn (.int 1)) (aNil))))) (oNone) gSlS) (aNil)))))
 (sNil))
 (sNil))
 (sCons (sRet (vr 5))
 (sNil)))))))))
def F_l_text : List D → Out D := runF 1 7 b_l_text
def b_l_thing : M Fl :=
 sCons (sAsg (callM F_l_take [.io 0 0, .sh] (aCons (vr 0) (aCons (cn (.int 8)) (aNil)))) (tName 1))
 (sCons (ifM (asB (primM (ro gLt) [.sh, .sh] (aCons (vr 1) (aCons (cn (.int 4)) (aNil)))))
 (sCons (sRet (callM F_l_text [.io 0 0] (aCons (vr 0) (aNil))))
 (sNil))
 (sNil))
 (sCons (ifM (asB (primM (ro gLt) [.sh, .sh] (aCons (vr 1) (aCons (cn (.int 6)) (aNil)))))
 (sCons (sRet (primM (ro (gI cAny fun i j => i - j)) [.sh, .sh] (aCons (callM F_l_take [.io 0 0, .sh] (aCons (vr 0) (aCons (cn (.int 41)) (aNil)))) (aCons (cn (.int 20)) (aNil)))))
 (sNil))
 (sNil))
 (sCons (ifM (asB (primM (ro gEq) [.sh, .sh] (aCons (vr 1) (aCons (cn (.int 6)) (aNil)))))
 (sCons (sRet (primM (ro gAdd) [.sh, .sh] (aCons (primM (ro (gI cAny fun i j => i - j)) [.sh, .sh] (aCons (callM F_l_take [.io 0 0, .sh] (aCons (vr 0) (aCons (primM (ro (gI cAny fun i j => i - j)) [.sh, .sh] (aCons (primM (ro (gI cMul fun i j => i * j)) [.sh, .sh] (aCons (cn (.int 2)) (aCons (primM (ro (gI cPow fun i j => i ^ j.toNat)) [.sh, .sh] (aCons (cn (.int 10)) (aCons (cn (.int 30)) (aNil)))) (aNil)))) (aCons (cn (.int 1)) (aNil)))) (aNil)))) (aCons (primM (ro (gI cPow fun i j => i ^ j.toNat)) [.sh, .sh] (aCons (cn (.int 10)) (aCons (cn (.int 30)) (aNil)))) (aNil)))) (aCons (cn (.int 1)) (aNil)))))
 (sNil))
 (sNil))
 (sCons (sAsg (lstM (aCons (cn .non) (aCons (cn (.bl true)) (aCons (cn (.bl false)) (aCons (lstM (aNil)) (aCons (tupM (aNil)) (aCons (cn (.dK [])) (aCons (lstM (aCons (cn (.str ("a" : Str))) (aNil))) (aCons (tupM (aCons (cn (.str ("ab" : Str))) (aNil))) (aCons (lstM (aCons (cn (.int 3)) (aNil))) (aCons (tupM (aCons (cn (.int 3)) (aNil))) (aCons (dict1M (cn (.str ("a" : Str))) (cn (.int 1))) (aCons (lstM (aCons (cn .non) (aNil))) (aCons (tupM (aCons (cn (.str ("a" : Str))) (aCons (cn (.int 1)) (aNil)))) (aCons (dict1M (cn (.int 3)) (cn (.str ("a" : Str)))) (aNil)))))))))))))))) (tName 2))
 (sCons (sRet (primM (ro gIx) [.sh, .sh] (aCons (vr 2) (aCons (callM F_l_take [.io 0 0, .sh] (aCons (vr 0) (aCons (cn (.int 14)) (aNil)))) (aNil)))))
 (sNil))))))
def F_l_thing : List D → Out D := runF 1 2 b_l_thing
def b_l_is_name : M Fl :=
 sCons (ifM (orB (notB (asB (primM (ro gIsi1) [.sh, .sh] (aCons (vr 0) (aCons (cn (.ty "str")) (aNil)))))) (orB (asB (primM (ro gEq) [.sh, .sh] (aCons (primM (ro gLen) [.sh] (aCons (vr 0) (aNil))) (aCons (cn (.int 0)) (aNil))))) (asB (primM (ro gGt) [.sh, .sh] (aCons (primM (ro gLen) [.sh] (aCons (vr 0) (aNil))) (aCons (cn (.int 6)) (aNil)))))))
 (sCons (sRet (cn (.bl false)))
 (sNil))
 (sNil))
 (sCons (forM' (strM (vr 0)) (tName 1)
 (sCons (ifM (orB (asB (primM (ro gLt) [.sh, .sh] (aCons (vr 1) (aCons (cn (.str ("a" : Str))) (aNil))))) (asB (primM (ro gGt) [.sh, .sh] (aCons (vr 1) (aCons (cn (.str ("z" : Str))) (aNil))))))
 (sCons (sRet (cn (.bl false)))
 (sNil))
 (sNil))
 (sNil)))
 (sCons (sRet (cn (.bl true)))
 (sNil)))
def F_l_is_name : List D → Out D := runF 1 1 b_l_is_name
def b_l_bounds : M Fl :=
 sCons (sAsg (primM (ro gIx) [.sh, .sh] (aCons (lstM (aCons (cn (.int 0)) (aCons (callM F_l_take [.io 0 0, .sh] (aCons (vr 0) (aCons (primM (ro (gI cPow fun i j => i ^ j.toNat)) [.sh, .sh] (aCons (cn (.int 10)) (aCons (cn (.int 29)) (aNil)))) (aNil)))) (aNil)))) (aCons (callM F_l_take [.io 0 0, .sh] (aCons (vr 0) (aCons (cn (.int 2)) (aNil)))) (aNil)))) (tName 2))
 (sCons (sAsg (primM (ro (gI cAny fun i j => i - j)) [.sh, .sh] (aCons (primM (ro gAdd) [.sh, .sh] (aCons (primM (ro (gI cAny fun i j => i - j)) [.sh, .sh] (aCons (vr 1) (aCons (vr 2) (aNil)))) (aCons (callM F_l_take [.io 0 0, .sh] (aCons (vr 0) (aCons (cn (.int 5)) (aNil)))) (aNil)))) (aCons (cn (.int 2)) (aNil)))) (tName 3))
 (sCons (sAsg (primM (ro gIx) [.sh, .sh] (aCons (lstM (aCons (cn (.int 0)) (aCons (callM F_l_take [.io 0 0, .sh] (aCons (vr 0) (aCons (primM (ro (gI cPow fun i j => i ^ j.toNat)) [.sh, .sh] (aCons (cn (.int 10)) (aCons (cn (.int 29)) (aNil)))) (aNil)))) (aNil)))) (aCons (callM F_l_take [.io 0 0, .sh] (aCons (vr 0) (aCons (cn (.int 2)) (aNil)))) (aNil)))) (tName 4))
 (sCons (sAsg (primM (ro (gI cAny fun i j => i - j)) [.sh, .sh] (aCons (primM (ro gAdd) [.sh, .sh] (aCons (primM (ro gAdd) [.sh, .sh] (aCons (primM (ro gAdd) [.sh, .sh] (aCons (vr 3) (aCons (vr 2) (aNil)))) (aCons (vr 4) (aNil)))) (aCons (callM F_l_take [.io 0 0, .sh] (aCons (vr 0) (aCons (cn (.int 6)) (aNil)))) (aNil)))) (aCons (cn (.int 2)) (aNil)))) (tName 5))
 (sCons (sRet (tupM (aCons (primM (ro gMin) [.sh, .sh] (aCons (primM (ro gMax) [.sh, .sh] (aCons (vr 3) (aCons (primM (ro (gI cAny fun i j => i - j)) [.sh, .sh] (aCons (cn (.int 1)) (aCons (primM (ro (gI cPow fun i j => i ^ j.toNat)) [.sh, .sh] (aCons (cn (.int 10)) (aCons (cn (.int 30)) (aNil)))) (aNil)))) (aNil)))) (aCons (primM (ro (gI cAny fun i j => i - j)) [.sh, .sh] (aCons (primM (ro (gI cPow fun i j => i ^ j.toNat)) [.sh, .sh] (aCons (cn (.int 10)) (aCons (cn (.int 30)) (aNil)))) (aCons (cn (.int 1)) (aNil)))) (aNil)))) (aCons (primM (ro gMin) [.sh, .sh] (aCons (primM (ro gMax) [.sh, .sh] (aCons (vr 5) (aCons (primM (ro (gI cAny fun i j => i - j)) [.sh, .sh] (aCons (cn (.int 1)) (aCons (primM (ro (gI cPow fun i j => i ^ j.toNat)) [.sh, .sh] (aCons (cn (.int 10)) (aCons (cn (.int 30)) (aNil)))) (aNil)))) (aNil)))) (aCons (primM (ro (gI cAny fun i j => i - j)) [.sh, .sh] (aCons (primM (ro (gI cPow fun i j => i ^ j.toNat)) [.sh, .sh] (aCons (cn (.int 10)) (aCons (cn (.int 30)) (aNil)))) (aCons (cn (.int 1)) (aNil)))) (aNil)))) (aNil)))))
 (sNil)))))
def F_l_bounds : List D → Out D := runF 2 4 b_l_bounds
def b_l_truth : M Fl :=
 sCons (sRet (bD (andB (asB (primM (ro gIsi1) [.sh, .sh] (aCons (vr 0) (aCons (cn (.ty "bool")) (aNil))))) (asB (primM (ro gEq) [.sh, .sh] (aCons (vr 0) (aCons (vr 1) (aNil))))))))
 (sNil)
def F_l_truth : List D → Out D := runF 2 0 b_l_truth
def b_law : M Fl :=
 sCons (forM' (rng1M (aCons (primM (ro gMax) [.sh, .sh] (aCons (cn (.int 2)) (aCons (primM (ro gMin) [.sh, .sh] (aCons (cn (.int 30)) (aCons (primM (ro gLen) [.sh] (aCons (vr 0) (aNil))) (aNil)))) (aNil)))) (aNil))) (tName 1)
 (sCons (sAsg (callM F_l_box [.sh] (aCons (callM F_l_cell [.sh, .sh] (aCons (vr 0) (aCons (vr 1) (aNil)))) (aNil))) (tName 2))
 (sCons (sAsg (callM F_l_thing [.io 2 0] (aCons (vr 2) (aNil))) (tName 3))
 (sCons (sAsg (bD (andB (asB (primM (ro gIsi1) [.sh, .sh] (aCons (vr 3) (aCons (cn (.ty "int")) (aNil))))) (notB (asB (primM (ro gIsi1) [.sh, .sh] (aCons (vr 3) (aCons (cn (.ty "bool")) (aNil)))))))) (tName 4))
 (sCons (sAsg (callM F_l_bounds [.io 2 0, .sh] (aCons (vr 2) (aCons (ifM (asB (vr 4)) (vr 3) (cn (.int 0))) (aNil)))) (tN 2 (tsCons (tName 5) (tsCons (tName 6) (tsNil)))))
 (sCons (sAsg (bD (andB (asB (vr 4)) (andB (asB (primM (ro gLe) [.sh, .sh] (aCons (vr 5) (aCons (vr 3) (aNil))))) (asB (primM (ro gLe) [.sh, .sh] (aCons (vr 3) (aCons (vr 6) (aNil)))))))) (tName 7))
 (sCons (forM' (rng1M (aCons (cn (.int 2)) (aNil))) (tName 8)
 (sCons (ifM (notB (asB (callM F_l_truth [.sh, .sh] (aCons (callM F_is_whole [.sh, .sh, .sh] (aCons (vr 3) (aCons (vr 5) (aCons (vr 6) (aNil))))) (aCons (vr 7) (aNil))))))
 (sCons (sRet (cn (.bl false)))
 (sNil))
 (sNil))
 (sCons (ifM (notB (asB (callM F_l_truth [.sh, .sh] (aCons (callM F_is_name [.sh] (aCons (vr 3) (aNil))) (aCons (callM F_l_is_name [.sh] (aCons (vr 3) (aNil))) (aNil))))))
 (sCons (sRet (cn (.bl false)))
 (sNil))
 (sNil))
 (sNil))))
 (sNil))))))))
 (sCons (sRet (cn (.bl true)))
 (sNil))
def F_law : List D → Out D := runF 1 8 b_law
end K01
namespace K01
open PySem PySem.Spec L2 Rm
open SX (S join_S S_cat S_tl S_len)

theorem take_w {n : Nat} {d : D} {m : Int} {K X} (h : Bx3 n d) (hn : n < 2 ^ 50) (h0 : 0 < m) (h1 : m < 2 ^ 200) (k : ∀ v d', 0 ≤ v → v < m → Bx3 (n + 1) d' → K (.int v) [d', .int m]) : Wp (F_l_take [d, .int m]) K X := take_wp h hn h0 h1 k
def pg : Str := (" !\"#$&'()*+,-./0123456789:;<=>?@ABCDEFGHIJKLMNOPQRSTUVWXYZ[\\]^_`" : Str) ++ ("abcdefghijklmnopqrstuvwxyz{|}~\n" : Str)
theorem pg_pl : Pl pg := by
  have : pg.cps.toList.all (fun c => decide (c < 128)) = true := by decide +kernel
  intro c m
  simpa using List.all_eq_true.mp this c m
theorem az_pl : Pl ("abcdefghijklmnopqrstuvwxyz" : Str) := by
  have : ("abcdefghijklmnopqrstuvwxyz" : Str).cps.toList.all (fun c => decide (c < 128)) = true := by decide +kernel
  intro c m
  simpa using List.all_eq_true.mp this c m
theorem pg_len : pg.cps.toList.length = 95 := by decide +kernel
theorem az_len : ("abcdefghijklmnopqrstuvwxyz" : Str).cps.toList.length = 26 := by decide +kernel
theorem page_w {K X} (k : K (.str pg) []) : Wp (F_l_page []) K X := by
  unfold F_l_page b_l_page
  try simp only [↓wpF, List.replicate, List.cons_append, List.nil_append, List.append_nil, ↓wpS, ↓wpE, wpB, List.set_cons_zero, List.set_cons_succ, ↓wpO, ↓wpR, ↓wpD, ↓wpC, wpT, true_and, wpA, ↓wpI, decide_eq_true_eq, Bool.not_true, Bool.not_false, if_true, Bool.false_eq_true, if_false, List.take_succ_cons, List.take_zero]
  exact ⟨by decide +kernel, k⟩
theorem text_w {n : Nat} {d : D} {K X} (h : Bx3 n d) (hn : n < 2 ^ 45) (k : ∀ s d', Pl s → s.length ≤ 20 → Bx3 (n + 20) d' → K (.str s) [d']) : Wp (F_l_text [d]) K X := by
  unfold F_l_text b_l_text
  try simp only [↓wpF, List.replicate, List.cons_append, List.nil_append, List.append_nil, ↓wpS, ↓wpE, wpB, List.set_cons_zero, List.set_cons_succ, ↓wpO, ↓wpR, ↓wpD, ↓wpC, wpT, true_and, wpA, ↓wpI, decide_eq_true_eq, Bool.not_true, Bool.not_false, if_true, Bool.false_eq_true, if_false, List.take_succ_cons, List.take_zero]
  refine take_w h (by omega) (by decide) (by decide) fun v1 d1 a1 b1 h1 => ?_
  try simp only [↓wpF, List.replicate, List.cons_append, List.nil_append, List.append_nil, ↓wpS, ↓wpE, wpB, List.set_cons_zero, List.set_cons_succ, ↓wpO, ↓wpR, ↓wpD, ↓wpC, wpT, true_and, wpA, ↓wpI, decide_eq_true_eq, Bool.not_true, Bool.not_false, if_true, Bool.false_eq_true, if_false, List.take_succ_cons, List.take_zero]
  refine take_w h1 (by omega) (by decide) (by decide) fun v2 d2 a2 b2 h2 => ?_
  try simp only [↓wpF, List.replicate, List.cons_append, List.nil_append, List.append_nil, ↓wpS, ↓wpE, wpB, List.set_cons_zero, List.set_cons_succ, ↓wpO, ↓wpR, ↓wpD, ↓wpC, wpT, true_and, wpA, ↓wpI, decide_eq_true_eq, Bool.not_true, Bool.not_false, if_true, Bool.false_eq_true, if_false, List.take_succ_cons, List.take_zero]
  refine page_w ?_
  try simp only [↓wpF, List.replicate, List.cons_append, List.nil_append, List.append_nil, ↓wpS, ↓wpE, wpB, List.set_cons_zero, List.set_cons_succ, ↓wpO, ↓wpR, ↓wpD, ↓wpC, wpT, true_and, wpA, ↓wpI, decide_eq_true_eq, Bool.not_true, Bool.not_false, if_true, Bool.false_eq_true, if_false, List.take_succ_cons, List.take_zero]
  refine take_w h2 (by omega) (by decide) (by decide) fun v3 d3 a3 b3 h3 => ?_
  try simp only [↓wpF, List.replicate, List.cons_append, List.nil_append, List.append_nil, ↓wpS, ↓wpE, wpB, List.set_cons_zero, List.set_cons_succ, ↓wpO, ↓wpR, ↓wpD, ↓wpC, wpT, true_and, wpA, ↓wpI, decide_eq_true_eq, Bool.not_true, Bool.not_false, if_true, Bool.false_eq_true, if_false, List.take_succ_cons, List.take_zero]
  refine ⟨by decide +kernel, ?_⟩
  obtain ⟨i3, rfl⟩ := Int.eq_ofNat_of_zero_le a3
  have l3 : i3 < pg.cps.toList.length := by rw [pg_len]; omega
  rw [atI_lt l3]
  obtain ⟨m2, rfl⟩ := Int.eq_ofNat_of_zero_le a2
  refine ⟨rfl, ⟨by unfold lim; omega, by unfold lim; omega⟩, ?_⟩
  rw [rngD_len]
  refine ⟨by unfold lim; omega, ?_⟩
  refine lc_inv (fun i acc e => ∃ (cs : List Nat) (d' : D), acc = cs.map chD ∧ (cs.length = i ∧ ∀ c ∈ cs, c < 128) ∧ Bx3 (n + 3 + i) d' ∧ e = [d', .int v1, .int (m2 : Int), chD pg.cps.toList[i3], .str ("abcdefghijklmnopqrstuvwxyz" : Str), .non, .non, .non]) ⟨[], d3, rfl, ⟨rfl, fun _ m => nomatch m⟩, h3, rfl⟩ ?_ ?_
  · rintro i x acc e hx ⟨cs, d', rfl, ⟨hc, hp⟩, hb, rfl⟩
    obtain ⟨hi, rfl⟩ := rngD_get hx
    try simp only [↓wpF, List.replicate, List.cons_append, List.nil_append, List.append_nil, ↓wpS, ↓wpE, wpB, List.set_cons_zero, List.set_cons_succ, ↓wpO, ↓wpR, ↓wpD, ↓wpC, wpT, true_and, wpA, ↓wpI, decide_eq_true_eq, Bool.not_true, Bool.not_false, if_true, Bool.false_eq_true, if_false, List.take_succ_cons, List.take_zero]
    refine take_w hb (by omega) (by decide) (by decide) fun v d4 a4 b4 h4 => ?_
    try simp only [↓wpF, List.replicate, List.cons_append, List.nil_append, List.append_nil, ↓wpS, ↓wpE, wpB, List.set_cons_zero, List.set_cons_succ, ↓wpO, ↓wpR, ↓wpD, ↓wpC, wpT, true_and, wpA, ↓wpI, decide_eq_true_eq, Bool.not_true, Bool.not_false, if_true, Bool.false_eq_true, if_false, List.take_succ_cons, List.take_zero]
    obtain ⟨i4, rfl⟩ := Int.eq_ofNat_of_zero_le a4
    have l4 : i4 < ("abcdefghijklmnopqrstuvwxyz" : Str).cps.toList.length := by rw [az_len]; omega
    rw [atI_lt l4]
    exact ⟨by decide +kernel, cs ++ [_], d4, by rw [List.map_append]; rfl, ⟨by simp [hc], fun c m => by
      rcases List.mem_append.mp m with m | m
      · exact hp c m
      · rw [List.mem_singleton.mp m]; exact az_pl _ (List.getElem_mem _)⟩, h4, rfl⟩
  · rintro acc e ⟨cs, d', rfl, ⟨hc, hp⟩, hb, rfl⟩
    rw [rngD_len] at hc hb
    try simp only [↓wpF, List.replicate, List.cons_append, List.nil_append, List.append_nil, ↓wpS, ↓wpE, wpB, List.set_cons_zero, List.set_cons_succ, ↓wpO, ↓wpR, ↓wpD, ↓wpC, wpT, true_and, wpA, ↓wpI, decide_eq_true_eq, Bool.not_true, Bool.not_false, if_true, Bool.false_eq_true, if_false, List.take_succ_cons, List.take_zero]
    refine join_wp (by unfold lim; omega) ?_
    try simp only [↓wpF, List.replicate, List.cons_append, List.nil_append, List.append_nil, ↓wpS, ↓wpE, wpB, List.set_cons_zero, List.set_cons_succ, ↓wpO, ↓wpR, ↓wpD, ↓wpC, wpT, true_and, wpA, ↓wpI, decide_eq_true_eq, Bool.not_true, Bool.not_false, if_true, Bool.false_eq_true, if_false, List.take_succ_cons, List.take_zero]
    have c9 : (S cs).length ≤ 9 := by rw [S_len]; omega
    refine take_w hb (by omega) (by omega) (by omega) fun v5 d5 a5 b5 h5 => ?_
    simp only [chD, ↓wpF, List.replicate, List.cons_append, List.nil_append, List.append_nil, ↓wpS, ↓wpE, wpB, List.set_cons_zero, List.set_cons_succ, ↓wpO, ↓wpR, ↓wpD, ↓wpC, wpT, true_and, wpA, ↓wpI, decide_eq_true_eq, Bool.not_true, Bool.not_false, if_true, Bool.false_eq_true, if_false, List.take_succ_cons, List.take_zero]
    have h6 : Bx3 (n + 20) d5 := h5.mono (by omega)
    have q1 := cat_len
    have q2 : ∀ lo hi, (cutS (S cs) lo hi).length ≤ 9 := fun lo hi => cut_S c9
    have q3 : ∀ c, (⟨#[c]⟩ : Str).length = 1 := fun _ => rfl
    have q4 : lim = 1000000 := rfl
    have ln : ∀ lo hi lo' hi' c, (cutS (S cs) lo hi ++ (⟨#[c]⟩ : Str) ++ cutS (S cs) lo' hi').length ≤ 20 := fun lo hi lo' hi' c => by
      rw [q1, q1, q3]
      have := q2 lo hi
      have := q2 lo' hi'
      omega
    have l1 : ∀ lo hi c, (cutS (S cs) lo hi).length + (⟨#[c]⟩ : Str).length ≤ lim := fun lo hi c => by rw [q3]; have := q2 lo hi; omega
    have l2 : ∀ lo hi lo' hi' c, (cutS (S cs) lo hi ++ (⟨#[c]⟩ : Str)).length + (cutS (S cs) lo' hi').length ≤ lim := fun lo hi lo' hi' c => by rw [q1, q3]; have := q2 lo hi; have := q2 lo' hi'; omega
    have l3 : (S cs).length ≤ lim := by omega
    have p0 : Pl (S cs) := hp
    have p1 : ∀ lo hi lo' hi', Pl (cutS (S cs) lo hi ++ (⟨#[pg.cps.toList[i3]]⟩ : Str) ++ cutS (S cs) lo' hi') := fun lo hi lo' hi' => ((p0.cut lo hi).cat fun c m => by
      have : c = pg.cps.toList[i3] := by simpa using m
      rw [this]; exact pg_pl _ (List.getElem_mem _)).cat (p0.cut lo' hi')
    by_cases e2 : v1 = 2
    · rw [if_pos e2]
      exact ⟨l3, l1 _ _ _, l3, l2 _ _ _ _ _, k _ _ (p1 _ _ _ _) (ln _ _ _ _ _) h6⟩
    · rw [if_neg e2]
      by_cases e3 : v1 = 3
      · rw [if_pos e3]
        exact ⟨l3, l1 _ _ _, l3, l2 _ _ _ _ _, k _ _ (p1 _ _ _ _) (ln _ _ _ _ _) h6⟩
      · rw [if_neg e3]
        exact k _ _ p0 (by omega) h6

def Thg (d : D) : Prop := (∃ s, d = .str s ∧ Pl s ∧ s.length ≤ 20) ∨ (∃ i, d = .int i) ∨ ∃ t, typN d = some t ∧ t ≠ "int" ∧ t ≠ "str"
theorem thing_w {n : Nat} {d : D} {K X} (h : Bx3 n d) (hn : n < 2 ^ 40) (k : ∀ x d', Thg x → Bx3 (n + 30) d' → K x [d']) : Wp (F_l_thing [d]) K X := by
  unfold F_l_thing b_l_thing
  try simp only [↓wpF, List.replicate, List.cons_append, List.nil_append, List.append_nil, ↓wpS, ↓wpE, wpB, List.set_cons_zero, List.set_cons_succ, ↓wpO, ↓wpR, ↓wpD, ↓wpC, wpT, true_and, wpA, ↓wpI, decide_eq_true_eq, Bool.not_true, Bool.not_false, if_true, Bool.false_eq_true, if_false, List.take_succ_cons, List.take_zero]
  refine take_w h (by omega) (by decide) (by decide) fun v1 d1 a1 b1 h1 => ?_
  try simp only [↓wpF, List.replicate, List.cons_append, List.nil_append, List.append_nil, ↓wpS, ↓wpE, wpB, List.set_cons_zero, List.set_cons_succ, ↓wpO, ↓wpR, ↓wpD, ↓wpC, wpT, true_and, wpA, ↓wpI, decide_eq_true_eq, Bool.not_true, Bool.not_false, if_true, Bool.false_eq_true, if_false, List.take_succ_cons, List.take_zero]
  by_cases c1 : v1 < 4
  · rw [if_pos c1]
    exact text_w h1 (by omega) fun s d' hp hs hd => by
      try simp only [↓wpF, List.replicate, List.cons_append, List.nil_append, List.append_nil, ↓wpS, ↓wpE, wpB, List.set_cons_zero, List.set_cons_succ, ↓wpO, ↓wpR, ↓wpD, ↓wpC, wpT, true_and, wpA, ↓wpI, decide_eq_true_eq, Bool.not_true, Bool.not_false, if_true, Bool.false_eq_true, if_false, List.take_succ_cons, List.take_zero]
      exact k _ _ (.inl ⟨_, rfl, hp, hs⟩) (hd.mono (by omega))
  · rw [if_neg c1]
    by_cases c2 : v1 < 6
    · rw [if_pos c2]
      exact take_w h1 (by omega) (by decide) (by decide) fun v d' _ _ hd => by
        try simp only [↓wpF, List.replicate, List.cons_append, List.nil_append, List.append_nil, ↓wpS, ↓wpE, wpB, List.set_cons_zero, List.set_cons_succ, ↓wpO, ↓wpR, ↓wpD, ↓wpC, wpT, true_and, wpA, ↓wpI, decide_eq_true_eq, Bool.not_true, Bool.not_false, if_true, Bool.false_eq_true, if_false, List.take_succ_cons, List.take_zero]
        exact k _ _ (.inr (.inl ⟨_, rfl⟩)) (hd.mono (by omega))
    · rw [if_neg c2]
      by_cases c3 : v1 = 6
      · rw [if_pos c3]
        refine ⟨⟨by decide, by decide, by decide⟩, .inl (by decide), ?_⟩
        refine take_w h1 (by omega) (by decide) (by decide) fun v d' _ _ hd => ?_
        try simp only [↓wpF, List.replicate, List.cons_append, List.nil_append, List.append_nil, ↓wpS, ↓wpE, wpB, List.set_cons_zero, List.set_cons_succ, ↓wpO, ↓wpR, ↓wpD, ↓wpC, wpT, true_and, wpA, ↓wpI, decide_eq_true_eq, Bool.not_true, Bool.not_false, if_true, Bool.false_eq_true, if_false, List.take_succ_cons, List.take_zero]
        exact ⟨⟨by decide, by decide, by decide⟩, k _ _ (.inr (.inl ⟨_, rfl⟩)) (hd.mono (by omega))⟩
      · rw [if_neg c3]
        refine ⟨Nat.le_of_ble_eq_true rfl, Nat.le_of_ble_eq_true rfl, Nat.le_of_ble_eq_true rfl, Nat.le_of_ble_eq_true rfl, Nat.le_of_ble_eq_true rfl, Nat.le_of_ble_eq_true rfl, ?_⟩
        try simp only [↓wpF, List.replicate, List.cons_append, List.nil_append, List.append_nil, ↓wpS, ↓wpE, wpB, List.set_cons_zero, List.set_cons_succ, ↓wpO, ↓wpR, ↓wpD, ↓wpC, wpT, true_and, wpA, ↓wpI, decide_eq_true_eq, Bool.not_true, Bool.not_false, if_true, Bool.false_eq_true, if_false, List.take_succ_cons, List.take_zero]
        refine ⟨Nat.le_of_ble_eq_true rfl, Nat.le_of_ble_eq_true rfl, ?_⟩
        try simp only [↓wpF, List.replicate, List.cons_append, List.nil_append, List.append_nil, ↓wpS, ↓wpE, wpB, List.set_cons_zero, List.set_cons_succ, ↓wpO, ↓wpR, ↓wpD, ↓wpC, wpT, true_and, wpA, ↓wpI, decide_eq_true_eq, Bool.not_true, Bool.not_false, if_true, Bool.false_eq_true, if_false, List.take_succ_cons, List.take_zero]
        refine ⟨Nat.le_of_ble_eq_true rfl, ?_⟩
        refine take_w h1 (by omega) (by decide) (by decide) fun v d' a2 b2 hd => ?_
        try simp only [↓wpF, List.replicate, List.cons_append, List.nil_append, List.append_nil, ↓wpS, ↓wpE, wpB, List.set_cons_zero, List.set_cons_succ, ↓wpO, ↓wpR, ↓wpD, ↓wpC, wpT, true_and, wpA, ↓wpI, decide_eq_true_eq, Bool.not_true, Bool.not_false, if_true, Bool.false_eq_true, if_false, List.take_succ_cons, List.take_zero]
        obtain ⟨i2, rfl⟩ := Int.eq_ofNat_of_zero_le a2
        have i2' : i2 < 14 := by omega
        rw [atI_lt (by exact i2')]
        refine k _ _ (.inr (.inr ?_)) (hd.mono (by omega))
        have all : ∀ x ∈ [D.non, D.bl true, D.bl false, D.lst [], D.tup [], D.dK [], D.lst [D.str (Str.ofString "a")], D.tup [D.str (Str.ofString "ab")], D.lst [D.int 3], D.tup [D.int 3], D.dK [(.inr (Str.ofString "a"), D.int 1)], D.lst [D.non], D.tup [D.str (Str.ofString "a"), D.int 1], D.dK [(.inl 3, D.str (Str.ofString "a"))]], ∃ t, typN x = some t ∧ t ≠ "int" ∧ t ≠ "str" := by
          intro x hx
          simp only [List.mem_cons, List.not_mem_nil, or_false] at hx
          rcases hx with rfl | rfl | rfl | rfl | rfl | rfl | rfl | rfl | rfl | rfl | rfl | rfl | rfl | rfl <;> exact ⟨_, rfl, by decide, by decide⟩
        exact all _ (List.getElem_mem _)
theorem bounds_w {n : Nat} {d : D} {m : Int} {K X} (h : Bx3 n d) (hn : n < 2 ^ 40) (k : ∀ lo hi d', Bx3 (n + 10) d' → K (.tup [.int lo, .int hi]) [d', .int m]) : Wp (F_l_bounds [d, .int m]) K X := by
  unfold F_l_bounds b_l_bounds
  try simp only [↓wpF, List.replicate, List.cons_append, List.nil_append, List.append_nil, ↓wpS, ↓wpE, wpB, List.set_cons_zero, List.set_cons_succ, ↓wpO, ↓wpR, ↓wpD, ↓wpC, wpT, true_and, wpA, ↓wpI, decide_eq_true_eq, Bool.not_true, Bool.not_false, if_true, Bool.false_eq_true, if_false, List.take_succ_cons, List.take_zero]
  refine ⟨⟨by decide, by decide, by decide⟩, ?_⟩
  refine take_w h (by omega) (by decide) (by decide) fun v1 d1 a1 b1 h1 => ?_
  try simp only [↓wpF, List.replicate, List.cons_append, List.nil_append, List.append_nil, ↓wpS, ↓wpE, wpB, List.set_cons_zero, List.set_cons_succ, ↓wpO, ↓wpR, ↓wpD, ↓wpC, wpT, true_and, wpA, ↓wpI, decide_eq_true_eq, Bool.not_true, Bool.not_false, if_true, Bool.false_eq_true, if_false, List.take_succ_cons, List.take_zero]
  refine ⟨Nat.le_of_ble_eq_true rfl, ?_⟩
  refine take_w h1 (by omega) (by decide) (by decide) fun v2 d2 a2 b2 h2 => ?_
  try simp only [↓wpF, List.replicate, List.cons_append, List.nil_append, List.append_nil, ↓wpS, ↓wpE, wpB, List.set_cons_zero, List.set_cons_succ, ↓wpO, ↓wpR, ↓wpD, ↓wpC, wpT, true_and, wpA, ↓wpI, decide_eq_true_eq, Bool.not_true, Bool.not_false, if_true, Bool.false_eq_true, if_false, List.take_succ_cons, List.take_zero]
  obtain ⟨i2, rfl⟩ := Int.eq_ofNat_of_zero_le a2
  have i2' : i2 < 2 := by omega
  rw [atI_lt (by exact i2')]
  have e1 : ∃ w, [D.int 0, D.int v1][i2] = D.int w := by
    match i2, i2' with
    | 0, _ => exact ⟨_, rfl⟩
    | 1, _ => exact ⟨_, rfl⟩
  obtain ⟨w1, e1⟩ := e1
  rw [e1]
  try simp only [↓wpF, List.replicate, List.cons_append, List.nil_append, List.append_nil, ↓wpS, ↓wpE, wpB, List.set_cons_zero, List.set_cons_succ, ↓wpO, ↓wpR, ↓wpD, ↓wpC, wpT, true_and, wpA, ↓wpI, decide_eq_true_eq, Bool.not_true, Bool.not_false, if_true, Bool.false_eq_true, if_false, List.take_succ_cons, List.take_zero]
  refine take_w h2 (by omega) (by decide) (by decide) fun v3 d3 a3 b3 h3 => ?_
  try simp only [↓wpF, List.replicate, List.cons_append, List.nil_append, List.append_nil, ↓wpS, ↓wpE, wpB, List.set_cons_zero, List.set_cons_succ, ↓wpO, ↓wpR, ↓wpD, ↓wpC, wpT, true_and, wpA, ↓wpI, decide_eq_true_eq, Bool.not_true, Bool.not_false, if_true, Bool.false_eq_true, if_false, List.take_succ_cons, List.take_zero]
  refine ⟨⟨by decide, by decide, by decide⟩, ?_⟩
  refine take_w h3 (by omega) (by decide) (by decide) fun v4 d4 a4 b4 h4 => ?_
  try simp only [↓wpF, List.replicate, List.cons_append, List.nil_append, List.append_nil, ↓wpS, ↓wpE, wpB, List.set_cons_zero, List.set_cons_succ, ↓wpO, ↓wpR, ↓wpD, ↓wpC, wpT, true_and, wpA, ↓wpI, decide_eq_true_eq, Bool.not_true, Bool.not_false, if_true, Bool.false_eq_true, if_false, List.take_succ_cons, List.take_zero]
  refine ⟨Nat.le_of_ble_eq_true rfl, ?_⟩
  refine take_w h4 (by omega) (by decide) (by decide) fun v5 d5 a5 b5 h5 => ?_
  try simp only [↓wpF, List.replicate, List.cons_append, List.nil_append, List.append_nil, ↓wpS, ↓wpE, wpB, List.set_cons_zero, List.set_cons_succ, ↓wpO, ↓wpR, ↓wpD, ↓wpC, wpT, true_and, wpA, ↓wpI, decide_eq_true_eq, Bool.not_true, Bool.not_false, if_true, Bool.false_eq_true, if_false, List.take_succ_cons, List.take_zero]
  obtain ⟨i5, rfl⟩ := Int.eq_ofNat_of_zero_le a5
  have i5' : i5 < 2 := by omega
  rw [atI_lt (by exact i5')]
  have e5 : ∃ w, [D.int 0, D.int v4][i5] = D.int w := by
    match i5, i5' with
    | 0, _ => exact ⟨_, rfl⟩
    | 1, _ => exact ⟨_, rfl⟩
  obtain ⟨w5, e5⟩ := e5
  rw [e5]
  try simp only [↓wpF, List.replicate, List.cons_append, List.nil_append, List.append_nil, ↓wpS, ↓wpE, wpB, List.set_cons_zero, List.set_cons_succ, ↓wpO, ↓wpR, ↓wpD, ↓wpC, wpT, true_and, wpA, ↓wpI, decide_eq_true_eq, Bool.not_true, Bool.not_false, if_true, Bool.false_eq_true, if_false, List.take_succ_cons, List.take_zero]
  refine take_w h5 (by omega) (by decide) (by decide) fun v6 d6 a6 b6 h6 => ?_
  try simp only [↓wpF, List.replicate, List.cons_append, List.nil_append, List.append_nil, ↓wpS, ↓wpE, wpB, List.set_cons_zero, List.set_cons_succ, ↓wpO, ↓wpR, ↓wpD, ↓wpC, wpT, true_and, wpA, ↓wpI, decide_eq_true_eq, Bool.not_true, Bool.not_false, if_true, Bool.false_eq_true, if_false, List.take_succ_cons, List.take_zero]
  exact ⟨⟨by decide, by decide, by decide⟩, ⟨by decide, by decide, by decide⟩, ⟨by decide, by decide, by decide⟩, ⟨by decide, by decide, by decide⟩, Nat.le_of_ble_eq_true rfl, k _ _ _ (h6.mono (by omega))⟩
/-- what both say of a text -/
def nameB (s : Str) : Bool := decide (1 ≤ s.length ∧ s.length ≤ 6) && s.cps.toList.all fun c => decide (97 ≤ c ∧ c ≤ 122)
theorem in_az (c : Nat) : strIn ⟨#[c]⟩ ("abcdefghijklmnopqrstuvwxyz" : Str) = decide (97 ≤ c ∧ c ≤ 122) := by
  unfold strIn
  rw [PySem.StrLaws.found_one]
  have e : ("abcdefghijklmnopqrstuvwxyz" : Str).cps.toList = (List.range 26).map (97 + ·) := by decide +kernel
  rw [e]
  apply decide_eq_decide.mpr
  simp only [List.mem_map, List.mem_range]
  constructor
  · rintro ⟨i, hi, rfl⟩; omega
  · intro h; exact ⟨c - 97, by omega, by omega⟩
theorem is_name_s {s : Str} {K X} (hp : Pl s) (h : s.length ≤ 20) (k : K (.bl (nameB s)) [.str s]) : Wp (F_is_name [.str s]) K X := by
  unfold F_is_name b_is_name
  have hl : s.length ≤ lim := by unfold lim; omega
  try simp only [↓wpF, List.replicate, List.cons_append, List.nil_append, List.append_nil, ↓wpS, ↓wpE, wpB, List.set_cons_zero, List.set_cons_succ, ↓wpO, ↓wpR, ↓wpD, ↓wpC, wpT, true_and, wpA, ↓wpI, decide_eq_true_eq, Bool.not_true, Bool.not_false, if_true, Bool.false_eq_true, if_false, List.take_succ_cons, List.take_zero]
  refine ⟨hl, ?_⟩
  by_cases h1 : (1 : Int) ≤ s.length
  · rw [if_pos h1]
    by_cases h6 : (s.length : Int) ≤ 6
    · rw [if_neg (by simpa using h6), List.length_map]
      refine ⟨hl, lc_inv (fun i acc e => e = [.str s, .non] ∧ acc = ((s.cps.toList.take i).filter fun c => !decide (97 ≤ c ∧ c ≤ 122)).map chD) ⟨rfl, rfl⟩ ?_ ?_⟩
      · rintro i x acc e hx ⟨rfl, rfl⟩
        rw [List.getElem?_map] at hx
        by_cases hi : i < s.cps.toList.length
        · rw [List.getElem?_eq_getElem hi] at hx
          cases hx
          simp only [chD, ↓wpF, List.replicate, List.cons_append, List.nil_append, List.append_nil, ↓wpS, ↓wpE, wpB, List.set_cons_zero, List.set_cons_succ, ↓wpO, ↓wpR, ↓wpD, ↓wpC, wpT, true_and, wpA, ↓wpI, decide_eq_true_eq, Bool.not_true, Bool.not_false, if_true, Bool.false_eq_true, if_false, List.take_succ_cons, List.take_zero]
          have e1 : inD (.str ⟨#[s.cps.toList[i]]⟩) (.str (Str.ofString "abcdefghijklmnopqrstuvwxyz")) = some (strIn ⟨#[s.cps.toList[i]]⟩ (Str.ofString "abcdefghijklmnopqrstuvwxyz")) := rfl
          rw [e1]
          try simp only [↓wpF, List.replicate, List.cons_append, List.nil_append, List.append_nil, ↓wpS, ↓wpE, wpB, List.set_cons_zero, List.set_cons_succ, ↓wpO, ↓wpR, ↓wpD, ↓wpC, wpT, true_and, wpA, ↓wpI, decide_eq_true_eq, Bool.not_true, Bool.not_false, if_true, Bool.false_eq_true, if_false, List.take_succ_cons, List.take_zero]
          have e2 := in_az s.cps.toList[i]
          rw [e2, List.take_add_one, List.getElem?_eq_getElem hi, List.filter_append, List.map_append]
          clear e1 e2
          generalize s.cps.toList[i] = c
          by_cases hc : 97 ≤ c ∧ c ≤ 122
          · rw [if_neg (by simp only [hc, and_self, decide_true, Bool.not_true, Bool.false_eq_true, not_false_eq_true])]
            refine ⟨rfl, ?_⟩
            simp [hc, chD]
          · rw [if_pos (by simp only [hc, decide_false, Bool.not_false])]
            refine ⟨rfl, ?_⟩
            have : (some c).toList.filter (fun c => !decide (97 ≤ c ∧ c ≤ 122)) = [c] := by
              show List.filter _ [c] = _
              rw [List.filter_cons_of_pos (by simp only [hc, decide_false, Bool.not_false])]
              rfl
            rw [this]
            rfl
        · rw [List.getElem?_eq_none (by omega)] at hx
          cases hx
      · rintro acc e ⟨rfl, rfl⟩
        try simp only [↓wpF, List.replicate, List.cons_append, List.nil_append, List.append_nil, ↓wpS, ↓wpE, wpB, List.set_cons_zero, List.set_cons_succ, ↓wpO, ↓wpR, ↓wpD, ↓wpC, wpT, true_and, wpA, ↓wpI, decide_eq_true_eq, Bool.not_true, Bool.not_false, if_true, Bool.false_eq_true, if_false, List.take_succ_cons, List.take_zero]
        rw [List.length_map, List.take_length]
        refine ⟨Nat.le_of_ble_eq_true rfl, eqD_ch0 (fun c m => hp c (List.mem_filter.mp m).1) ?_⟩
        have e : nameB s = (s.cps.toList.filter fun c => !decide (97 ≤ c ∧ c ≤ 122)).isEmpty := by
          unfold nameB
          rw [decide_eq_true (by omega), Bool.true_and, Bool.eq_iff_iff]
          rw [List.isEmpty_iff, List.filter_eq_nil_iff, List.all_eq_true]
          simp
        rw [← e]
        exact k
    · rw [if_pos (by simpa using h6)]
      have e : nameB s = false := by unfold nameB; rw [decide_eq_false (by omega)]; rfl
      rw [e] at k
      exact k
  · rw [if_neg h1]
    have e : nameB s = false := by unfold nameB; rw [decide_eq_false (by omega)]; rfl
    rw [e] at k
    exact k
theorem lis_name_s {s : Str} {K X} (hp : Pl s) (h : s.length ≤ 20) (k : K (.bl (nameB s)) [.str s]) : Wp (F_l_is_name [.str s]) K X := by
  unfold F_l_is_name b_l_is_name
  have hl : s.length ≤ lim := by unfold lim; omega
  try simp only [↓wpF, List.replicate, List.cons_append, List.nil_append, List.append_nil, ↓wpS, ↓wpE, wpB, List.set_cons_zero, List.set_cons_succ, ↓wpO, ↓wpR, ↓wpD, ↓wpC, wpT, true_and, wpA, ↓wpI, decide_eq_true_eq, Bool.not_true, Bool.not_false, if_true, Bool.false_eq_true, if_false, List.take_succ_cons, List.take_zero]
  refine ⟨hl, ?_⟩
  by_cases h1 : (s.length : Int) = 0
  · rw [if_pos h1]
    have e : nameB s = false := by unfold nameB; rw [decide_eq_false (by omega)]; rfl
    rw [e] at k
    exact k
  · rw [if_neg h1]
    refine ⟨hl, ?_⟩
    by_cases h6 : 6 < (s.length : Int)
    · rw [if_pos h6]
      have e : nameB s = false := by unfold nameB; rw [decide_eq_false (by omega)]; rfl
      rw [e] at k
      exact k
    · rw [if_neg h6]
      refine for_inv (fun i e => (∃ x, e = [.str s, x]) ∧ ∀ c ∈ s.cps.toList.take i, 97 ≤ c ∧ c ≤ 122) ⟨⟨_, rfl⟩, fun c m => by simp at m⟩ ?_ ?_
      · rintro i x e hx ⟨⟨y, rfl⟩, ha⟩
        rw [List.getElem?_map] at hx
        by_cases hi : i < s.cps.toList.length
        · rw [List.getElem?_eq_getElem hi] at hx
          cases hx
          simp only [chD, ↓wpF, List.replicate, List.cons_append, List.nil_append, List.append_nil, ↓wpS, ↓wpE, wpB, List.set_cons_zero, List.set_cons_succ, ↓wpO, ↓wpR, ↓wpD, ↓wpC, wpT, true_and, wpA, ↓wpI, decide_eq_true_eq, Bool.not_true, Bool.not_false, if_true, Bool.false_eq_true, if_false, List.take_succ_cons, List.take_zero]
          have l1 : ∀ c, ((⟨#[c]⟩ : Str).cps.toList < (Str.ofString "a").cps.toList) ↔ c < 97 := fun c => by
            show [c] < [97] ↔ _
            simp [List.cons_lt_cons_iff]
          have l2 : ∀ c, ((Str.ofString "z").cps.toList < (⟨#[c]⟩ : Str).cps.toList) ↔ 122 < c := fun c => by
            show [122] < [c] ↔ _
            simp [List.cons_lt_cons_iff]
          have no : ¬ (97 ≤ s.cps.toList[i] ∧ s.cps.toList[i] ≤ 122) → nameB s = false := fun hn => by
            unfold nameB
            have : (s.cps.toList.all fun c => decide (97 ≤ c ∧ c ≤ 122)) = false := by
              rw [List.all_eq_false]
              exact ⟨_, List.getElem_mem hi, by simpa using hn⟩
            rw [this, Bool.and_false]
          by_cases c1 : s.cps.toList[i] < 97
          · rw [if_pos ((l1 _).mpr c1)]
            rw [no (by omega)] at k
            exact k
          · rw [if_neg (fun z => c1 ((l1 _).mp z))]
            by_cases c2 : 122 < s.cps.toList[i]
            · rw [if_pos ((l2 _).mpr c2)]
              rw [no (by omega)] at k
              exact k
            · rw [if_neg (fun z => c2 ((l2 _).mp z))]
              refine ⟨⟨_, rfl⟩, fun c m => ?_⟩
              rw [List.take_add_one, List.getElem?_eq_getElem hi] at m
              rcases List.mem_append.mp m with m | m
              · exact ha c m
              · rw [List.mem_singleton.mp m]
                omega
        · rw [List.getElem?_eq_none (by omega)] at hx
          cases hx
      · rintro e ⟨⟨y, rfl⟩, ha⟩
        rw [List.length_map, List.take_length] at ha
        try simp only [↓wpF, List.replicate, List.cons_append, List.nil_append, List.append_nil, ↓wpS, ↓wpE, wpB, List.set_cons_zero, List.set_cons_succ, ↓wpO, ↓wpR, ↓wpD, ↓wpC, wpT, true_and, wpA, ↓wpI, decide_eq_true_eq, Bool.not_true, Bool.not_false, if_true, Bool.false_eq_true, if_false, List.take_succ_cons, List.take_zero]
        have e : nameB s = true := by
          unfold nameB
          rw [decide_eq_true (by omega), Bool.true_and, List.all_eq_true]
          intro c m
          exact decide_eq_true (ha c m)
        rw [e] at k
        exact k
theorem other_names {d : D} {t : String} {K X} (ht : typN d = some t) (hs : t ≠ "str") (k : K (.bl false) [d]) : Wp (F_is_name [d]) K X ∧ Wp (F_l_is_name [d]) K X := by
  unfold F_is_name b_is_name F_l_is_name b_l_is_name
  simp only [ht, isiB_ne hs (Or.inr (by decide)), ↓wpF, List.replicate, List.cons_append, List.nil_append, List.append_nil, ↓wpS, ↓wpE, wpB, List.set_cons_zero, List.set_cons_succ, ↓wpO, ↓wpR, ↓wpD, ↓wpC, wpT, true_and, wpA, ↓wpI, decide_eq_true_eq, Bool.not_true, Bool.not_false, if_true, Bool.false_eq_true, if_false, List.take_succ_cons, List.take_zero]
  exact ⟨k, k⟩
theorem truth_w {a b : Bool} {K X} (k : K (.bl (a == b)) [.bl a, .bl b]) : Wp (F_l_truth [.bl a, .bl b]) K X := by
  unfold F_l_truth b_l_truth
  try simp only [↓wpF, List.replicate, List.cons_append, List.nil_append, List.append_nil, ↓wpS, ↓wpE, wpB, List.set_cons_zero, List.set_cons_succ, ↓wpO, ↓wpR, ↓wpD, ↓wpC, wpT, true_and, wpA, ↓wpI, decide_eq_true_eq, Bool.not_true, Bool.not_false, if_true, Bool.false_eq_true, if_false, List.take_succ_cons, List.take_zero]
  exact k
theorem scr_len {ns : List Int} {P} : oK (gLen [scr ns]) P = P (.int ns.length) := by
  unfold scr
  simp only [↓wpO, List.length_map]
theorem whole_i {i lo hi : Int} {K X} (k : K (.bl (decide (lo ≤ i) && decide (i ≤ hi))) [.int i, .int lo, .int hi]) : Wp (F_is_whole [.int i, .int lo, .int hi]) K X := by
  unfold F_is_whole b_is_whole
  try simp only [↓wpF, List.replicate, List.cons_append, List.nil_append, List.append_nil, ↓wpS, ↓wpE, wpB, List.set_cons_zero, List.set_cons_succ, ↓wpO, ↓wpR, ↓wpD, ↓wpC, wpT, true_and, wpA, ↓wpI, decide_eq_true_eq, Bool.not_true, Bool.not_false, if_true, Bool.false_eq_true, if_false, List.take_succ_cons, List.take_zero]
  by_cases h : lo ≤ i
  · rw [if_pos h]; simpa [h] using k
  · rw [if_neg h]; simpa [h] using k
theorem boolT {t : String} (h : t ≠ "int") : isiB t "int" = isiB t "bool" := by
  unfold isiB
  simp [h]
theorem whole_o {x : D} {t : String} {lo hi : Int} {K X} (ht : typN x = some t) (h : t ≠ "int") (k : K (.bl false) [x, .int lo, .int hi]) : Wp (F_is_whole [x, .int lo, .int hi]) K X := by
  unfold F_is_whole b_is_whole
  simp only [ht, boolT h, ↓wpF, List.replicate, List.cons_append, List.nil_append, List.append_nil, ↓wpS, ↓wpE, wpB, List.set_cons_zero, List.set_cons_succ, ↓wpO, ↓wpR, ↓wpD, ↓wpC, wpT, true_and, wpA, ↓wpI, decide_eq_true_eq, Bool.not_true, Bool.not_false, if_true, Bool.false_eq_true, if_false, List.take_succ_cons, List.take_zero]
  cases e : isiB t "bool" <;> simp only [↓wpS, Bool.not_true, Bool.not_false, if_true, Bool.false_eq_true, if_false] <;> exact k
theorem data_law (ns : List Int) (hl : ns.length ≤ 63) (hb : ∀ z ∈ ns, Builtin.Int.intBits z ≤ 1048576) : ∃ e, F_law [scr ns] = .ok (.bl true) e := by
  refine of_wp ?_
  unfold F_law b_law
  simp only [scr_len, ↓wpF, List.replicate, List.cons_append, List.nil_append, List.append_nil, ↓wpS, ↓wpE, wpB, List.set_cons_zero, List.set_cons_succ, ↓wpO, ↓wpR, ↓wpD, ↓wpC, wpT, true_and, wpA, ↓wpI, decide_eq_true_eq, Bool.not_true, Bool.not_false, if_true, Bool.false_eq_true, if_false, List.take_succ_cons, List.take_zero]
  refine ⟨⟨by unfold lim; omega, by unfold lim; omega⟩, ?_⟩
  refine for_inv (fun i e => ∃ a1 a2 a3 a4 a5 a6 a7 a8, e = [scr ns, a1, a2, a3, a4, a5, a6, a7, a8]) ⟨_, _, _, _, _, _, _, _, rfl⟩ ?_ ?_
  · rintro i x e hx ⟨a1, a2, a3, a4, a5, a6, a7, a8, rfl⟩
    obtain ⟨hi, rfl⟩ := rngD_get hx
    have ez : (0 : Int) + (i : Int) = i := by omega
    rw [ez]
    try simp only [↓wpF, List.replicate, List.cons_append, List.nil_append, List.append_nil, ↓wpS, ↓wpE, wpB, List.set_cons_zero, List.set_cons_succ, ↓wpO, ↓wpR, ↓wpD, ↓wpC, wpT, true_and, wpA, ↓wpI, decide_eq_true_eq, Bool.not_true, Bool.not_false, if_true, Bool.false_eq_true, if_false, List.take_succ_cons, List.take_zero]
    refine cell_wp (by omega) fun x => ?_
    try simp only [↓wpF, List.replicate, List.cons_append, List.nil_append, List.append_nil, ↓wpS, ↓wpE, wpB, List.set_cons_zero, List.set_cons_succ, ↓wpO, ↓wpR, ↓wpD, ↓wpC, wpT, true_and, wpA, ↓wpI, decide_eq_true_eq, Bool.not_true, Bool.not_false, if_true, Bool.false_eq_true, if_false, List.take_succ_cons, List.take_zero]
    refine box_wp fun d0 h0 => ?_
    try simp only [↓wpF, List.replicate, List.cons_append, List.nil_append, List.append_nil, ↓wpS, ↓wpE, wpB, List.set_cons_zero, List.set_cons_succ, ↓wpO, ↓wpR, ↓wpD, ↓wpC, wpT, true_and, wpA, ↓wpI, decide_eq_true_eq, Bool.not_true, Bool.not_false, if_true, Bool.false_eq_true, if_false, List.take_succ_cons, List.take_zero]
    refine thing_w h0 (by omega) fun th d1 ht h1 => ?_
    try simp only [↓wpF, List.replicate, List.cons_append, List.nil_append, List.append_nil, ↓wpS, ↓wpE, wpB, List.set_cons_zero, List.set_cons_succ, ↓wpO, ↓wpR, ↓wpD, ↓wpC, wpT, true_and, wpA, ↓wpI, decide_eq_true_eq, Bool.not_true, Bool.not_false, if_true, Bool.false_eq_true, if_false, List.take_succ_cons, List.take_zero]
    have nm : ∃ nb : Bool, (∀ (K : D → List D → Prop) (X : KX), K (.bl nb) [th] → Wp (F_is_name [th]) K X) ∧ (∀ (K : D → List D → Prop) (X : KX), K (.bl nb) [th] → Wp (F_l_is_name [th]) K X) := by
      rcases ht with ⟨s, rfl, hp, hs⟩ | ⟨j, rfl⟩ | ⟨t, ht, _, hs⟩
      · exact ⟨_, fun K X k => is_name_s hp hs k, fun K X k => lis_name_s hp hs k⟩
      · exact ⟨false, fun K X k => (other_names (t := "int") rfl (by decide) k).1, fun K X k => (other_names (X := X) (t := "int") rfl (by decide) k).2⟩
      · exact ⟨false, fun K X k => (other_names ht hs k).1, fun K X k => (other_names (X := X) ht hs k).2⟩
    obtain ⟨nb, nm1, nm2⟩ := nm
    have inner : ∀ (lo hi : Int) (w : Bool) (b2 b4 : D) (K : Fl → List D → Prop) (X : KX), (∀ (K : D → List D → Prop) (X : KX), K (.bl w) [th, .int lo, .int hi] → Wp (F_is_whole [th, .int lo, .int hi]) K X) → (∀ a8, K .nx [scr ns, .int i, b2, th, b4, .int lo, .int hi, .bl w, a8]) →
        Wp (forGo (tName 8) (sCons (ifM (notB (asB (callM F_l_truth [.sh, .sh] (aCons (callM F_is_whole [.sh, .sh, .sh] (aCons (vr 3) (aCons (vr 5) (aCons (vr 6) (aNil))))) (aCons (vr 7) (aNil)))))) (sCons (sRet (cn (.bl false))) (sNil)) (sNil))
          (sCons (ifM (notB (asB (callM F_l_truth [.sh, .sh] (aCons (callM F_is_name [.sh] (aCons (vr 3) (aNil))) (aCons (callM F_l_is_name [.sh] (aCons (vr 3) (aNil))) (aNil)))))) (sCons (sRet (cn (.bl false))) (sNil)) (sNil)) (sNil)))
          (rngD 0 (2 : Int).toNat) [scr ns, .int i, b2, th, b4, .int lo, .int hi, .bl w, a8]) K X := by
      intro lo hi w b2 b4 K X hw hk
      refine for_inv (fun i' e => ∃ a8, e = [scr ns, .int i, b2, th, b4, .int lo, .int hi, .bl w, a8]) ⟨_, rfl⟩ ?_ (fun e ⟨a8, h⟩ => by rw [h]; exact hk a8)
      rintro i' x e hx ⟨a8, rfl⟩
      try simp only [↓wpF, List.replicate, List.cons_append, List.nil_append, List.append_nil, ↓wpS, ↓wpE, wpB, List.set_cons_zero, List.set_cons_succ, ↓wpO, ↓wpR, ↓wpD, ↓wpC, wpT, true_and, wpA, ↓wpI, decide_eq_true_eq, Bool.not_true, Bool.not_false, if_true, Bool.false_eq_true, if_false, List.take_succ_cons, List.take_zero]
      refine hw _ _ ?_
      try simp only [↓wpF, List.replicate, List.cons_append, List.nil_append, List.append_nil, ↓wpS, ↓wpE, wpB, List.set_cons_zero, List.set_cons_succ, ↓wpO, ↓wpR, ↓wpD, ↓wpC, wpT, true_and, wpA, ↓wpI, decide_eq_true_eq, Bool.not_true, Bool.not_false, if_true, Bool.false_eq_true, if_false, List.take_succ_cons, List.take_zero]
      refine truth_w ?_
      try simp only [↓wpF, List.replicate, List.cons_append, List.nil_append, List.append_nil, ↓wpS, ↓wpE, wpB, List.set_cons_zero, List.set_cons_succ, ↓wpO, ↓wpR, ↓wpD, ↓wpC, wpT, true_and, wpA, ↓wpI, decide_eq_true_eq, Bool.not_true, Bool.not_false, if_true, Bool.false_eq_true, if_false, List.take_succ_cons, List.take_zero]
      rw [beq_self_eq_true]
      try simp only [↓wpF, List.replicate, List.cons_append, List.nil_append, List.append_nil, ↓wpS, ↓wpE, wpB, List.set_cons_zero, List.set_cons_succ, ↓wpO, ↓wpR, ↓wpD, ↓wpC, wpT, true_and, wpA, ↓wpI, decide_eq_true_eq, Bool.not_true, Bool.not_false, if_true, Bool.false_eq_true, if_false, List.take_succ_cons, List.take_zero]
      refine nm1 _ _ ?_
      try simp only [↓wpF, List.replicate, List.cons_append, List.nil_append, List.append_nil, ↓wpS, ↓wpE, wpB, List.set_cons_zero, List.set_cons_succ, ↓wpO, ↓wpR, ↓wpD, ↓wpC, wpT, true_and, wpA, ↓wpI, decide_eq_true_eq, Bool.not_true, Bool.not_false, if_true, Bool.false_eq_true, if_false, List.take_succ_cons, List.take_zero]
      refine nm2 _ _ ?_
      try simp only [↓wpF, List.replicate, List.cons_append, List.nil_append, List.append_nil, ↓wpS, ↓wpE, wpB, List.set_cons_zero, List.set_cons_succ, ↓wpO, ↓wpR, ↓wpD, ↓wpC, wpT, true_and, wpA, ↓wpI, decide_eq_true_eq, Bool.not_true, Bool.not_false, if_true, Bool.false_eq_true, if_false, List.take_succ_cons, List.take_zero]
      refine truth_w ?_
      try simp only [↓wpF, List.replicate, List.cons_append, List.nil_append, List.append_nil, ↓wpS, ↓wpE, wpB, List.set_cons_zero, List.set_cons_succ, ↓wpO, ↓wpR, ↓wpD, ↓wpC, wpT, true_and, wpA, ↓wpI, decide_eq_true_eq, Bool.not_true, Bool.not_false, if_true, Bool.false_eq_true, if_false, List.take_succ_cons, List.take_zero]
      rw [beq_self_eq_true]
      try simp only [↓wpF, List.replicate, List.cons_append, List.nil_append, List.append_nil, ↓wpS, ↓wpE, wpB, List.set_cons_zero, List.set_cons_succ, ↓wpO, ↓wpR, ↓wpD, ↓wpC, wpT, true_and, wpA, ↓wpI, decide_eq_true_eq, Bool.not_true, Bool.not_false, if_true, Bool.false_eq_true, if_false, List.take_succ_cons, List.take_zero]
      exact ⟨_, rfl⟩
    have cont : (∃ j, th = .int j) ∨ ∃ t, typN th = some t ∧ t ≠ "int" := by
      rcases ht with ⟨s, rfl, hp, hs⟩ | ⟨j, rfl⟩ | ⟨t, ht, hs, _⟩
      · exact .inr ⟨"str", rfl, by decide⟩
      · exact .inl ⟨j, rfl⟩
      · exact .inr ⟨t, ht, hs⟩
    rcases cont with ⟨j, rfl⟩ | ⟨t, ht, hne⟩
    · try simp only [↓wpF, List.replicate, List.cons_append, List.nil_append, List.append_nil, ↓wpS, ↓wpE, wpB, List.set_cons_zero, List.set_cons_succ, ↓wpO, ↓wpR, ↓wpD, ↓wpC, wpT, true_and, wpA, ↓wpI, decide_eq_true_eq, Bool.not_true, Bool.not_false, if_true, Bool.false_eq_true, if_false, List.take_succ_cons, List.take_zero]
      refine bounds_w h1 (by omega) fun lo hi d2 h2 => ?_
      try simp only [↓wpF, List.replicate, List.cons_append, List.nil_append, List.append_nil, ↓wpS, ↓wpE, wpB, List.set_cons_zero, List.set_cons_succ, ↓wpO, ↓wpR, ↓wpD, ↓wpC, wpT, true_and, wpA, ↓wpI, decide_eq_true_eq, Bool.not_true, Bool.not_false, if_true, Bool.false_eq_true, if_false, List.take_succ_cons, List.take_zero]
      have l2 : (-(lim : Int) ≤ 2 ∧ 2 ≤ (lim : Int)) := ⟨by unfold lim; omega, by unfold lim; omega⟩
      refine ⟨rfl, ?_⟩
      by_cases c : lo ≤ j
      · rw [if_pos c]
        exact ⟨l2, inner lo hi (decide (j ≤ hi)) _ _ _ _ (fun K X k => whole_i (by rw [decide_eq_true c, Bool.true_and]; exact k)) fun _ => ⟨_, _, _, _, _, _, _, _, rfl⟩⟩
      · rw [if_neg c]
        exact ⟨l2, inner lo hi false _ _ _ _ (fun K X k => whole_i (by rw [decide_eq_false c, Bool.false_and]; exact k)) fun _ => ⟨_, _, _, _, _, _, _, _, rfl⟩⟩
    · simp only [ht, boolT hne, ↓wpF, List.replicate, List.cons_append, List.nil_append, List.append_nil, ↓wpS, ↓wpE, wpB, List.set_cons_zero, List.set_cons_succ, ↓wpO, ↓wpR, ↓wpD, ↓wpC, wpT, true_and, wpA, ↓wpI, decide_eq_true_eq, Bool.not_true, Bool.not_false, if_true, Bool.false_eq_true, if_false, List.take_succ_cons, List.take_zero]
      have l2 : (-(lim : Int) ≤ 2 ∧ 2 ≤ (lim : Int)) := ⟨by unfold lim; omega, by unfold lim; omega⟩
      cases isiB t "bool" with
      | true =>
        try simp only [↓wpF, List.replicate, List.cons_append, List.nil_append, List.append_nil, ↓wpS, ↓wpE, wpB, List.set_cons_zero, List.set_cons_succ, ↓wpO, ↓wpR, ↓wpD, ↓wpC, wpT, true_and, wpA, ↓wpI, decide_eq_true_eq, Bool.not_true, Bool.not_false, if_true, Bool.false_eq_true, if_false, List.take_succ_cons, List.take_zero]
        refine bounds_w h1 (by omega) fun lo hi d2 h2 => ?_
        try simp only [↓wpF, List.replicate, List.cons_append, List.nil_append, List.append_nil, ↓wpS, ↓wpE, wpB, List.set_cons_zero, List.set_cons_succ, ↓wpO, ↓wpR, ↓wpD, ↓wpC, wpT, true_and, wpA, ↓wpI, decide_eq_true_eq, Bool.not_true, Bool.not_false, if_true, Bool.false_eq_true, if_false, List.take_succ_cons, List.take_zero]
        exact ⟨rfl, l2, inner lo hi false _ _ _ _ (fun K X k => whole_o ht hne k) fun _ => ⟨_, _, _, _, _, _, _, _, rfl⟩⟩
      | false =>
        try simp only [↓wpF, List.replicate, List.cons_append, List.nil_append, List.append_nil, ↓wpS, ↓wpE, wpB, List.set_cons_zero, List.set_cons_succ, ↓wpO, ↓wpR, ↓wpD, ↓wpC, wpT, true_and, wpA, ↓wpI, decide_eq_true_eq, Bool.not_true, Bool.not_false, if_true, Bool.false_eq_true, if_false, List.take_succ_cons, List.take_zero]
        refine bounds_w h1 (by omega) fun lo hi d2 h2 => ?_
        try simp only [↓wpF, List.replicate, List.cons_append, List.nil_append, List.append_nil, ↓wpS, ↓wpE, wpB, List.set_cons_zero, List.set_cons_succ, ↓wpO, ↓wpR, ↓wpD, ↓wpC, wpT, true_and, wpA, ↓wpI, decide_eq_true_eq, Bool.not_true, Bool.not_false, if_true, Bool.false_eq_true, if_false, List.take_succ_cons, List.take_zero]
        exact ⟨rfl, l2, inner lo hi false _ _ _ _ (fun K X k => whole_o ht hne k) fun _ => ⟨_, _, _, _, _, _, _, _, rfl⟩⟩
  · rintro e ⟨a1, a2, a3, a4, a5, a6, a7, a8, rfl⟩
    try simp only [↓wpF, List.replicate, List.cons_append, List.nil_append, List.append_nil, ↓wpS, ↓wpE, wpB, List.set_cons_zero, List.set_cons_succ, ↓wpO, ↓wpR, ↓wpD, ↓wpC, wpT, true_and, wpA, ↓wpI, decide_eq_true_eq, Bool.not_true, Bool.not_false, if_true, Bool.false_eq_true, if_false, List.take_succ_cons, List.take_zero]
end K01
namespace K01
open PySem PySem.Spec L2 Rm
def top (i : Nat) : Stmt := PySem.Challenge.pw_reachmarks_k01_words_of_anything.main.body.getD i (.Pass ⟨0, 0, 0, 0⟩)
abbrev s_is_whole : Stmt := top 3
abbrev s_is_name : Stmt := top 4
abbrev s_l_cell : Stmt := top 6
abbrev s_l_box : Stmt := top 7
abbrev s_l_take : Stmt := top 8
abbrev s_l_page : Stmt := top 9
abbrev s_l_text : Stmt := top 10
abbrev s_l_thing : Stmt := top 11
abbrev s_l_is_name : Stmt := top 12
abbrev s_l_bounds : Stmt := top 13
abbrev s_l_truth : Stmt := top 14
abbrev s_law : Stmt := top 15
section
variable {P : Program} {w : World} {K : PySem.W.Frag} {mg : Str → Option Value} {base : Heap} {cl fa : Nat → Addr}
theorem sc_is_whole : FnScope [("thing" : Str), ("low" : Str), ("high" : Str)] [("thing" : Str), ("low" : Str), ("high" : Str)] (defScope s_is_whole) := ⟨rfl, rfl, rfl, by decide +kernel, rfl, by decide +kernel, by decide +kernel⟩
theorem fk_is_whole {f : Addr} {fd : FuncData} (F : FunD K ("is_whole" : Str) ("is_whole" : Str) (defArgs s_is_whole) (defBody s_is_whole) (defScope s_is_whole) [] [] f fd) (f_bool : mg ("bool" : Str) = none) (f_int : mg ("int" : Str) = none) (f_isinstance : mg ("isinstance" : Str) = none) :
  FnOk P w K mg base (L2.CX P w) 1 f fd [("thing" : Str), ("low" : Str), ("high" : Str)] (SpF ⟨K, cl, fa⟩ [.sh, .sh, .sh] .sh F_is_whole) :=
  have nd : List.Nodup [("thing" : Str), ("low" : Str), ("high" : Str)] := sc_is_whole.nd
  fn_ok cl fa [.sh, .sh, .sh] .sh F sc_is_whole rfl (by decide) (κe := [.sh, .sh, .sh]) (by rfl) fun cdv A outer s H E hr =>
 lx_cons (sx_ret (Bx.ex' (bx_and (bx_ex (ex_isi1 rfl f_isinstance (ev_cons (ex_var 0 rfl (.inl rfl) rfl) (ev_cons ((ex_ty rfl f_int (by decide +kernel))) (ev_nil))))) (bx_and (bx_not (bx_ex (ex_isi1 rfl f_isinstance (ev_cons (ex_var 0 rfl (.inl rfl) rfl) (ev_cons ((ex_ty rfl f_bool (by decide +kernel))) (ev_nil)))))) (bx_one (bx_ex (ex_le_le (ex_var 1 rfl (.inl rfl) rfl) (ex_var 0 rfl (.inl rfl) rfl) (ex_var 2 rfl (.inl rfl) rfl))))))) rfl) (lx_nil)
theorem ok_is_whole {f : Addr} {fd : FuncData} (F : FunD K ("is_whole" : Str) ("is_whole" : Str) (defArgs s_is_whole) (defBody s_is_whole) (defScope s_is_whole) [] [] f fd) (hm : mg ("is_whole" : Str) = some (.ref f)) (f_bool : mg ("bool" : Str) = none) (f_int : mg ("int" : Str) = none) (f_isinstance : mg ("isinstance" : Str) = none) :
  Cal P w K mg base ("is_whole" : Str) 1 [("thing" : Str), ("low" : Str), ("high" : Str)] (SpF ⟨K, cl, fa⟩ [.sh, .sh, .sh] .sh F_is_whole) :=
  Cal.mk' F hm (fk_is_whole F f_bool f_int f_isinstance) (fun _ _ _ _ _ _ us hl => match us, hl with | [_, _, _], _ => rfl)
theorem sc_is_name : FnScope [("thing" : Str), ("sign" : Str)] [("thing" : Str)] (defScope s_is_name) := ⟨rfl, rfl, rfl, by decide +kernel, rfl, by decide +kernel, by decide +kernel⟩
theorem fk_is_name {f : Addr} {fd : FuncData} (F : FunD K ("is_name" : Str) ("is_name" : Str) (defArgs s_is_name) (defBody s_is_name) (defScope s_is_name) [] [] f fd) (f_isinstance : mg ("isinstance" : Str) = none) (f_len : mg ("len" : Str) = none) (f_str : mg ("str" : Str) = none) (g_LETTERS : ∃ t, mg ("LETTERS" : Str) = some (.str ("abcdefghijklmnopqrstuvwxyz" : Str) t)) (g_LONGEST : ∃ t, mg ("LONGEST" : Str) = some (.int 6 t)) :
  FnOk P w K mg base (L2.CX P w) 1 f fd [("thing" : Str)] (SpF ⟨K, cl, fa⟩ [.sh] .sh F_is_name) :=
  have nd : List.Nodup [("thing" : Str), ("sign" : Str)] := sc_is_name.nd
  fn_ok cl fa [.sh] .sh F sc_is_name rfl (by decide) (κe := [.sh, .un]) (by rfl) fun cdv A outer s H E hr =>
 lx_cons (κ1 := [.sh, .un]) (sx_if (Wx.tx (wx_or (tx_not (tx_val (ex_isi1 rfl f_isinstance (ev_cons (ex_var 0 rfl (.inl rfl) rfl) (ev_cons ((ex_ty rfl f_str (by decide +kernel))) (ev_nil)))))) (wx_or1 (tx_not (tx_le_le (ex_int) (ex_len rfl f_len (ev_cons (ex_var 0 rfl (.inl rfl) rfl) (ev_nil))) (ex_gi g_LONGEST))))))
 (lx_cons (sx_ret (ex_bl) rfl) (lx_nil))
 (lx_nil))
 (lx_cons (sx_ret (ex_cs (cs_eq hr) (ev_cons (Ex.frz (ex_lc (κb := [.sh, .un]) (own := [(("sign" : Str), 1)]) nd (ixs (ex_var 0 rfl (.inl rfl) rfl)) (blkOk_by (by rfl)) (fun _ _ _ _ _ => gt_name 1 nd rfl (.inl rfl)) (fun _ _ _ _ _ => cx_one (tx_cs (cs_notIn hr) (ev_cons (ex_var 1 rfl (by first | exact .inl rfl | exact .inr (.inl rfl) | exact .inr (.inr rfl)) rfl) (ev_cons (ex_gs g_LETTERS) (ev_nil))))) (fun _ _ _ _ _ => ex_var 1 rfl (by first | exact .inl rfl | exact .inr (.inl rfl) | exact .inr (.inr rfl)) rfl))) (ev_cons (Ex.frz (ex_lst (ax_nil))) (ev_nil)))) rfl) (lx_nil))
theorem ok_is_name {f : Addr} {fd : FuncData} (F : FunD K ("is_name" : Str) ("is_name" : Str) (defArgs s_is_name) (defBody s_is_name) (defScope s_is_name) [] [] f fd) (hm : mg ("is_name" : Str) = some (.ref f)) (f_isinstance : mg ("isinstance" : Str) = none) (f_len : mg ("len" : Str) = none) (f_str : mg ("str" : Str) = none) (g_LETTERS : ∃ t, mg ("LETTERS" : Str) = some (.str ("abcdefghijklmnopqrstuvwxyz" : Str) t)) (g_LONGEST : ∃ t, mg ("LONGEST" : Str) = some (.int 6 t)) :
  Cal P w K mg base ("is_name" : Str) 1 [("thing" : Str)] (SpF ⟨K, cl, fa⟩ [.sh] .sh F_is_name) :=
  Cal.mk' F hm (fk_is_name F f_isinstance f_len f_str g_LETTERS g_LONGEST) (fun _ _ _ _ _ _ us hl => match us, hl with | [_], _ => rfl)
theorem sc_l_cell : FnScope [("_law_script" : Str), ("_law_k" : Str)] [("_law_script" : Str), ("_law_k" : Str)] (defScope s_l_cell) := ⟨rfl, rfl, rfl, by decide +kernel, rfl, by decide +kernel, by decide +kernel⟩
theorem fk_l_cell {f : Addr} {fd : FuncData} (F : FunD K ("_law_cell" : Str) ("_law_cell" : Str) (defArgs s_l_cell) (defBody s_l_cell) (defScope s_l_cell) [] [] f fd) (f_len : mg ("len" : Str) = none) :
  FnOk P w K mg base (L2.CX P w) 1 f fd [("_law_script" : Str), ("_law_k" : Str)] (SpF ⟨K, cl, fa⟩ [.sh, .sh] .sh F_l_cell) :=
  have nd : List.Nodup [("_law_script" : Str), ("_law_k" : Str)] := sc_l_cell.nd
  fn_ok cl fa [.sh, .sh] .sh F sc_l_cell rfl (by decide) (κe := [.sh, .sh]) (by rfl) fun cdv A outer s H E hr =>
 lx_cons (κ1 := [.sh, .sh]) (sx_if (tx_cs cs_lt (ev_cons (ex_var 1 rfl (.inl rfl) rfl) (ev_cons (ex_len rfl f_len (ev_cons (ex_var 0 rfl (.inl rfl) rfl) (ev_nil))) (ev_nil))))
 (lx_cons (sx_ret (ex_index (ev_cons (ex_var 0 rfl (.inl rfl) rfl) (ev_cons (ex_var 1 rfl (.inl rfl) rfl) (ev_nil)))) rfl) (lx_nil))
 (lx_nil))
 (lx_cons (sx_ret (ex_add (ev_cons (ex_mul (ev_cons (ex_int) (ev_cons (ex_var 1 rfl (.inl rfl) rfl) (ev_nil)))) (ev_cons (ex_int) (ev_nil)))) rfl) (lx_nil))
theorem ok_l_cell {f : Addr} {fd : FuncData} (F : FunD K ("_law_cell" : Str) ("_law_cell" : Str) (defArgs s_l_cell) (defBody s_l_cell) (defScope s_l_cell) [] [] f fd) (hm : mg ("_law_cell" : Str) = some (.ref f)) (f_len : mg ("len" : Str) = none) :
  Cal P w K mg base ("_law_cell" : Str) 1 [("_law_script" : Str), ("_law_k" : Str)] (SpF ⟨K, cl, fa⟩ [.sh, .sh] .sh F_l_cell) :=
  Cal.mk' F hm (fk_l_cell F f_len) (fun _ _ _ _ _ _ us hl => match us, hl with | [_, _], _ => rfl)
theorem sc_l_box : FnScope [("_law_cell_here" : Str)] [("_law_cell_here" : Str)] (defScope s_l_box) := ⟨rfl, rfl, rfl, by decide +kernel, rfl, by decide +kernel, by decide +kernel⟩
theorem fk_l_box {f : Addr} {fd : FuncData} (F : FunD K ("_law_box" : Str) ("_law_box" : Str) (defArgs s_l_box) (defBody s_l_box) (defScope s_l_box) [] [] f fd) (f_max : mg ("max" : Str) = none) :
  FnOk P w K mg base (L2.CX P w) 1 f fd [("_law_cell_here" : Str)] (SpF ⟨K, cl, fa⟩ [.sh] (.ow 0) F_l_box) :=
  have nd : List.Nodup [("_law_cell_here" : Str)] := sc_l_box.nd
  fn_ok cl fa [.sh] (.ow 0) F sc_l_box rfl (by decide) (κe := [.sh]) (by rfl) fun cdv A outer s H E hr =>
 lx_cons (sx_ret (ex_lst (ax_cons (ex_max2 rfl f_max (ev_cons (ex_int) (ev_cons (ex_sub (ev_cons (ex_var 0 rfl (.inl rfl) rfl) (ev_cons (ex_pow (ev_cons (ex_int) (ev_cons (ex_int) (ev_nil)))) (ev_nil)))) (ev_nil)))) (ax_cons (ex_mod (ev_cons (ex_var 0 rfl (.inl rfl) rfl) (ev_cons (ex_int) (ev_nil)))) (ax_cons (ex_int) (ax_nil))))) rfl) (lx_nil)
theorem ok_l_box {f : Addr} {fd : FuncData} (F : FunD K ("_law_box" : Str) ("_law_box" : Str) (defArgs s_l_box) (defBody s_l_box) (defScope s_l_box) [] [] f fd) (hm : mg ("_law_box" : Str) = some (.ref f)) (f_max : mg ("max" : Str) = none) :
  Cal P w K mg base ("_law_box" : Str) 1 [("_law_cell_here" : Str)] (SpF ⟨K, cl, fa⟩ [.sh] (.ow 0) F_l_box) :=
  Cal.mk' F hm (fk_l_box F f_max) (fun _ _ _ _ _ _ us hl => match us, hl with | [_], _ => rfl)
theorem sc_l_take : FnScope [("_law_box_here" : Str), ("_law_many" : Str), ("_law_digit" : Str), ("_law_turn" : Str), ("_law_number" : Str)] [("_law_box_here" : Str), ("_law_many" : Str)] (defScope s_l_take) := ⟨rfl, rfl, rfl, by decide +kernel, rfl, by decide +kernel, by decide +kernel⟩
theorem fk_l_take {f : Addr} {fd : FuncData} (F : FunD K ("_law_take" : Str) ("_law_take" : Str) (defArgs s_l_take) (defBody s_l_take) (defScope s_l_take) [] [] f fd)  :
  FnOk P w K mg base (L2.CX P w) 1 f fd [("_law_box_here" : Str), ("_law_many" : Str)] (SpF ⟨K, cl, fa⟩ [.ow 0, .sh] .sh F_l_take) :=
  have nd : List.Nodup [("_law_box_here" : Str), ("_law_many" : Str), ("_law_digit" : Str), ("_law_turn" : Str), ("_law_number" : Str)] := sc_l_take.nd
  fn_ok cl fa [.ow 0, .sh] .sh F sc_l_take rfl (by decide) (κe := [.ow 0, .sh, .un, .un, .un]) (by rfl) fun cdv A outer s H E hr =>
 lx_cons (κ1 := [.ow 0, .sh, .un, .un, .un]) (sx_if (tx_cs cs_gt (ev_cons (ex_indexO (ev_io 0 0 rfl (.inl rfl) rfl (ev_cons (ex_int) (ev_nil)))) (ev_cons (ex_int) (ev_nil))))
 (lx_cons (κ1 := [.ow 0, .sh, .sh, .un, .un]) (sx_asg (ex_mod (ev_cons (ex_indexO (ev_io 0 0 rfl (.inl rfl) rfl (ev_cons (ex_int) (ev_nil)))) (ev_cons (ex_var 1 rfl (.inl rfl) rfl) (ev_nil)))) (gt_name 2 nd rfl (.inl rfl)))
 (lx_cons (κ1 := [.ow 0, .sh, .sh, .un, .un]) (sx_setI 0 rfl (.inl rfl) (ex_fdiv (ev_cons (ex_indexO (ev_io 0 0 rfl (.inl rfl) rfl (ev_cons (ex_int) (ev_nil)))) (ev_cons (ex_var 1 rfl (.inl rfl) rfl) (ev_nil)))) rfl (ex_int))
 (lx_cons (sx_ret (ex_var 2 rfl (.inl rfl) rfl) rfl) (lx_nil))))
 (lx_nil))
 (lx_cons (κ1 := [.ow 0, .sh, .un, .un, .un]) (sx_setI 0 rfl (.inl rfl) (ex_add (ev_cons (ex_indexO (ev_io 0 0 rfl (.inl rfl) rfl (ev_cons (ex_int) (ev_nil)))) (ev_cons (ex_int) (ev_nil)))) rfl (ex_int))
 (lx_cons (κ1 := [.ow 0, .sh, .un, .sh, .un]) (sx_asg (ex_indexO (ev_io 0 0 rfl (.inl rfl) rfl (ev_cons (ex_int) (ev_nil)))) (gt_name 3 nd rfl (.inl rfl)))
 (lx_cons (κ1 := [.ow 0, .sh, .un, .sh, .sh]) (sx_asg (ex_mod (ev_cons (ex_add (ev_cons (ex_add (ev_cons (ex_indexO (ev_io 0 0 rfl (.inl rfl) rfl (ev_cons (ex_int) (ev_nil)))) (ev_cons (ex_mul (ev_cons (ex_mul (ev_cons (ex_int) (ev_cons (ex_var 3 rfl (.inl rfl) rfl) (ev_nil)))) (ev_cons (ex_var 3 rfl (.inl rfl) rfl) (ev_nil)))) (ev_nil)))) (ev_cons (ex_mul (ev_cons (ex_int) (ev_cons (ex_var 3 rfl (.inl rfl) rfl) (ev_nil)))) (ev_nil)))) (ev_cons (ex_int) (ev_nil)))) (gt_name 4 nd rfl (.inl rfl)))
 (lx_cons (κ1 := [.ow 0, .sh, .un, .sh, .sh]) (sx_asg (ex_mod (ev_cons (ex_pow (ev_cons (ex_var 4 rfl (.inl rfl) rfl) (ev_cons (ex_int) (ev_nil)))) (ev_cons (ex_int) (ev_nil)))) (gt_name 4 nd rfl (.inl rfl)))
 (lx_cons (sx_ret (ex_mod (ev_cons (ex_fdiv (ev_cons (ex_mod (ev_cons (ex_add (ev_cons (ex_mul (ev_cons (ex_var 4 rfl (.inl rfl) rfl) (ev_cons (ex_var 4 rfl (.inl rfl) rfl) (ev_nil)))) (ev_cons (ex_mul (ev_cons (ex_int) (ev_cons (ex_var 3 rfl (.inl rfl) rfl) (ev_nil)))) (ev_nil)))) (ev_cons (ex_int) (ev_nil)))) (ev_cons (ex_int) (ev_nil)))) (ev_cons (ex_var 1 rfl (.inl rfl) rfl) (ev_nil)))) rfl) (lx_nil))))))
theorem ok_l_take {f : Addr} {fd : FuncData} (F : FunD K ("_law_take" : Str) ("_law_take" : Str) (defArgs s_l_take) (defBody s_l_take) (defScope s_l_take) [] [] f fd) (hm : mg ("_law_take" : Str) = some (.ref f))  :
  Cal P w K mg base ("_law_take" : Str) 1 [("_law_box_here" : Str), ("_law_many" : Str)] (SpF ⟨K, cl, fa⟩ [.ow 0, .sh] .sh F_l_take) :=
  Cal.mk' F hm (fk_l_take F ) (fun _ _ _ _ _ _ us hl => match us, hl with | [_, _], _ => rfl)
theorem sc_l_page : FnScope [("_law_page_here" : Str)] [] (defScope s_l_page) := ⟨rfl, rfl, rfl, by decide +kernel, rfl, by decide +kernel, by decide +kernel⟩
theorem fk_l_page {f : Addr} {fd : FuncData} (F : FunD K ("_law_page" : Str) ("_law_page" : Str) (defArgs s_l_page) (defBody s_l_page) (defScope s_l_page) [] [] f fd)  :
  FnOk P w K mg base (L2.CX P w) 1 f fd [] (SpF ⟨K, cl, fa⟩ [] .sh F_l_page) :=
  have nd : List.Nodup [("_law_page_here" : Str)] := sc_l_page.nd
  fn_ok cl fa [] .sh F sc_l_page rfl (by decide) (κe := [.un]) (by rfl) fun cdv A outer s H E hr =>
 lx_cons (κ1 := [.sh]) (sx_asg (ex_str) (gt_name 0 nd rfl (.inl rfl)))
 (lx_cons (sx_ret (ex_add (ev_cons (ex_var 0 rfl (.inl rfl) rfl) (ev_cons (ex_str) (ev_nil)))) rfl) (lx_nil))
theorem ok_l_page {f : Addr} {fd : FuncData} (F : FunD K ("_law_page" : Str) ("_law_page" : Str) (defArgs s_l_page) (defBody s_l_page) (defScope s_l_page) [] [] f fd) (hm : mg ("_law_page" : Str) = some (.ref f))  :
  Cal P w K mg base ("_law_page" : Str) 1 [] (SpF ⟨K, cl, fa⟩ [] .sh F_l_page) :=
  Cal.mk' F hm (fk_l_page F ) (fun _ _ _ _ _ _ us hl => match us, hl with | [], _ => rfl)
theorem sc_l_text : FnScope [("_law_box_here" : Str), ("_law_spoil" : Str), ("_law_many" : Str), ("_law_sign" : Str), ("_law_letters" : Str), ("_law_text_here" : Str), ("_law_at" : Str), ("_law_k" : Str)] [("_law_box_here" : Str)] (defScope s_l_text) := ⟨rfl, rfl, rfl, by decide +kernel, rfl, by decide +kernel, by decide +kernel⟩
theorem fk_l_text {f : Addr} {fd : FuncData} (F : FunD K ("_law_text" : Str) ("_law_text" : Str) (defArgs s_l_text) (defBody s_l_text) (defScope s_l_text) [] [] f fd) (f_range : mg ("range" : Str) = none) (c_l_page : Cal P w K mg base ("_law_page" : Str) 1 [] (SpF ⟨K, cl, fa⟩ [] .sh F_l_page)) (c_l_take : Cal P w K mg base ("_law_take" : Str) 1 [("_law_box_here" : Str), ("_law_many" : Str)] (SpF ⟨K, cl, fa⟩ [.ow 0, .sh] .sh F_l_take)) :
  FnOk P w K mg base (L2.CX P w) 2 f fd [("_law_box_here" : Str)] (SpF ⟨K, cl, fa⟩ [.ow 0] .sh F_l_text) :=
  have nd : List.Nodup [("_law_box_here" : Str), ("_law_spoil" : Str), ("_law_many" : Str), ("_law_sign" : Str), ("_law_letters" : Str), ("_law_text_here" : Str), ("_law_at" : Str), ("_law_k" : Str)] := sc_l_text.nd
  fn_ok cl fa [.ow 0] .sh F sc_l_text rfl (by decide) (κe := [.ow 0, .un, .un, .un, .un, .un, .un, .un]) (by rfl) fun cdv A outer s H E hr =>
 lx_cons (κ1 := [.ow 0, .sh, .un, .un, .un, .un, .un, .un]) (sx_asg (ex_c c_l_take (hr.mono (by decide)) (ax_io 0 0 rfl (.inr (.inl rfl)) rfl (ax_cons (ex_int) (ax_nil)))) (gt_name 1 nd rfl (.inl rfl)))
 (lx_cons (κ1 := [.ow 0, .sh, .sh, .un, .un, .un, .un, .un]) (sx_asg (ex_c c_l_take (hr.mono (by decide)) (ax_io 0 0 rfl (.inr (.inl rfl)) rfl (ax_cons (ex_int) (ax_nil)))) (gt_name 2 nd rfl (.inl rfl)))
 (lx_cons (κ1 := [.ow 0, .sh, .sh, .sh, .un, .un, .un, .un]) (sx_asg (ex_index (ev_cons (ex_c0 c_l_page (hr.mono (by decide))) (ev_cons (ex_c c_l_take (hr.mono (by decide)) (ax_io 0 0 rfl (.inr (.inl rfl)) rfl (ax_cons (ex_int) (ax_nil)))) (ev_nil)))) (gt_name 3 nd rfl (.inl rfl)))
 (lx_cons (κ1 := [.ow 0, .sh, .sh, .sh, .sh, .un, .un, .un]) (sx_asg (ex_str) (gt_name 4 nd rfl (.inr rfl)))
 (lx_cons (κ1 := [.ow 0, .sh, .sh, .sh, .sh, .sh, .un, .un]) (sx_asg (ex_join (ex_str) (ev_cons (Ex.frz (ex_lc (κb := [.ow 0, .sh, .sh, .sh, .sh, .un, .un, .un]) (own := [(("_law_k" : Str), 7)]) nd (ix_rng1 rfl f_range (ax_cons (ex_var 2 rfl (.inl rfl) rfl) (ax_nil))) (blkOk_by (by rfl)) (fun _ _ _ _ _ => gt_name 7 nd rfl (.inl rfl)) (fun _ _ _ _ _ => cx_nil) (fun _ _ _ _ _ => ex_index (ev_cons (ex_var 4 rfl (by first | exact .inl rfl | exact .inr (.inl rfl) | exact .inr (.inr rfl)) rfl) (ev_cons (ex_c c_l_take (hr.mono (by decide)) (ax_io 0 0 rfl (by first | exact .inl rfl | exact .inr (.inl rfl) | exact .inr (.inr rfl)) rfl (ax_cons (ex_int) (ax_nil)))) (ev_nil)))))) ev_nil)) (gt_name 5 nd rfl (.inl rfl)))
 (lx_cons (κ1 := [.ow 0, .sh, .sh, .sh, .sh, .sh, .sh, .un]) (sx_asg (ex_c c_l_take (hr.mono (by decide)) (ax_io 0 0 rfl (.inr (.inl rfl)) rfl (ax_cons (ex_add (ev_cons (ex_var 2 rfl (.inl rfl) rfl) (ev_cons (ex_int) (ev_nil)))) (ax_nil)))) (gt_name 6 nd rfl (.inl rfl)))
 (lx_cons (κ1 := [.ow 0, .sh, .sh, .sh, .sh, .sh, .sh, .un]) (sx_if (tx_cs (cs_eq hr) (ev_cons (ex_var 1 rfl (.inl rfl) rfl) (ev_cons (ex_int) (ev_nil))))
 (lx_cons (sx_ret (ex_add (ev_cons (ex_add (ev_cons (ex_slS (ex_var 5 rfl (.inl rfl) rfl) (ox_none) (ox_some (ex_var 6 rfl (.inl rfl) rfl))) (ev_cons (ex_var 3 rfl (.inl rfl) rfl) (ev_nil)))) (ev_cons (ex_slS (ex_var 5 rfl (.inl rfl) rfl) (ox_some (ex_var 6 rfl (.inl rfl) rfl)) (ox_none)) (ev_nil)))) rfl) (lx_nil))
 (lx_nil))
 (lx_cons (κ1 := [.ow 0, .sh, .sh, .sh, .sh, .sh, .sh, .un]) (sx_if (tx_cs (cs_eq hr) (ev_cons (ex_var 1 rfl (.inl rfl) rfl) (ev_cons (ex_int) (ev_nil))))
 (lx_cons (sx_ret (ex_add (ev_cons (ex_add (ev_cons (ex_slS (ex_var 5 rfl (.inl rfl) rfl) (ox_none) (ox_some (ex_var 6 rfl (.inl rfl) rfl))) (ev_cons (ex_var 3 rfl (.inl rfl) rfl) (ev_nil)))) (ev_cons (ex_slS (ex_var 5 rfl (.inl rfl) rfl) (ox_some (ex_add (ev_cons (ex_var 6 rfl (.inl rfl) rfl) (ev_cons (ex_int) (ev_nil))))) (ox_none)) (ev_nil)))) rfl) (lx_nil))
 (lx_nil))
 (lx_cons (sx_ret (ex_var 5 rfl (.inl rfl) rfl) rfl) (lx_nil)))))))))
theorem ok_l_text {f : Addr} {fd : FuncData} (F : FunD K ("_law_text" : Str) ("_law_text" : Str) (defArgs s_l_text) (defBody s_l_text) (defScope s_l_text) [] [] f fd) (hm : mg ("_law_text" : Str) = some (.ref f)) (f_range : mg ("range" : Str) = none) (c_l_page : Cal P w K mg base ("_law_page" : Str) 1 [] (SpF ⟨K, cl, fa⟩ [] .sh F_l_page)) (c_l_take : Cal P w K mg base ("_law_take" : Str) 1 [("_law_box_here" : Str), ("_law_many" : Str)] (SpF ⟨K, cl, fa⟩ [.ow 0, .sh] .sh F_l_take)) :
  Cal P w K mg base ("_law_text" : Str) 2 [("_law_box_here" : Str)] (SpF ⟨K, cl, fa⟩ [.ow 0] .sh F_l_text) :=
  Cal.mk' F hm (fk_l_text F f_range c_l_page c_l_take) (fun _ _ _ _ _ _ us hl => match us, hl with | [_], _ => rfl)
theorem sc_l_thing : FnScope [("_law_box_here" : Str), ("_law_mode" : Str), ("_law_some" : Str)] [("_law_box_here" : Str)] (defScope s_l_thing) := ⟨rfl, rfl, rfl, by decide +kernel, rfl, by decide +kernel, by decide +kernel⟩
theorem fk_l_thing {f : Addr} {fd : FuncData} (F : FunD K ("_law_thing" : Str) ("_law_thing" : Str) (defArgs s_l_thing) (defBody s_l_thing) (defScope s_l_thing) [] [] f fd) (c_l_take : Cal P w K mg base ("_law_take" : Str) 1 [("_law_box_here" : Str), ("_law_many" : Str)] (SpF ⟨K, cl, fa⟩ [.ow 0, .sh] .sh F_l_take)) (c_l_text : Cal P w K mg base ("_law_text" : Str) 2 [("_law_box_here" : Str)] (SpF ⟨K, cl, fa⟩ [.ow 0] .sh F_l_text)) :
  FnOk P w K mg base (L2.CX P w) 3 f fd [("_law_box_here" : Str)] (SpF ⟨K, cl, fa⟩ [.ow 0] .sh F_l_thing) :=
  have nd : List.Nodup [("_law_box_here" : Str), ("_law_mode" : Str), ("_law_some" : Str)] := sc_l_thing.nd
  fn_ok cl fa [.ow 0] .sh F sc_l_thing rfl (by decide) (κe := [.ow 0, .un, .un]) (by rfl) fun cdv A outer s H E hr =>
 lx_cons (κ1 := [.ow 0, .sh, .un]) (sx_asg (ex_c c_l_take (hr.mono (by decide)) (ax_io 0 0 rfl (.inl rfl) rfl (ax_cons (ex_int) (ax_nil)))) (gt_name 1 nd rfl (.inl rfl)))
 (lx_cons (κ1 := [.ow 0, .sh, .un]) (sx_if (tx_cs cs_lt (ev_cons (ex_var 1 rfl (.inl rfl) rfl) (ev_cons (ex_int) (ev_nil))))
 (lx_cons (sx_ret (ex_c c_l_text (hr.mono (by decide)) (ax_io 0 0 rfl (.inl rfl) rfl (ax_nil))) rfl) (lx_nil))
 (lx_nil))
 (lx_cons (κ1 := [.ow 0, .sh, .un]) (sx_if (tx_cs cs_lt (ev_cons (ex_var 1 rfl (.inl rfl) rfl) (ev_cons (ex_int) (ev_nil))))
 (lx_cons (sx_ret (ex_sub (ev_cons (ex_c c_l_take (hr.mono (by decide)) (ax_io 0 0 rfl (.inl rfl) rfl (ax_cons (ex_int) (ax_nil)))) (ev_cons (ex_int) (ev_nil)))) rfl) (lx_nil))
 (lx_nil))
 (lx_cons (κ1 := [.ow 0, .sh, .un]) (sx_if (tx_cs (cs_eq hr) (ev_cons (ex_var 1 rfl (.inl rfl) rfl) (ev_cons (ex_int) (ev_nil))))
 (lx_cons (sx_ret (ex_add (ev_cons (ex_sub (ev_cons (ex_c c_l_take (hr.mono (by decide)) (ax_io 0 0 rfl (.inl rfl) rfl (ax_cons (ex_sub (ev_cons (ex_mul (ev_cons (ex_int) (ev_cons (ex_pow (ev_cons (ex_int) (ev_cons (ex_int) (ev_nil)))) (ev_nil)))) (ev_cons (ex_int) (ev_nil)))) (ax_nil)))) (ev_cons (ex_pow (ev_cons (ex_int) (ev_cons (ex_int) (ev_nil)))) (ev_nil)))) (ev_cons (ex_int) (ev_nil)))) rfl) (lx_nil))
 (lx_nil))
 (lx_cons (κ1 := [.ow 0, .sh, .sh]) (sx_asg (Ex.frz (ex_lst (ax_cons (ex_non) (ax_cons (ex_bl) (ax_cons (ex_bl) (ax_cons (Ex.frz (ex_lst (ax_nil))) (ax_cons (ex_tup (ax_nil)) (ax_cons (Ex.frz (ex_dict0)) (ax_cons (Ex.frz (ex_lst (ax_cons (ex_str) (ax_nil)))) (ax_cons (ex_tup (ax_cons (ex_str) (ax_nil))) (ax_cons (Ex.frz (ex_lst (ax_cons (ex_int) (ax_nil)))) (ax_cons (ex_tup (ax_cons (ex_int) (ax_nil))) (ax_cons (Ex.frz (ex_dict1 (ex_str) (ex_int))) (ax_cons (Ex.frz (ex_lst (ax_cons (ex_non) (ax_nil)))) (ax_cons (ex_tup (ax_cons (ex_str) (ax_cons (ex_int) (ax_nil)))) (ax_cons (Ex.frz (ex_dict1 (ex_int) (ex_str))) (ax_nil))))))))))))))))) (gt_name 2 nd rfl (.inl rfl)))
 (lx_cons (sx_ret (ex_index (ev_cons (ex_var 2 rfl (.inl rfl) rfl) (ev_cons (ex_c c_l_take (hr.mono (by decide)) (ax_io 0 0 rfl (.inl rfl) rfl (ax_cons (ex_int) (ax_nil)))) (ev_nil)))) rfl) (lx_nil))))))
theorem ok_l_thing {f : Addr} {fd : FuncData} (F : FunD K ("_law_thing" : Str) ("_law_thing" : Str) (defArgs s_l_thing) (defBody s_l_thing) (defScope s_l_thing) [] [] f fd) (hm : mg ("_law_thing" : Str) = some (.ref f)) (c_l_take : Cal P w K mg base ("_law_take" : Str) 1 [("_law_box_here" : Str), ("_law_many" : Str)] (SpF ⟨K, cl, fa⟩ [.ow 0, .sh] .sh F_l_take)) (c_l_text : Cal P w K mg base ("_law_text" : Str) 2 [("_law_box_here" : Str)] (SpF ⟨K, cl, fa⟩ [.ow 0] .sh F_l_text)) :
  Cal P w K mg base ("_law_thing" : Str) 3 [("_law_box_here" : Str)] (SpF ⟨K, cl, fa⟩ [.ow 0] .sh F_l_thing) :=
  Cal.mk' F hm (fk_l_thing F c_l_take c_l_text) (fun _ _ _ _ _ _ us hl => match us, hl with | [_], _ => rfl)
theorem sc_l_is_name : FnScope [("_law_thing_here" : Str), ("_law_sign" : Str)] [("_law_thing_here" : Str)] (defScope s_l_is_name) := ⟨rfl, rfl, rfl, by decide +kernel, rfl, by decide +kernel, by decide +kernel⟩
theorem fk_l_is_name {f : Addr} {fd : FuncData} (F : FunD K ("_law_is_name" : Str) ("_law_is_name" : Str) (defArgs s_l_is_name) (defBody s_l_is_name) (defScope s_l_is_name) [] [] f fd) (f_isinstance : mg ("isinstance" : Str) = none) (f_len : mg ("len" : Str) = none) (f_str : mg ("str" : Str) = none) :
  FnOk P w K mg base (L2.CX P w) 1 f fd [("_law_thing_here" : Str)] (SpF ⟨K, cl, fa⟩ [.sh] .sh F_l_is_name) :=
  have nd : List.Nodup [("_law_thing_here" : Str), ("_law_sign" : Str)] := sc_l_is_name.nd
  fn_ok cl fa [.sh] .sh F sc_l_is_name rfl (by decide) (κe := [.sh, .un]) (by rfl) fun cdv A outer s H E hr =>
 lx_cons (κ1 := [.sh, .un]) (sx_if (Wx.tx (wx_or (tx_not (tx_val (ex_isi1 rfl f_isinstance (ev_cons (ex_var 0 rfl (.inl rfl) rfl) (ev_cons ((ex_ty rfl f_str (by decide +kernel))) (ev_nil)))))) (wx_or (tx_cs (cs_eq hr) (ev_cons (ex_len rfl f_len (ev_cons (ex_var 0 rfl (.inl rfl) rfl) (ev_nil))) (ev_cons (ex_int) (ev_nil)))) (wx_or1 (tx_cs cs_gt (ev_cons (ex_len rfl f_len (ev_cons (ex_var 0 rfl (.inl rfl) rfl) (ev_nil))) (ev_cons (ex_int) (ev_nil))))))))
 (lx_cons (sx_ret (ex_bl) rfl) (lx_nil))
 (lx_nil))
 (lx_cons (κ1 := [.sh, .un]) (sx_for (κ1 := [.sh, .un]) (κ2 := [.sh, .sh]) (ixs (ex_var 0 rfl (.inl rfl) rfl)) (gt_name 1 nd rfl (.inl rfl)) rfl
 (Lx.weak (κ' := [.sh, .un]) (lx_cons (κ1 := [.sh, .sh]) (sx_if (Wx.tx (wx_or (tx_cs cs_lt (ev_cons (ex_var 1 rfl (.inl rfl) rfl) (ev_cons (ex_str) (ev_nil)))) (wx_or1 (tx_cs cs_gt (ev_cons (ex_var 1 rfl (.inl rfl) rfl) (ev_cons (ex_str) (ev_nil)))))))
 (lx_cons (sx_ret (ex_bl) rfl) (lx_nil))
 (lx_nil))
 (lx_nil)) rfl))
 (lx_cons (sx_ret (ex_bl) rfl) (lx_nil)))
theorem ok_l_is_name {f : Addr} {fd : FuncData} (F : FunD K ("_law_is_name" : Str) ("_law_is_name" : Str) (defArgs s_l_is_name) (defBody s_l_is_name) (defScope s_l_is_name) [] [] f fd) (hm : mg ("_law_is_name" : Str) = some (.ref f)) (f_isinstance : mg ("isinstance" : Str) = none) (f_len : mg ("len" : Str) = none) (f_str : mg ("str" : Str) = none) :
  Cal P w K mg base ("_law_is_name" : Str) 1 [("_law_thing_here" : Str)] (SpF ⟨K, cl, fa⟩ [.sh] .sh F_l_is_name) :=
  Cal.mk' F hm (fk_l_is_name F f_isinstance f_len f_str) (fun _ _ _ _ _ _ us hl => match us, hl with | [_], _ => rfl)
theorem sc_l_bounds : FnScope [("_law_box_here" : Str), ("_law_middle" : Str), ("_law_far" : Str), ("_law_low" : Str), ("_law_beyond" : Str), ("_law_high" : Str)] [("_law_box_here" : Str), ("_law_middle" : Str)] (defScope s_l_bounds) := ⟨rfl, rfl, rfl, by decide +kernel, rfl, by decide +kernel, by decide +kernel⟩
theorem fk_l_bounds {f : Addr} {fd : FuncData} (F : FunD K ("_law_bounds" : Str) ("_law_bounds" : Str) (defArgs s_l_bounds) (defBody s_l_bounds) (defScope s_l_bounds) [] [] f fd) (f_max : mg ("max" : Str) = none) (f_min : mg ("min" : Str) = none) (c_l_take : Cal P w K mg base ("_law_take" : Str) 1 [("_law_box_here" : Str), ("_law_many" : Str)] (SpF ⟨K, cl, fa⟩ [.ow 0, .sh] .sh F_l_take)) :
  FnOk P w K mg base (L2.CX P w) 2 f fd [("_law_box_here" : Str), ("_law_middle" : Str)] (SpF ⟨K, cl, fa⟩ [.ow 0, .sh] .sh F_l_bounds) :=
  have nd : List.Nodup [("_law_box_here" : Str), ("_law_middle" : Str), ("_law_far" : Str), ("_law_low" : Str), ("_law_beyond" : Str), ("_law_high" : Str)] := sc_l_bounds.nd
  fn_ok cl fa [.ow 0, .sh] .sh F sc_l_bounds rfl (by decide) (κe := [.ow 0, .sh, .un, .un, .un, .un]) (by rfl) fun cdv A outer s H E hr =>
 lx_cons (κ1 := [.ow 0, .sh, .sh, .un, .un, .un]) (sx_asg (ex_index (ev_cons (Ex.frz (ex_lst (ax_cons (ex_int) (ax_cons (ex_c c_l_take (hr.mono (by decide)) (ax_io 0 0 rfl (.inl rfl) rfl (ax_cons (ex_pow (ev_cons (ex_int) (ev_cons (ex_int) (ev_nil)))) (ax_nil)))) (ax_nil))))) (ev_cons (ex_c c_l_take (hr.mono (by decide)) (ax_io 0 0 rfl (.inl rfl) rfl (ax_cons (ex_int) (ax_nil)))) (ev_nil)))) (gt_name 2 nd rfl (.inl rfl)))
 (lx_cons (κ1 := [.ow 0, .sh, .sh, .sh, .un, .un]) (sx_asg (ex_sub (ev_cons (ex_add (ev_cons (ex_sub (ev_cons (ex_var 1 rfl (.inl rfl) rfl) (ev_cons (ex_var 2 rfl (.inl rfl) rfl) (ev_nil)))) (ev_cons (ex_c c_l_take (hr.mono (by decide)) (ax_io 0 0 rfl (.inl rfl) rfl (ax_cons (ex_int) (ax_nil)))) (ev_nil)))) (ev_cons (ex_int) (ev_nil)))) (gt_name 3 nd rfl (.inl rfl)))
 (lx_cons (κ1 := [.ow 0, .sh, .sh, .sh, .sh, .un]) (sx_asg (ex_index (ev_cons (Ex.frz (ex_lst (ax_cons (ex_int) (ax_cons (ex_c c_l_take (hr.mono (by decide)) (ax_io 0 0 rfl (.inl rfl) rfl (ax_cons (ex_pow (ev_cons (ex_int) (ev_cons (ex_int) (ev_nil)))) (ax_nil)))) (ax_nil))))) (ev_cons (ex_c c_l_take (hr.mono (by decide)) (ax_io 0 0 rfl (.inl rfl) rfl (ax_cons (ex_int) (ax_nil)))) (ev_nil)))) (gt_name 4 nd rfl (.inl rfl)))
 (lx_cons (κ1 := [.ow 0, .sh, .sh, .sh, .sh, .sh]) (sx_asg (ex_sub (ev_cons (ex_add (ev_cons (ex_add (ev_cons (ex_add (ev_cons (ex_var 3 rfl (.inl rfl) rfl) (ev_cons (ex_var 2 rfl (.inl rfl) rfl) (ev_nil)))) (ev_cons (ex_var 4 rfl (.inl rfl) rfl) (ev_nil)))) (ev_cons (ex_c c_l_take (hr.mono (by decide)) (ax_io 0 0 rfl (.inl rfl) rfl (ax_cons (ex_int) (ax_nil)))) (ev_nil)))) (ev_cons (ex_int) (ev_nil)))) (gt_name 5 nd rfl (.inl rfl)))
 (lx_cons (sx_ret (ex_tup (ax_cons (ex_min2 rfl f_min (ev_cons (ex_max2 rfl f_max (ev_cons (ex_var 3 rfl (.inl rfl) rfl) (ev_cons (ex_sub (ev_cons (ex_int) (ev_cons (ex_pow (ev_cons (ex_int) (ev_cons (ex_int) (ev_nil)))) (ev_nil)))) (ev_nil)))) (ev_cons (ex_sub (ev_cons (ex_pow (ev_cons (ex_int) (ev_cons (ex_int) (ev_nil)))) (ev_cons (ex_int) (ev_nil)))) (ev_nil)))) (ax_cons (ex_min2 rfl f_min (ev_cons (ex_max2 rfl f_max (ev_cons (ex_var 5 rfl (.inl rfl) rfl) (ev_cons (ex_sub (ev_cons (ex_int) (ev_cons (ex_pow (ev_cons (ex_int) (ev_cons (ex_int) (ev_nil)))) (ev_nil)))) (ev_nil)))) (ev_cons (ex_sub (ev_cons (ex_pow (ev_cons (ex_int) (ev_cons (ex_int) (ev_nil)))) (ev_cons (ex_int) (ev_nil)))) (ev_nil)))) (ax_nil)))) rfl) (lx_nil)))))
theorem ok_l_bounds {f : Addr} {fd : FuncData} (F : FunD K ("_law_bounds" : Str) ("_law_bounds" : Str) (defArgs s_l_bounds) (defBody s_l_bounds) (defScope s_l_bounds) [] [] f fd) (hm : mg ("_law_bounds" : Str) = some (.ref f)) (f_max : mg ("max" : Str) = none) (f_min : mg ("min" : Str) = none) (c_l_take : Cal P w K mg base ("_law_take" : Str) 1 [("_law_box_here" : Str), ("_law_many" : Str)] (SpF ⟨K, cl, fa⟩ [.ow 0, .sh] .sh F_l_take)) :
  Cal P w K mg base ("_law_bounds" : Str) 2 [("_law_box_here" : Str), ("_law_middle" : Str)] (SpF ⟨K, cl, fa⟩ [.ow 0, .sh] .sh F_l_bounds) :=
  Cal.mk' F hm (fk_l_bounds F f_max f_min c_l_take) (fun _ _ _ _ _ _ us hl => match us, hl with | [_, _], _ => rfl)
theorem sc_l_truth : FnScope [("_law_found" : Str), ("_law_due" : Str)] [("_law_found" : Str), ("_law_due" : Str)] (defScope s_l_truth) := ⟨rfl, rfl, rfl, by decide +kernel, rfl, by decide +kernel, by decide +kernel⟩
theorem fk_l_truth {f : Addr} {fd : FuncData} (F : FunD K ("_law_truth" : Str) ("_law_truth" : Str) (defArgs s_l_truth) (defBody s_l_truth) (defScope s_l_truth) [] [] f fd) (f_bool : mg ("bool" : Str) = none) (f_isinstance : mg ("isinstance" : Str) = none) :
  FnOk P w K mg base (L2.CX P w) 1 f fd [("_law_found" : Str), ("_law_due" : Str)] (SpF ⟨K, cl, fa⟩ [.sh, .sh] .sh F_l_truth) :=
  have nd : List.Nodup [("_law_found" : Str), ("_law_due" : Str)] := sc_l_truth.nd
  fn_ok cl fa [.sh, .sh] .sh F sc_l_truth rfl (by decide) (κe := [.sh, .sh]) (by rfl) fun cdv A outer s H E hr =>
 lx_cons (sx_ret (Bx.ex' (bx_and (bx_ex (ex_isi1 rfl f_isinstance (ev_cons (ex_var 0 rfl (.inl rfl) rfl) (ev_cons ((ex_ty rfl f_bool (by decide +kernel))) (ev_nil))))) (bx_one (bx_ex (ex_cs (cs_eq hr) (ev_cons (ex_var 0 rfl (.inl rfl) rfl) (ev_cons (ex_var 1 rfl (.inl rfl) rfl) (ev_nil)))))))) rfl) (lx_nil)
theorem ok_l_truth {f : Addr} {fd : FuncData} (F : FunD K ("_law_truth" : Str) ("_law_truth" : Str) (defArgs s_l_truth) (defBody s_l_truth) (defScope s_l_truth) [] [] f fd) (hm : mg ("_law_truth" : Str) = some (.ref f)) (f_bool : mg ("bool" : Str) = none) (f_isinstance : mg ("isinstance" : Str) = none) :
  Cal P w K mg base ("_law_truth" : Str) 1 [("_law_found" : Str), ("_law_due" : Str)] (SpF ⟨K, cl, fa⟩ [.sh, .sh] .sh F_l_truth) :=
  Cal.mk' F hm (fk_l_truth F f_bool f_isinstance) (fun _ _ _ _ _ _ us hl => match us, hl with | [_, _], _ => rfl)
theorem sc_law : FnScope [("_law_script" : Str), ("_law_k" : Str), ("_law_box_here" : Str), ("_law_thing_here" : Str), ("_law_whole" : Str), ("_law_low" : Str), ("_law_high" : Str), ("_law_within" : Str), ("_law_turn" : Str)] [("_law_script" : Str)] (defScope s_law) := ⟨rfl, rfl, rfl, by decide +kernel, rfl, by decide +kernel, by decide +kernel⟩
theorem fk_law {f : Addr} {fd : FuncData} (F : FunD K ("law" : Str) ("law" : Str) (defArgs s_law) (defBody s_law) (defScope s_law) [] [] f fd) (f_bool : mg ("bool" : Str) = none) (f_int : mg ("int" : Str) = none) (f_isinstance : mg ("isinstance" : Str) = none) (f_len : mg ("len" : Str) = none) (f_max : mg ("max" : Str) = none) (f_min : mg ("min" : Str) = none) (f_range : mg ("range" : Str) = none) (c_l_bounds : Cal P w K mg base ("_law_bounds" : Str) 2 [("_law_box_here" : Str), ("_law_middle" : Str)] (SpF ⟨K, cl, fa⟩ [.ow 0, .sh] .sh F_l_bounds)) (c_l_box : Cal P w K mg base ("_law_box" : Str) 1 [("_law_cell_here" : Str)] (SpF ⟨K, cl, fa⟩ [.sh] (.ow 0) F_l_box)) (c_l_cell : Cal P w K mg base ("_law_cell" : Str) 1 [("_law_script" : Str), ("_law_k" : Str)] (SpF ⟨K, cl, fa⟩ [.sh, .sh] .sh F_l_cell)) (c_l_is_name : Cal P w K mg base ("_law_is_name" : Str) 1 [("_law_thing_here" : Str)] (SpF ⟨K, cl, fa⟩ [.sh] .sh F_l_is_name)) (c_l_thing : Cal P w K mg base ("_law_thing" : Str) 3 [("_law_box_here" : Str)] (SpF ⟨K, cl, fa⟩ [.ow 0] .sh F_l_thing)) (c_l_truth : Cal P w K mg base ("_law_truth" : Str) 1 [("_law_found" : Str), ("_law_due" : Str)] (SpF ⟨K, cl, fa⟩ [.sh, .sh] .sh F_l_truth)) (c_is_name : Cal P w K mg base ("is_name" : Str) 1 [("thing" : Str)] (SpF ⟨K, cl, fa⟩ [.sh] .sh F_is_name)) (c_is_whole : Cal P w K mg base ("is_whole" : Str) 1 [("thing" : Str), ("low" : Str), ("high" : Str)] (SpF ⟨K, cl, fa⟩ [.sh, .sh, .sh] .sh F_is_whole)) :
  FnOk P w K mg base (L2.CX P w) 4 f fd [("_law_script" : Str)] (SpF ⟨K, cl, fa⟩ [.sh] .sh F_law) :=
  have nd : List.Nodup [("_law_script" : Str), ("_law_k" : Str), ("_law_box_here" : Str), ("_law_thing_here" : Str), ("_law_whole" : Str), ("_law_low" : Str), ("_law_high" : Str), ("_law_within" : Str), ("_law_turn" : Str)] := sc_law.nd
  fn_ok cl fa [.sh] .sh F sc_law rfl (by decide) (κe := [.sh, .un, .un, .un, .un, .un, .un, .un, .un]) (by rfl) fun cdv A outer s H E hr =>
 lx_cons (κ1 := [.sh, .un, .un, .un, .un, .un, .un, .un, .un]) (sx_for (κ1 := [.sh, .un, .un, .un, .un, .un, .un, .un, .un]) (κ2 := [.sh, .sh, .un, .un, .un, .un, .un, .un, .un]) (ix_rng1 rfl f_range (ax_cons (ex_max2 rfl f_max (ev_cons (ex_int) (ev_cons (ex_min2 rfl f_min (ev_cons (ex_int) (ev_cons (ex_len rfl f_len (ev_cons (ex_var 0 rfl (.inl rfl) rfl) (ev_nil))) (ev_nil)))) (ev_nil)))) (ax_nil))) (gt_name 1 nd rfl (.inl rfl)) rfl
 (Lx.weak (κ' := [.sh, .un, .un, .un, .un, .un, .un, .un, .un]) (lx_cons (κ1 := [.sh, .sh, .ow 0, .un, .un, .un, .un, .un, .un]) (sx_asg (ex_c c_l_box (hr.mono (by decide)) (ax_cons (ex_c c_l_cell (hr.mono (by decide)) (ax_cons (ex_var 0 rfl (.inl rfl) rfl) (ax_cons (ex_var 1 rfl (.inl rfl) rfl) (ax_nil)))) (ax_nil))) (gt_name 2 nd rfl (.inl rfl)))
 (lx_cons (κ1 := [.sh, .sh, .ow 0, .sh, .un, .un, .un, .un, .un]) (sx_asg (ex_c c_l_thing (hr.mono (by decide)) (ax_io 2 0 rfl (.inl rfl) rfl (ax_nil))) (gt_name 3 nd rfl (.inl rfl)))
 (lx_cons (κ1 := [.sh, .sh, .ow 0, .sh, .sh, .un, .un, .un, .un]) (sx_asg (Bx.ex' (bx_and (bx_ex (ex_isi1 rfl f_isinstance (ev_cons (ex_var 3 rfl (.inl rfl) rfl) (ev_cons ((ex_ty rfl f_int (by decide +kernel))) (ev_nil))))) (bx_one (bx_not (bx_ex (ex_isi1 rfl f_isinstance (ev_cons (ex_var 3 rfl (.inl rfl) rfl) (ev_cons ((ex_ty rfl f_bool (by decide +kernel))) (ev_nil))))))))) (gt_name 4 nd rfl (.inl rfl)))
 (lx_cons (κ1 := [.sh, .sh, .ow 0, .sh, .sh, .sh, .sh, .un, .un]) (sx_asg (ex_c c_l_bounds (hr.mono (by decide)) (ax_io 2 0 rfl (.inl rfl) rfl (ax_cons (ex_if (tx_val (ex_var 4 rfl (.inl rfl) rfl)) (ex_var 3 rfl (.inl rfl) rfl) (ex_int)) (ax_nil)))) (gt_tup (gts_cons (gt_name 5 nd rfl (.inl rfl)) (gts_cons (gt_name 6 nd rfl (.inl rfl)) (gts_nil)))))
 (lx_cons (κ1 := [.sh, .sh, .ow 0, .sh, .sh, .sh, .sh, .sh, .un]) (sx_asg (Bx.ex' (bx_and (bx_ex (ex_var 4 rfl (.inl rfl) rfl)) (bx_and (bx_ex (ex_cs cs_le (ev_cons (ex_var 5 rfl (.inl rfl) rfl) (ev_cons (ex_var 3 rfl (.inl rfl) rfl) (ev_nil))))) (bx_one (bx_ex (ex_cs cs_le (ev_cons (ex_var 3 rfl (.inl rfl) rfl) (ev_cons (ex_var 6 rfl (.inl rfl) rfl) (ev_nil))))))))) (gt_name 7 nd rfl (.inl rfl)))
 (lx_cons (κ1 := [.sh, .sh, .ow 0, .sh, .sh, .sh, .sh, .sh, .un]) (sx_for (κ1 := [.sh, .sh, .ow 0, .sh, .sh, .sh, .sh, .sh, .un]) (κ2 := [.sh, .sh, .ow 0, .sh, .sh, .sh, .sh, .sh, .sh]) (ix_rng1 rfl f_range (ax_cons (ex_int) (ax_nil))) (gt_name 8 nd rfl (.inl rfl)) rfl
 (Lx.weak (κ' := [.sh, .sh, .ow 0, .sh, .sh, .sh, .sh, .sh, .un]) (lx_cons (κ1 := [.sh, .sh, .ow 0, .sh, .sh, .sh, .sh, .sh, .sh]) (sx_if (tx_not (tx_val (ex_c c_l_truth (hr.mono (by decide)) (ax_cons (ex_c c_is_whole (hr.mono (by decide)) (ax_cons (ex_var 3 rfl (.inl rfl) rfl) (ax_cons (ex_var 5 rfl (.inl rfl) rfl) (ax_cons (ex_var 6 rfl (.inl rfl) rfl) (ax_nil))))) (ax_cons (ex_var 7 rfl (.inl rfl) rfl) (ax_nil))))))
 (lx_cons (sx_ret (ex_bl) rfl) (lx_nil))
 (lx_nil))
 (lx_cons (κ1 := [.sh, .sh, .ow 0, .sh, .sh, .sh, .sh, .sh, .sh]) (sx_if (tx_not (tx_val (ex_c c_l_truth (hr.mono (by decide)) (ax_cons (ex_c c_is_name (hr.mono (by decide)) (ax_cons (ex_var 3 rfl (.inl rfl) rfl) (ax_nil))) (ax_cons (ex_c c_l_is_name (hr.mono (by decide)) (ax_cons (ex_var 3 rfl (.inl rfl) rfl) (ax_nil))) (ax_nil))))))
 (lx_cons (sx_ret (ex_bl) rfl) (lx_nil))
 (lx_nil))
 (lx_nil))) rfl))
 (lx_nil))))))) rfl))
 (lx_cons (sx_ret (ex_bl) rfl) (lx_nil))
theorem ok_law {f : Addr} {fd : FuncData} (F : FunD K ("law" : Str) ("law" : Str) (defArgs s_law) (defBody s_law) (defScope s_law) [] [] f fd) (hm : mg ("law" : Str) = some (.ref f)) (f_bool : mg ("bool" : Str) = none) (f_int : mg ("int" : Str) = none) (f_isinstance : mg ("isinstance" : Str) = none) (f_len : mg ("len" : Str) = none) (f_max : mg ("max" : Str) = none) (f_min : mg ("min" : Str) = none) (f_range : mg ("range" : Str) = none) (c_l_bounds : Cal P w K mg base ("_law_bounds" : Str) 2 [("_law_box_here" : Str), ("_law_middle" : Str)] (SpF ⟨K, cl, fa⟩ [.ow 0, .sh] .sh F_l_bounds)) (c_l_box : Cal P w K mg base ("_law_box" : Str) 1 [("_law_cell_here" : Str)] (SpF ⟨K, cl, fa⟩ [.sh] (.ow 0) F_l_box)) (c_l_cell : Cal P w K mg base ("_law_cell" : Str) 1 [("_law_script" : Str), ("_law_k" : Str)] (SpF ⟨K, cl, fa⟩ [.sh, .sh] .sh F_l_cell)) (c_l_is_name : Cal P w K mg base ("_law_is_name" : Str) 1 [("_law_thing_here" : Str)] (SpF ⟨K, cl, fa⟩ [.sh] .sh F_l_is_name)) (c_l_thing : Cal P w K mg base ("_law_thing" : Str) 3 [("_law_box_here" : Str)] (SpF ⟨K, cl, fa⟩ [.ow 0] .sh F_l_thing)) (c_l_truth : Cal P w K mg base ("_law_truth" : Str) 1 [("_law_found" : Str), ("_law_due" : Str)] (SpF ⟨K, cl, fa⟩ [.sh, .sh] .sh F_l_truth)) (c_is_name : Cal P w K mg base ("is_name" : Str) 1 [("thing" : Str)] (SpF ⟨K, cl, fa⟩ [.sh] .sh F_is_name)) (c_is_whole : Cal P w K mg base ("is_whole" : Str) 1 [("thing" : Str), ("low" : Str), ("high" : Str)] (SpF ⟨K, cl, fa⟩ [.sh, .sh, .sh] .sh F_is_whole)) :
  Cal P w K mg base ("law" : Str) 4 [("_law_script" : Str)] (SpF ⟨K, cl, fa⟩ [.sh] .sh F_law) :=
  Cal.mk' F hm (fk_law F f_bool f_int f_isinstance f_len f_max f_min f_range c_l_bounds c_l_box c_l_cell c_l_is_name c_l_thing c_l_truth c_is_name c_is_whole) (fun _ _ _ _ _ _ us hl => match us, hl with | [_], _ => rfl)
end
end K01
namespace K01
open PySem PySem.Spec L2 Rm
def dd_is_whole : He.DefD := ⟨(("is_whole" : Str), none), ("is_whole" : Str), ("is_whole" : Str), defArgs s_is_whole, defBody s_is_whole, defScope s_is_whole, [], []⟩
def dd_is_name : He.DefD := ⟨(("is_name" : Str), none), ("is_name" : Str), ("is_name" : Str), defArgs s_is_name, defBody s_is_name, defScope s_is_name, [], []⟩
def dd_l_cell : He.DefD := ⟨(("_law_cell" : Str), none), ("_law_cell" : Str), ("_law_cell" : Str), defArgs s_l_cell, defBody s_l_cell, defScope s_l_cell, [], []⟩
def dd_l_box : He.DefD := ⟨(("_law_box" : Str), none), ("_law_box" : Str), ("_law_box" : Str), defArgs s_l_box, defBody s_l_box, defScope s_l_box, [], []⟩
def dd_l_take : He.DefD := ⟨(("_law_take" : Str), none), ("_law_take" : Str), ("_law_take" : Str), defArgs s_l_take, defBody s_l_take, defScope s_l_take, [], []⟩
def dd_l_page : He.DefD := ⟨(("_law_page" : Str), none), ("_law_page" : Str), ("_law_page" : Str), defArgs s_l_page, defBody s_l_page, defScope s_l_page, [], []⟩
def dd_l_text : He.DefD := ⟨(("_law_text" : Str), none), ("_law_text" : Str), ("_law_text" : Str), defArgs s_l_text, defBody s_l_text, defScope s_l_text, [], []⟩
def dd_l_thing : He.DefD := ⟨(("_law_thing" : Str), none), ("_law_thing" : Str), ("_law_thing" : Str), defArgs s_l_thing, defBody s_l_thing, defScope s_l_thing, [], []⟩
def dd_l_is_name : He.DefD := ⟨(("_law_is_name" : Str), none), ("_law_is_name" : Str), ("_law_is_name" : Str), defArgs s_l_is_name, defBody s_l_is_name, defScope s_l_is_name, [], []⟩
def dd_l_bounds : He.DefD := ⟨(("_law_bounds" : Str), none), ("_law_bounds" : Str), ("_law_bounds" : Str), defArgs s_l_bounds, defBody s_l_bounds, defScope s_l_bounds, [], []⟩
def dd_l_truth : He.DefD := ⟨(("_law_truth" : Str), none), ("_law_truth" : Str), ("_law_truth" : Str), defArgs s_l_truth, defBody s_l_truth, defScope s_l_truth, [], []⟩
def dd_law : He.DefD := ⟨(("law" : Str), none), ("law" : Str), ("law" : Str), defArgs s_law, defBody s_law, defScope s_law, [], []⟩
def dfs : List He.DefD := [dd_is_whole, dd_is_name, dd_l_cell, dd_l_box, dd_l_take, dd_l_page, dd_l_text, dd_l_thing, dd_l_is_name, dd_l_bounds, dd_l_truth, dd_law]
def fcs : List He.Fa := [.glo ("is_whole" : Str), .glo ("is_name" : Str), .glo ("_law_cell" : Str), .glo ("_law_box" : Str), .glo ("_law_take" : Str), .glo ("_law_page" : Str), .glo ("_law_text" : Str), .glo ("_law_thing" : Str), .glo ("_law_is_name" : Str), .glo ("_law_bounds" : Str), .glo ("_law_truth" : Str), .glo ("law" : Str), .free ("bool" : Str), .free ("int" : Str), .free ("isinstance" : Str), .free ("len" : Str), .free ("max" : Str), .free ("min" : Str), .free ("range" : Str), .free ("str" : Str), .str ("LETTERS" : Str) ("abcdefghijklmnopqrstuvwxyz" : Str), .int ("LONGEST" : Str) 6]
abbrev R : PySem.W.OpenRow := PySem.W.OpenLaw.row PySem.Challenge.rw_reachmarks_k01_words_of_anything
abbrev hk : PySem.W.Hook := He.hookD 4 fcs dfs
def ob (s : PySem.W.SharedT) : He.AlD := He.obsDG 4 fcs dfs (HandSHeadRun.getT s)
theorem ob_eq (s : PySem.W.SharedT) : ob s = hk.obs s.abs := He.obsDG_eq (HandSHeadRun.getT_eq s)
def lse : List Str := [("is_whole" : Str), ("is_name" : Str), ("_law_cell" : Str), ("_law_box" : Str), ("_law_take" : Str), ("_law_page" : Str), ("_law_text" : Str), ("_law_thing" : Str), ("_law_is_name" : Str), ("_law_bounds" : Str), ("_law_truth" : Str), ("LETTERS" : Str), ("LONGEST" : Str)]
theorem run (w : World) : HandSHeadRun.RunEq R (PySem.W.view R.prog [15]) hk ob 4000 lse w := by
  intro os
  kernel_rfl
theorem facts {P : Program} {w : World} {K : PySem.W.Frag} {h : Heap} {mg : Str → Option Value} {f : Addr} (X : K.In h) (G : h.Ns mainGlobals mg) (hfa : mg ("law" : Str) = some (.ref f)) (c : He.SaysD fcs dfs K) :
  ∃ fd : FuncData, (∀ (s : Shared) (v : Value), BindsTo s fd ⟨[v], []⟩ [(("_law_script" : Str), v)]) ∧ ∀ base : Heap, K.In base → base.Ns mainGlobals mg → FnOk P w K mg base (L2.CX P w) 4 f fd [("_law_script" : Str)] (SpF ⟨K, fun _ => 0, fun _ => 0⟩ [.sh] .sh F_law) := by
  obtain ⟨fd0, D0⟩ := c.def_ 0 (d := dd_is_whole) rfl
  obtain ⟨fd1, D1⟩ := c.def_ 1 (d := dd_is_name) rfl
  obtain ⟨fd2, D2⟩ := c.def_ 2 (d := dd_l_cell) rfl
  obtain ⟨fd3, D3⟩ := c.def_ 3 (d := dd_l_box) rfl
  obtain ⟨fd4, D4⟩ := c.def_ 4 (d := dd_l_take) rfl
  obtain ⟨fd5, D5⟩ := c.def_ 5 (d := dd_l_page) rfl
  obtain ⟨fd6, D6⟩ := c.def_ 6 (d := dd_l_text) rfl
  obtain ⟨fd7, D7⟩ := c.def_ 7 (d := dd_l_thing) rfl
  obtain ⟨fd8, D8⟩ := c.def_ 8 (d := dd_l_is_name) rfl
  obtain ⟨fd9, D9⟩ := c.def_ 9 (d := dd_l_bounds) rfl
  obtain ⟨fd10, D10⟩ := c.def_ 10 (d := dd_l_truth) rfl
  obtain ⟨fd11, D11⟩ := c.def_ 11 (d := dd_law) rfl
  have e := hfa.symm.trans (He.glo_ok X G (c.fact 11 (f := .glo "law") rfl))
  cases e
  have b := FunD.bindsA (ps := [("_law_script" : Str)]) D11 fun _ _ _ _ _ _ us hl => match us, hl with | [_], _ => rfl
  have f_bool := He.free_ok X G (c.fact 12 (f := .free ("bool" : Str)) rfl)
  have f_int := He.free_ok X G (c.fact 13 (f := .free ("int" : Str)) rfl)
  have f_isinstance := He.free_ok X G (c.fact 14 (f := .free ("isinstance" : Str)) rfl)
  have f_len := He.free_ok X G (c.fact 15 (f := .free ("len" : Str)) rfl)
  have f_max := He.free_ok X G (c.fact 16 (f := .free ("max" : Str)) rfl)
  have f_min := He.free_ok X G (c.fact 17 (f := .free ("min" : Str)) rfl)
  have f_range := He.free_ok X G (c.fact 18 (f := .free ("range" : Str)) rfl)
  have f_str := He.free_ok X G (c.fact 19 (f := .free ("str" : Str)) rfl)
  have g_LETTERS := He.str_ok X G (c.fact 20 (f := .str ("LETTERS" : Str) ("abcdefghijklmnopqrstuvwxyz" : Str)) rfl)
  have g_LONGEST := He.int_ok X G (c.fact 21 (f := .int ("LONGEST" : Str) 6) rfl)
  refine ⟨fd11, fun s v => b s [v] rfl, fun base _ _ => ?_⟩
  have c_is_whole := ok_is_whole (P := P) (w := w) (base := base) (cl := fun _ => 0) (fa := fun _ => 0) D0 (He.glo_ok X G (c.fact 0 (f := .glo ("is_whole" : Str)) rfl)) f_bool f_int f_isinstance
  have c_is_name := ok_is_name (P := P) (w := w) (base := base) (cl := fun _ => 0) (fa := fun _ => 0) D1 (He.glo_ok X G (c.fact 1 (f := .glo ("is_name" : Str)) rfl)) f_isinstance f_len f_str g_LETTERS g_LONGEST
  have c_l_cell := ok_l_cell (P := P) (w := w) (base := base) (cl := fun _ => 0) (fa := fun _ => 0) D2 (He.glo_ok X G (c.fact 2 (f := .glo ("_law_cell" : Str)) rfl)) f_len
  have c_l_box := ok_l_box (P := P) (w := w) (base := base) (cl := fun _ => 0) (fa := fun _ => 0) D3 (He.glo_ok X G (c.fact 3 (f := .glo ("_law_box" : Str)) rfl)) f_max
  have c_l_take := ok_l_take (P := P) (w := w) (base := base) (cl := fun _ => 0) (fa := fun _ => 0) D4 (He.glo_ok X G (c.fact 4 (f := .glo ("_law_take" : Str)) rfl)) 
  have c_l_page := ok_l_page (P := P) (w := w) (base := base) (cl := fun _ => 0) (fa := fun _ => 0) D5 (He.glo_ok X G (c.fact 5 (f := .glo ("_law_page" : Str)) rfl)) 
  have c_l_text := ok_l_text (P := P) (w := w) (base := base) (cl := fun _ => 0) (fa := fun _ => 0) D6 (He.glo_ok X G (c.fact 6 (f := .glo ("_law_text" : Str)) rfl)) f_range c_l_page c_l_take
  have c_l_thing := ok_l_thing (P := P) (w := w) (base := base) (cl := fun _ => 0) (fa := fun _ => 0) D7 (He.glo_ok X G (c.fact 7 (f := .glo ("_law_thing" : Str)) rfl)) c_l_take c_l_text
  have c_l_is_name := ok_l_is_name (P := P) (w := w) (base := base) (cl := fun _ => 0) (fa := fun _ => 0) D8 (He.glo_ok X G (c.fact 8 (f := .glo ("_law_is_name" : Str)) rfl)) f_isinstance f_len f_str
  have c_l_bounds := ok_l_bounds (P := P) (w := w) (base := base) (cl := fun _ => 0) (fa := fun _ => 0) D9 (He.glo_ok X G (c.fact 9 (f := .glo ("_law_bounds" : Str)) rfl)) f_max f_min c_l_take
  have c_l_truth := ok_l_truth (P := P) (w := w) (base := base) (cl := fun _ => 0) (fa := fun _ => 0) D10 (He.glo_ok X G (c.fact 10 (f := .glo ("_law_truth" : Str)) rfl)) f_bool f_isinstance
  exact fk_law (P := P) (w := w) (base := base) (cl := fun _ => 0) (fa := fun _ => 0) D11 f_bool f_int f_isinstance f_len f_max f_min f_range c_l_bounds c_l_box c_l_cell c_l_is_name c_l_thing c_l_truth c_is_name c_is_whole
end K01
open PySem PySem.W PySem.Calls PyProof.Rows
theorem PySem.Challenge.cw_reachmarks_k01_words_of_anything_holds : PySem.Challenge.rw_reachmarks_k01_words_of_anything.Holds := by
  w_on; o_law
  refine HandSHeadRun.head_any (r := OpenLaw.row PySem.Challenge.rw_reachmarks_k01_words_of_anything) (q := view (OpenLaw.row PySem.Challenge.rw_reachmarks_k01_words_of_anything).prog [15]) (H := K01.hk) (ob := K01.ob) (M := 4000) (loose := K01.lse) (d := HandSHeadRun.topDef (OpenLaw.row PySem.Challenge.rw_reachmarks_k01_words_of_anything).prog 15) (kwd := []) K01.ob_eq
    (by kernel_rfl) (fun s => by kernel_rfl) K01.run (by kernel_rfl) (by kernel_rfl) (by kernel_rfl) (by rfl) (by first | assumption | decide +kernel) (by decide +kernel) ⟨rfl, rfl, rfl, rfl, rfl, by decide +kernel⟩ ?hw ?hc
  case hw => w_witness2
  case hc =>
    refine Rm.walk_rm (l := PySem.Challenge.rw_reachmarks_k01_words_of_anything) (n := 63) (k := 4) (x := ("_law_script" : PySem.Str)) rfl (by decide) (by kernel_rfl) ⟨rfl, by decide, by decide⟩ ?F
    intro w mg fa h Y G hmg0
    obtain ⟨K, KX, c⟩ := Y
    have hmg : mg ("law" : PySem.Str) = some (.ref fa) := by
      have e : (HandSHeadRun.topDef (OpenLaw.row PySem.Challenge.rw_reachmarks_k01_words_of_anything).prog 15).name = ("law" : PySem.Str) := by kernel_rfl
      rw [← e]
      exact hmg0
    obtain ⟨fd, hb, hF⟩ := K01.facts (P := (PySem.Challenge.rw_reachmarks_k01_words_of_anything).prog) (w := w) KX G hmg c
    exact ⟨K, fd, _, KX, hb, fun H a ns hl hbits _ hS => Rm.law_sp hS (K01.data_law ns hl hbits), hF⟩
