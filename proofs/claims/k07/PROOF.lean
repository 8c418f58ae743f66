import PyProof.Rows.All
import Wide.All
import OpenK.AllK
import Wide.FinOn
import HandS.ForMost
import HandS.ForExc
import HandS.CallSlots
import HandS.Style
import HandS.Wide
import HandS.IsInst
import HandS.Walk
import HandS.TupAny
import HandS.Deep
import HandS.Strs
import HandS.Flow
import HandS.Conv
import HandS.Iter
import HandS.WordsExc
import HandS.Small
import PySem.Challenge.RW_lastfills_k07_whole_sizes_of_great_rows
set_option Elab.async false
set_option linter.all false
set_option maxRecDepth 100000
/-! trees of values, and how they lie in the abstract heap -/
namespace QX
open PySem PySem.Spec PyProof.Rows L2

/-- a value as a tree. The truth at a list, a dict: it is ours alone (it may be changed) -/
inductive T where
  | non | bl (b : Bool) | int (i : Int) | str (x : Str)
  | tup (ts : List T)
  | lst (o : Bool) (ts : List T)
  | dK (o : Bool) (ks : List Key) (ts : List T)
  | dT (o : Bool) (ks : List (List Key)) (ts : List T)
  | opq (v : V)

mutual
/-- no list, no dict in it -/
def T.imm : T → Bool
  | .tup ts => immL ts
  | .lst _ _ => false
  | .dK _ _ _ => false
  | .dT _ _ _ => false
  | _ => true
def immL : List T → Bool
  | [] => true
  | t :: ts => T.imm t && immL ts
end
mutual
/-- nothing in it is ours -/
def T.isF : T → Bool
  | .tup ts => isFL ts
  | .lst o ts => !o && isFL ts
  | .dK o _ ts => !o && isFL ts
  | .dT o _ ts => !o && isFL ts
  | _ => true
def isFL : List T → Bool
  | [] => true
  | t :: ts => T.isF t && isFL ts
end
mutual
/-- every list, dict in it is ours -/
def T.noF : T → Bool
  | .tup ts => noFL ts
  | .lst o ts => o && noFL ts
  | .dK o _ ts => o && noFL ts
  | .dT o _ ts => o && noFL ts
  | _ => true
def noFL : List T → Bool
  | [] => true
  | t :: ts => T.noF t && noFL ts
end
mutual
/-- given away -/
def T.fz : T → T
  | .tup ts => .tup (fzL ts)
  | .lst _ ts => .lst false (fzL ts)
  | .dK _ ks ts => .dK false ks (fzL ts)
  | .dT _ ks ts => .dT false ks (fzL ts)
  | t => t
def fzL : List T → List T
  | [] => []
  | t :: ts => T.fz t :: fzL ts
end

def zipK {κ : Type} (ks : List κ) (vs : List V) : List (κ × V) := ks.zip vs

mutual
/-- v is the tree t: what is ours stands at A in H, what is given away stands in F -/
inductive Rp (K : PySem.W.Frag) (F H : Hp) : V → T → List Addr → Prop
  | non : Rp K F H .non .non []
  | bl (b : Bool) : Rp K F H (.bl b) (.bl b) []
  | int (i : Int) : Rp K F H (.int i) (.int i) []
  | str (x : Str) : Rp K F H (.str x) (.str x) []
  | opq (v : V) : Rp K F H v (.opq v) []
  | tup {p : Addr} {vs : List V} {ts : List T} {A : List Addr} : SqT K H p vs → RpL K F H vs ts A → Rp K F H (.ref p) (.tup ts) A
  | lstO {p : Addr} {vs : List V} {ts : List T} {A : List Addr} : H p = some (.lst vs) → RpL K F H vs ts A → Rp K F H (.ref p) (.lst true ts) (p :: A)
  | lstF {p : Addr} {vs : List V} {ts : List T} : SqL K F p vs → RpL K F H vs ts [] → Rp K F H (.ref p) (.lst false ts) []
  | dKO {p : Addr} {ks : List Key} {vs : List V} {ts : List T} {A : List Addr} : ks.length = vs.length → H p = some (.dK (ks.zip vs)) → RpL K F H vs ts A → Rp K F H (.ref p) (.dK true ks ts) (p :: A)
  | dKF {p : Addr} {ks : List Key} {vs : List V} {ts : List T} : ks.length = vs.length → F p = some (.dK (ks.zip vs)) → RpL K F H vs ts [] → Rp K F H (.ref p) (.dK false ks ts) []
  | dTO {p : Addr} {ks : List (List Key)} {vs : List V} {ts : List T} {A : List Addr} : ks.length = vs.length → H p = some (.dT (ks.zip vs)) → RpL K F H vs ts A → Rp K F H (.ref p) (.dT true ks ts) (p :: A)
  | dTF {p : Addr} {ks : List (List Key)} {vs : List V} {ts : List T} : ks.length = vs.length → F p = some (.dT (ks.zip vs)) → RpL K F H vs ts [] → Rp K F H (.ref p) (.dT false ks ts) []
inductive RpL (K : PySem.W.Frag) (F H : Hp) : List V → List T → List Addr → Prop
  | nil : RpL K F H [] [] []
  | cons {v : V} {vs : List V} {t : T} {ts : List T} {A B : List Addr} : Rp K F H v t A → RpL K F H vs ts B → RpL K F H (v :: vs) (t :: ts) (A ++ B)
end

section
variable {K : PySem.W.Frag} {F F' H H' : Hp}
theorem RpL.len : ∀ {vs : List V} {ts : List T} {A : List Addr}, RpL K F H vs ts A → vs.length = ts.length
  | _, _, _, .nil => rfl
  | _, _, _, .cons _ r => by rw [List.length_cons, List.length_cons, RpL.len r]

theorem Rd.same {a : Addr} {u : HO} (hf : Same F F') (h : Rd F a u) : Rd F' a u := h.elim (fun h => .inl (hf _ _ h)) fun ⟨o, h⟩ => .inr ⟨o, hf _ _ h⟩
/-- tuples stay -/
def TupS (K : PySem.W.Frag) (H H' : Hp) : Prop := ∀ p vs, SqT K H p vs → SqT K H' p vs

mutual
theorem Rp.mono (hf : Same F F') (ht : TupS K H H') : ∀ {t : T} {v : V} {A : List Addr}, Rp K F H v t A → (∀ a ∈ A, H' a = H a) → Rp K F' H' v t A
  | .non, _, _, .non, _ => .non
  | .bl _, _, _, .bl _, _ => .bl _
  | .int _, _, _, .int _, _ => .int _
  | .str _, _, _, .str _, _ => .str _
  | .opq _, _, _, .opq _, _ => .opq _
  | .tup ts, _, _, .tup h r, ha => .tup (ht _ _ h) (RpL.mono hf ht r ha)
  | .lst true ts, _, _, .lstO h r, ha => .lstO (by rw [ha _ List.mem_cons_self]; exact h) (RpL.mono hf ht r fun a m => ha a (List.mem_cons_of_mem _ m))
  | .lst false ts, _, _, .lstF h r, _ => .lstF (hf.seq h) (RpL.mono hf ht r fun a m => by simp at m)
  | .dK true _ ts, _, _, .dKO hl h r, ha => .dKO hl (by rw [ha _ List.mem_cons_self]; exact h) (RpL.mono hf ht r fun a m => ha a (List.mem_cons_of_mem _ m))
  | .dK false _ ts, _, _, .dKF hl h r, _ => .dKF hl (hf _ _ h) (RpL.mono hf ht r fun a m => by simp at m)
  | .dT true _ ts, _, _, .dTO hl h r, ha => .dTO hl (by rw [ha _ List.mem_cons_self]; exact h) (RpL.mono hf ht r fun a m => ha a (List.mem_cons_of_mem _ m))
  | .dT false _ ts, _, _, .dTF hl h r, _ => .dTF hl (hf _ _ h) (RpL.mono hf ht r fun a m => by simp at m)
theorem RpL.mono (hf : Same F F') (ht : TupS K H H') : ∀ {ts : List T} {vs : List V} {A : List Addr}, RpL K F H vs ts A → (∀ a ∈ A, H' a = H a) → RpL K F' H' vs ts A
  | [], _, _, .nil, _ => .nil
  | _ :: _, _, _, .cons h r, ha => .cons (Rp.mono hf ht h fun a m => ha a (List.mem_append_left _ m)) (RpL.mono hf ht r fun a m => ha a (List.mem_append_right _ m))
end

/-- an object that may be ours: a list, a dict -/
def Cell : HO → Prop
  | .lst _ => True
  | .dK _ => True
  | .dT _ => True
  | _ => False

mutual
theorem Rp.at : ∀ {t : T} {v : V} {A : List Addr}, Rp K F H v t A → ∀ a ∈ A, ∃ o, H a = some o ∧ Cell o
  | .tup ts, _, _, .tup h r, a, m => RpL.at r a m
  | .lst true ts, _, _, .lstO h r, a, m => (List.mem_cons.mp m).elim (fun e => by subst e; exact ⟨_, h, trivial⟩) fun m => RpL.at r a m
  | .dK true _ ts, _, _, .dKO _ h r, a, m => (List.mem_cons.mp m).elim (fun e => by subst e; exact ⟨_, h, trivial⟩) fun m => RpL.at r a m
  | .dT true _ ts, _, _, .dTO _ h r, a, m => (List.mem_cons.mp m).elim (fun e => by subst e; exact ⟨_, h, trivial⟩) fun m => RpL.at r a m
  | .non, _, _, .non, _, m => by simp at m
  | .bl _, _, _, .bl _, _, m => by simp at m
  | .int _, _, _, .int _, _, m => by simp at m
  | .str _, _, _, .str _, _, m => by simp at m
  | .opq _, _, _, .opq _, _, m => by simp at m
  | .lst false ts, _, _, .lstF h r, _, m => by simp at m
  | .dK false _ ts, _, _, .dKF _ h r, _, m => by simp at m
  | .dT false _ ts, _, _, .dTF _ h r, _, m => by simp at m
theorem RpL.at : ∀ {ts : List T} {vs : List V} {A : List Addr}, RpL K F H vs ts A → ∀ a ∈ A, ∃ o, H a = some o ∧ Cell o
  | [], _, _, .nil, _, m => by simp at m
  | _ :: _, _, _, .cons h r, a, m => (List.mem_append.mp m).elim (fun m => Rp.at h a m) fun m => RpL.at r a m
end

mutual
/-- given away -/
theorem Rp.toF (hf : Same F F') (ht : TupS K H H') : ∀ {t : T} {v : V} {A : List Addr}, Rp K F H v t A → (∀ a ∈ A, F' a = H a) → Rp K F' H' v t.fz []
  | .non, _, _, .non, _ => .non
  | .bl _, _, _, .bl _, _ => .bl _
  | .int _, _, _, .int _, _ => .int _
  | .str _, _, _, .str _, _ => .str _
  | .opq _, _, _, .opq _, _ => .opq _
  | .tup ts, _, _, .tup h r, ha => .tup (ht _ _ h) (RpL.toF hf ht r ha)
  | .lst true ts, _, _, .lstO h r, ha => .lstF (.inl (.inl (by rw [ha _ List.mem_cons_self]; exact h))) (RpL.toF hf ht r fun a m => ha a (List.mem_cons_of_mem _ m))
  | .lst false ts, _, _, .lstF h r, _ => .lstF (hf.seq h) (RpL.toF hf ht r fun a m => by simp at m)
  | .dK true _ ts, _, _, .dKO hl h r, ha => .dKF hl (by rw [ha _ List.mem_cons_self]; exact h) (RpL.toF hf ht r fun a m => ha a (List.mem_cons_of_mem _ m))
  | .dK false _ ts, _, _, .dKF hl h r, _ => .dKF hl (hf _ _ h) (RpL.toF hf ht r fun a m => by simp at m)
  | .dT true _ ts, _, _, .dTO hl h r, ha => .dTF hl (by rw [ha _ List.mem_cons_self]; exact h) (RpL.toF hf ht r fun a m => ha a (List.mem_cons_of_mem _ m))
  | .dT false _ ts, _, _, .dTF hl h r, _ => .dTF hl (hf _ _ h) (RpL.toF hf ht r fun a m => by simp at m)
theorem RpL.toF (hf : Same F F') (ht : TupS K H H') : ∀ {ts : List T} {vs : List V} {A : List Addr}, RpL K F H vs ts A → (∀ a ∈ A, F' a = H a) → RpL K F' H' vs (fzL ts) []
  | [], _, _, .nil, _ => .nil
  | _ :: _, _, _, .cons (A := A) (B := B) h r, ha => .cons (A := []) (B := []) (Rp.toF hf ht h fun a m => ha a (List.mem_append_left _ m)) (RpL.toF hf ht r fun a m => ha a (List.mem_append_right _ m))
end

mutual
theorem Rp.isF_nil : ∀ {t : T} {v : V} {A : List Addr}, Rp K F H v t A → t.isF = true → A = []
  | .non, _, _, .non, _ => rfl
  | .bl _, _, _, .bl _, _ => rfl
  | .int _, _, _, .int _, _ => rfl
  | .str _, _, _, .str _, _ => rfl
  | .opq _, _, _, .opq _, _ => rfl
  | .tup ts, _, _, .tup h r, e => RpL.isF_nil r e
  | .lst true ts, _, _, .lstO h r, e => by simp [T.isF] at e
  | .lst false ts, _, _, .lstF h r, _ => rfl
  | .dK true _ ts, _, _, .dKO hl h r, e => by simp [T.isF] at e
  | .dK false _ ts, _, _, .dKF hl h r, _ => rfl
  | .dT true _ ts, _, _, .dTO hl h r, e => by simp [T.isF] at e
  | .dT false _ ts, _, _, .dTF hl h r, _ => rfl
theorem RpL.isF_nil : ∀ {ts : List T} {vs : List V} {A : List Addr}, RpL K F H vs ts A → isFL ts = true → A = []
  | [], _, _, .nil, _ => rfl
  | _ :: _, _, _, .cons h r, e => by
    simp only [isFL, Bool.and_eq_true] at e
    rw [Rp.isF_nil h e.1, RpL.isF_nil r e.2, List.nil_append]
end

mutual
theorem Rp.noF_any : ∀ {t : T} {v : V} {A : List Addr}, Rp K F H v t A → t.noF = true → Rp K F' H v t A
  | .non, _, _, .non, _ => .non
  | .bl _, _, _, .bl _, _ => .bl _
  | .int _, _, _, .int _, _ => .int _
  | .str _, _, _, .str _, _ => .str _
  | .opq _, _, _, .opq _, _ => .opq _
  | .tup ts, _, _, .tup h r, e => .tup h (RpL.noF_any r e)
  | .lst true ts, _, _, .lstO h r, e => .lstO h (RpL.noF_any r (by simpa [T.noF] using e))
  | .lst false ts, _, _, .lstF h r, e => by simp [T.noF] at e
  | .dK true _ ts, _, _, .dKO hl h r, e => .dKO hl h (RpL.noF_any r (by simpa [T.noF] using e))
  | .dK false _ ts, _, _, .dKF hl h r, e => by simp [T.noF] at e
  | .dT true _ ts, _, _, .dTO hl h r, e => .dTO hl h (RpL.noF_any r (by simpa [T.noF] using e))
  | .dT false _ ts, _, _, .dTF hl h r, e => by simp [T.noF] at e
theorem RpL.noF_any : ∀ {ts : List T} {vs : List V} {A : List Addr}, RpL K F H vs ts A → noFL ts = true → RpL K F' H vs ts A
  | [], _, _, .nil, _ => .nil
  | _ :: _, _, _, .cons h r, e => by
    simp only [noFL, Bool.and_eq_true] at e
    exact .cons (Rp.noF_any h e.1) (RpL.noF_any r e.2)
end

mutual
theorem T.imm_isF : ∀ {t : T}, t.imm = true → t.isF = true
  | .non, _ => rfl
  | .bl _, _ => rfl
  | .int _, _ => rfl
  | .str _, _ => rfl
  | .opq _, _ => rfl
  | .tup ts, e => immL_isF (ts := ts) e
  | .lst _ _, e => by simp [T.imm] at e
  | .dK _ _ _, e => by simp [T.imm] at e
  | .dT _ _ _, e => by simp [T.imm] at e
theorem immL_isF : ∀ {ts : List T}, immL ts = true → isFL ts = true
  | [], _ => rfl
  | t :: ts, e => by
    simp only [immL, Bool.and_eq_true] at e
    simp only [isFL, Bool.and_eq_true]
    exact ⟨T.imm_isF e.1, immL_isF e.2⟩
end
mutual
theorem T.imm_noF : ∀ {t : T}, t.imm = true → t.noF = true
  | .non, _ => rfl
  | .bl _, _ => rfl
  | .int _, _ => rfl
  | .str _, _ => rfl
  | .opq _, _ => rfl
  | .tup ts, e => immL_noF (ts := ts) e
  | .lst _ _, e => by simp [T.imm] at e
  | .dK _ _ _, e => by simp [T.imm] at e
  | .dT _ _ _, e => by simp [T.imm] at e
theorem immL_noF : ∀ {ts : List T}, immL ts = true → noFL ts = true
  | [], _ => rfl
  | t :: ts, e => by
    simp only [immL, Bool.and_eq_true] at e
    simp only [noFL, Bool.and_eq_true]
    exact ⟨T.imm_noF e.1, immL_noF e.2⟩
end
mutual
theorem T.fz_isF : ∀ t : T, t.isF = true → t.fz = t
  | .non, _ => rfl
  | .bl _, _ => rfl
  | .int _, _ => rfl
  | .str _, _ => rfl
  | .opq _, _ => rfl
  | .tup ts, e => by rw [T.fz, fzL_isF ts e]
  | .lst o ts, e => by
    cases o
    · rw [T.fz, fzL_isF ts (by simpa [T.isF] using e)]
    · simp [T.isF] at e
  | .dK o _ ts, e => by
    cases o
    · rw [T.fz, fzL_isF ts (by simpa [T.isF] using e)]
    · simp [T.isF] at e
  | .dT o _ ts, e => by
    cases o
    · rw [T.fz, fzL_isF ts (by simpa [T.isF] using e)]
    · simp [T.isF] at e
theorem fzL_isF : ∀ ts : List T, isFL ts = true → fzL ts = ts
  | [], _ => rfl
  | t :: ts, e => by
    simp only [isFL, Bool.and_eq_true] at e
    rw [fzL, T.fz_isF t e.1, fzL_isF ts e.2]
end
mutual
theorem T.isF_fz : ∀ t : T, t.fz.isF = true
  | .non => rfl
  | .bl _ => rfl
  | .int _ => rfl
  | .str _ => rfl
  | .opq _ => rfl
  | .tup ts => isFL_fz ts
  | .lst o ts => by rw [T.fz, T.isF, isFL_fz ts]; rfl
  | .dK o _ ts => by rw [T.fz, T.isF, isFL_fz ts]; rfl
  | .dT o _ ts => by rw [T.fz, T.isF, isFL_fz ts]; rfl
theorem isFL_fz : ∀ ts : List T, isFL (fzL ts) = true
  | [] => rfl
  | t :: ts => by rw [fzL, isFL, T.isF_fz t, isFL_fz ts]; rfl
end
theorem fzL_map : ∀ ts : List T, fzL ts = ts.map T.fz
  | [] => rfl
  | t :: ts => by rw [fzL, fzL_map ts]; rfl
theorem isFL_all : ∀ ts : List T, isFL ts = ts.all T.isF
  | [] => rfl
  | t :: ts => by rw [isFL, isFL_all ts]; rfl
theorem noFL_all : ∀ ts : List T, noFL ts = ts.all T.noF
  | [] => rfl
  | t :: ts => by rw [noFL, noFL_all ts]; rfl
theorem immL_all : ∀ ts : List T, immL ts = ts.all T.imm
  | [] => rfl
  | t :: ts => by rw [immL, immL_all ts]; rfl
theorem fzL_length (ts : List T) : (fzL ts).length = ts.length := by rw [fzL_map, List.length_map]

/-- what we know of the heaps: F is a part of H, apart from what is ours -/
structure Good (F H : Hp) (A : List Addr) : Prop where
  sub : Same F H
  nd : A.Nodup
  out : ∀ a ∈ A, F a = none

/-- from one state to another: what was ours alone may have changed -/
structure Step (F H : Hp) (A : List Addr) (F' H' : Hp) (A' : List Addr) : Prop where
  ff : Same F F'
  hh : ∀ b o, H b = some o → b ∉ A → H' b = some o
  new : ∀ b ∈ A', b ∈ A ∨ H b = none
  fnew : ∀ b, F b = none → F' b ≠ none → b ∈ A ∨ H b = none
  tup : ∀ b o, H b = some o → ¬ Cell o → H' b = some o
  good : Good F' H' A'

theorem Step.tupS {A A' : List Addr} (s : Step F H A F' H' A') : TupS K H H' := fun p vs h => by
  rcases h with (h | ⟨o, h⟩) | h
  · exact .inl (.inl (s.tup _ _ h (fun z => z)))
  · exact .inl (.inr ⟨o, s.tup _ _ h (fun z => z)⟩)
  · exact .inr h
theorem Same.tupS (h : Same H H') : TupS K H H' := fun p vs q => by
  rcases q with (q | ⟨o, q⟩) | q
  · exact .inl (.inl (h _ _ q))
  · exact .inl (.inr ⟨o, h _ _ q⟩)
  · exact .inr q
theorem Good.refl {A : List Addr} (g : Good F H A) : Step F H A F H A :=
  ⟨Same.refl _, fun _ _ h _ => h, fun _ m => .inl m, fun _ h h' => absurd h h', fun _ _ h _ => h, g⟩
theorem Good.less {A B : List Addr} (g : Good F H A) (hs : ∀ a ∈ B, a ∈ A) (nd : B.Nodup) : Good F H B := ⟨g.sub, nd, fun a m => g.out a (hs a m)⟩
theorem Good.left {A B : List Addr} (g : Good F H (A ++ B)) : Good F H A := g.less (fun _ m => List.mem_append_left _ m) (List.nodup_append.mp g.nd).1
theorem Good.right {A B : List Addr} (g : Good F H (A ++ B)) : Good F H B := g.less (fun _ m => List.mem_append_right _ m) (List.nodup_append.mp g.nd).2.1
theorem Good.apart {A B : List Addr} (g : Good F H (A ++ B)) {a : Addr} (ha : a ∈ A) (hb : a ∈ B) : False := (List.nodup_append.mp g.nd).2.2 a ha a hb rfl

/-- a step of the part A beside the part B that stays -/
theorem Step.beside {A B A' : List Addr} (s : Step F H A F' H' A') (g : Good F H (A ++ B)) (hB : ∀ b ∈ B, ∃ o, H b = some o) : Step F H (A ++ B) F' H' (A' ++ B) ∧ ∀ b ∈ B, H' b = H b := by
  have hk : ∀ b ∈ B, H' b = H b := fun b m => by
    obtain ⟨o, e⟩ := hB b m
    rw [e]
    exact s.hh b o e fun z => g.apart z m
  refine ⟨⟨s.ff, fun b o e n => s.hh b o e fun m => n (List.mem_append_left _ m), fun b m => ?_, fun b e n => ?_, s.tup, ⟨s.good.sub, ?_, fun a m => ?_⟩⟩, hk⟩
  · rcases List.mem_append.mp m with m | m
    · exact (s.new b m).imp (List.mem_append_left _) id
    · exact .inl (List.mem_append_right _ m)
  · exact (s.fnew b e n).imp (List.mem_append_left _) id
  · refine List.nodup_append.mpr ⟨s.good.nd, g.right.nd, fun a ha b hb e => ?_⟩
    subst e
    rcases s.new a ha with m | m
    · exact g.apart m hb
    · obtain ⟨o, z⟩ := hB a hb
      rw [m] at z; cases z
  · rcases List.mem_append.mp m with m | m
    · exact s.good.out a m
    · cases q : F' a with
      | none => rfl
      | some o =>
        exfalso
        rcases s.fnew a (g.out a (List.mem_append_right _ m)) (by rw [q]; intro z; cases z) with z | z
        · exact g.apart z m
        · obtain ⟨o, w⟩ := hB a m
          rw [z] at w; cases w
theorem Step.trans {F2 H2 : Hp} {A A' A2 : List Addr} (s : Step F H A F' H' A') (r : Step F' H' A' F2 H2 A2) : Step F H A F2 H2 A2 := by
  have old : ∀ b, H' b = none → H b = none ∨ b ∈ A := fun b e => by
    cases q : H b with
    | none => exact .inl rfl
    | some o =>
      by_cases m : b ∈ A
      · exact .inr m
      · rw [s.hh b o q m] at e; cases e
  refine ⟨s.ff.trans r.ff, fun b o e n => ?_, fun b m => ?_, fun b e n => ?_, fun b o e c => r.tup b o (s.tup b o e c) c, r.good⟩
  · have e1 := s.hh b o e n
    refine r.hh b o e1 fun m => ?_
    rcases s.new b m with z | z
    · exact n z
    · rw [z] at e; cases e
  · rcases r.new b m with z | z
    · exact s.new b z
    · exact (old b z).symm
  · cases q : F' b with
    | some o => exact s.fnew b e (by rw [q]; intro z; cases z)
    | none =>
      rcases r.fnew b q n with z | z
      · exact s.new b z
      · exact (old b z).symm
/-- less is ours behind -/
theorem Step.drop {A A' B : List Addr} (s : Step F H A F' H' A') (hs : ∀ a ∈ B, a ∈ A') (nd : B.Nodup) : Step F H A F' H' B :=
  ⟨s.ff, s.hh, fun b m => s.new b (hs b m), s.fnew, s.tup, s.good.less hs nd⟩
/-- more was ours ahead -/
theorem Step.more {A A' B : List Addr} (s : Step F H A F' H' A') (hs : ∀ a ∈ A, a ∈ B) : Step F H B F' H' A' :=
  ⟨s.ff, fun b o e n => s.hh b o e fun m => n (hs b m), fun b m => (s.new b m).imp (hs b) id, fun b e n => (s.fnew b e n).imp (hs b) id, s.tup, s.good⟩
/-- a new object of ours -/
theorem Good.newO {A : List Addr} {p : Addr} {o : HO} (g : Good F H A) (h : H p = none) (hA : ∀ a ∈ A, ∃ o, H a = some o) : Step F H A F (upd H p o) (p :: A) := by
  have hF : F p = none := by
    cases q : F p with
    | none => rfl
    | some u => rw [g.sub p u q] at h; cases h
  refine ⟨Same.refl _, fun b o e _ => by rw [upd_ne (ne_of_none e h)]; exact e, fun b m => ?_, fun b e n => absurd e n, fun b o e _ => by rw [upd_ne (ne_of_none e h)]; exact e, ⟨fun b o e => ?_, ?_, fun a m => ?_⟩⟩
  · rcases List.mem_cons.mp m with z | z
    · exact .inr (z ▸ h)
    · exact .inl z
  · rw [upd_ne (ne_of_none (g.sub b o e) h)]; exact g.sub b o e
  · refine List.nodup_cons.mpr ⟨fun m => ?_, g.nd⟩
    obtain ⟨u, e⟩ := hA p m
    rw [h] at e; cases e
  · rcases List.mem_cons.mp m with z | z
    · exact z ▸ hF
    · exact g.out a z
/-- a new thing that never changes -/
theorem Good.newT {A : List Addr} {p : Addr} {o : HO} (g : Good F H A) (h : H p = none) : Step F H A F (upd H p o) A :=
  ⟨Same.refl _, fun b o e _ => by rw [upd_ne (ne_of_none e h)]; exact e, fun b m => .inl m, fun b e n => absurd e n, fun b o e _ => by rw [upd_ne (ne_of_none e h)]; exact e,
    ⟨fun b o e => by rw [upd_ne (ne_of_none (g.sub b o e) h)]; exact g.sub b o e, g.nd, g.out⟩⟩
/-- one of ours is changed -/
theorem Good.write {A : List Addr} {p : Addr} {o o' : HO} (g : Good F H A) (m : p ∈ A) (h : H p = some o) (c : Cell o) : Step F H A F (upd H p o') A := by
  have hF := g.out p m
  have nF : ∀ b u, F b = some u → b ≠ p := fun b u e z => by rw [z, hF] at e; cases e
  refine ⟨Same.refl _, fun b u e n => by
    have nb : b ≠ p := fun z => n (by rw [z]; exact m)
    rw [upd_ne nb]; exact e, fun b m => .inl m, fun b e n => absurd e n, fun b u e nc => ?_,
    ⟨fun b u e => by rw [upd_ne (nF b u e)]; exact g.sub b u e, g.nd, g.out⟩⟩
  rw [upd_ne fun z => ?_]
  · exact e
  · rw [z, h] at e; cases e; exact nc c
/-- some of ours are given away -/
def join (F H : Hp) (B : List Addr) : Hp := fun b => if b ∈ B then H b else F b
theorem join_in {B : List Addr} {b : Addr} (m : b ∈ B) : join F H B b = H b := by unfold join; rw [if_pos m]
theorem join_out {B : List Addr} {b : Addr} (m : b ∉ B) : join F H B b = F b := by unfold join; rw [if_neg m]
theorem Good.give {A B C : List Addr} (g : Good F H A) (hB : ∀ b ∈ B, b ∈ A) (hC : ∀ c ∈ C, c ∈ A ∧ c ∉ B) (nd : C.Nodup) : Step F H A (join F H B) H C := by
  have sm : Same F (join F H B) := fun b o e => by
    rw [join_out fun m => ?_]
    · exact e
    · rw [g.out b (hB b m)] at e; cases e
  refine ⟨sm, fun _ _ e _ => e, fun b m => .inl (hC b m).1, fun b e n => ?_, fun _ _ e _ => e, ⟨fun b o e => ?_, nd, fun a m => by rw [join_out (hC a m).2]; exact g.out a (hC a m).1⟩⟩
  · by_cases m : b ∈ B
    · exact .inl (hB b m)
    · rw [join_out m] at n; exact absurd e n
  · by_cases m : b ∈ B
    · rw [join_in m] at e; exact e
    · rw [join_out m] at e; exact g.sub b o e
end
end QX

set_option Elab.async false
set_option linter.all false
set_option maxRecDepth 100000
/-! states of a def's slots, what an expression comes to -/
namespace QX
open PySem PySem.Spec L2

abbrev Sl := List (Option T)

inductive RS (K : PySem.W.Frag) (F H : Hp) : St → Sl → List Addr → Prop
  | nil : RS K F H [] [] []
  | some {v : V} {t : T} {σ : St} {G : Sl} {A B : List Addr} : Rp K F H v t A → RS K F H σ G B → RS K F H (.some v :: σ) (.some t :: G) (A ++ B)
  | none {o : Option V} {σ : St} {G : Sl} {B : List Addr} : RS K F H σ G B → RS K F H (o :: σ) (.none :: G) B

section
variable {K : PySem.W.Frag} {F F' H H' : Hp}
theorem RS.len : ∀ {σ : St} {G : Sl} {A : List Addr}, RS K F H σ G A → σ.length = G.length
  | _, _, _, .nil => rfl
  | _, _, _, .some _ r => by rw [List.length_cons, List.length_cons, RS.len r]
  | _, _, _, .none r => by rw [List.length_cons, List.length_cons, RS.len r]
theorem RS.mono (hf : Same F F') (ht : TupS K H H') : ∀ {σ : St} {G : Sl} {A : List Addr}, RS K F H σ G A → (∀ a ∈ A, H' a = H a) → RS K F' H' σ G A
  | _, _, _, .nil, _ => .nil
  | _, _, _, .some h r, ha => .some (h.mono hf ht fun a m => ha a (List.mem_append_left _ m)) (RS.mono hf ht r fun a m => ha a (List.mem_append_right _ m))
  | _, _, _, .none r, ha => .none (RS.mono hf ht r ha)
theorem RS.at : ∀ {σ : St} {G : Sl} {A : List Addr}, RS K F H σ G A → ∀ a ∈ A, ∃ o, H a = Option.some o ∧ Cell o
  | _, _, _, .nil, _, m => by simp at m
  | _, _, _, .some h r, a, m => (List.mem_append.mp m).elim (fun m => h.at a m) fun m => RS.at r a m
  | _, _, _, .none r, a, m => RS.at r a m
theorem RS.opn : ∀ {σ : St} {G : Sl} {A : List Addr} {i : Nat} {t : T}, RS K F H σ G A → G[i]? = Option.some (Option.some t) →
    ∃ v B C, σ[i]? = Option.some (Option.some v) ∧ Rp K F H v t B ∧ RS K F H σ (G.set i Option.none) C ∧ A.Perm (B ++ C)
  | _, _, _, _, _, .nil, e => by simp at e
  | _, _, _, 0, t, .some (A := A) (B := B) h r, e => by
    simp only [List.getElem?_cons_zero, Option.some.injEq] at e
    subst e
    exact ⟨_, A, B, rfl, h, .none r, .refl _⟩
  | _, _, _, i + 1, t, .some (A := A) (B := B) h r, e => by
    obtain ⟨v, B', C, e1, h1, r1, p⟩ := RS.opn (i := i) (t := t) r (by simpa using e)
    refine ⟨v, B', A ++ C, by simpa using e1, h1, .some h r1, ?_⟩
    refine (List.Perm.append_left A p).trans ?_
    rw [← List.append_assoc, ← List.append_assoc]
    exact List.Perm.append_right C List.perm_append_comm
  | _, _, _, 0, t, .none r, e => by simp at e
  | _, _, _, i + 1, t, .none r, e => by
    obtain ⟨v, B', C, e1, h1, r1, p⟩ := RS.opn (i := i) (t := t) r (by simpa using e)
    exact ⟨v, B', C, by simpa using e1, h1, .none r1, p⟩
theorem RS.cls : ∀ {σ : St} {G : Sl} {C A : List Addr} {i : Nat} {v : V} {t : T}, RS K F H σ G C → G[i]? = Option.some Option.none → σ[i]? = Option.some (Option.some v) → Rp K F H v t A →
    ∃ D, RS K F H σ (G.set i (Option.some t)) D ∧ D.Perm (A ++ C)
  | _, _, _, _, _, _, _, .nil, e, _, _ => by simp at e
  | _, _, _, _, 0, _, _, .some _ _, e, _, _ => by simp at e
  | _, _, _, A, i + 1, _, _, .some (A := A1) (B := B1) h r, e, e2, q => by
    obtain ⟨D, r1, p⟩ := RS.cls (i := i) r (by simpa using e) (by simpa using e2) q
    refine ⟨A1 ++ D, .some h r1, (List.Perm.append_left A1 p).trans ?_⟩
    rw [← List.append_assoc, ← List.append_assoc]
    exact List.Perm.append_right _ List.perm_append_comm
  | _, _, _, _, 0, _, _, .none r, e, e2, q => by
    simp only [List.getElem?_cons_zero, Option.some.injEq] at e2
    subst e2
    exact ⟨_, .some q r, .refl _⟩
  | _, _, _, _, i + 1, _, _, .none r, e, e2, q => by
    obtain ⟨D, r1, p⟩ := RS.cls (i := i) r (by simpa using e) (by simpa using e2) q
    exact ⟨D, .none r1, p⟩
/-- a slot forgotten -/
theorem RS.out : ∀ {σ : St} {G : Sl} {A : List Addr} (i : Nat), RS K F H σ G A → ∃ C, RS K F H σ (G.set i Option.none) C ∧ (∀ a ∈ C, a ∈ A) ∧ (A.Nodup → C.Nodup)
  | _, _, _, _, .nil => ⟨_, .nil, fun _ m => m, id⟩
  | _, _, _, 0, .some h r => ⟨_, .none r, fun _ m => List.mem_append_right _ m, fun n => (List.nodup_append.mp n).2.1⟩
  | _, _, _, i + 1, .some (A := A) h r => by
    obtain ⟨C, r1, s, n⟩ := RS.out i r
    refine ⟨A ++ C, .some h r1, fun a m => ?_, fun nd => ?_⟩
    · exact (List.mem_append.mp m).elim (List.mem_append_left _) fun m => List.mem_append_right _ (s a m)
    · obtain ⟨n1, n2, n3⟩ := List.nodup_append.mp nd
      exact List.nodup_append.mpr ⟨n1, n n2, fun a ha b hb => n3 a ha b (s b hb)⟩
  | _, _, _, 0, .none r => ⟨_, .none r, fun _ m => m, id⟩
  | _, _, _, i + 1, .none r => by
    obtain ⟨C, r1, s, n⟩ := RS.out i r
    exact ⟨C, .none r1, s, n⟩
/-- the values of a slot that is forgotten don't matter -/
theorem RS.any : ∀ {σ : St} {G : Sl} {A : List Addr} {i : Nat} (o : Option V), RS K F H σ G A → G[i]? = Option.some Option.none → RS K F H (σ.set i o) G A
  | _, _, _, _, _, .nil, e => by simp at e
  | _, _, _, 0, _, .some _ _, e => by simp at e
  | _, _, _, i + 1, o, .some h r, e => .some h (RS.any (i := i) o r (by simpa using e))
  | _, _, _, 0, o, .none r, _ => .none r
  | _, _, _, i + 1, o, .none r, e => .none (RS.any (i := i) o r (by simpa using e))
/-- a slot is stored -/
theorem RS.put {σ : St} {G : Sl} {A B : List Addr} {i : Nat} {v : V} {t : T} (r : RS K F H σ G A) (hi : i < G.length) (h : Rp K F H v t B) :
    ∃ D, RS K F H (σ.set i (Option.some v)) (G.set i (Option.some t)) D ∧ (∀ a ∈ D, a ∈ B ++ A) ∧ ((B ++ A).Nodup → D.Nodup) := by
  obtain ⟨C, r1, s, n⟩ := r.out i
  have e : (G.set i Option.none)[i]? = Option.some Option.none := List.getElem?_set_self hi
  have r2 := r1.any (i := i) (Option.some v) e
  have hσ : (σ.set i (Option.some v))[i]? = Option.some (Option.some v) := List.getElem?_set_self (by rw [r.len]; exact hi)
  obtain ⟨D, r3, p⟩ := r2.cls e hσ h
  rw [List.set_set] at r3
  refine ⟨D, r3, fun a m => ?_, fun nd => ?_⟩
  · exact (List.mem_append.mp (p.mem_iff.mp m)).elim (List.mem_append_left _) fun m => List.mem_append_right _ (s a m)
  · obtain ⟨n1, n2, n3⟩ := List.nodup_append.mp nd
    exact p.nodup_iff.mpr (List.nodup_append.mpr ⟨n1, n n2, fun a ha b hb => n3 a ha b (s b hb)⟩)

theorem Good.perm {A B : List Addr} (g : Good F H A) (p : A.Perm B) : Good F H B := ⟨g.sub, p.nodup_iff.mp g.nd, fun a m => g.out a (p.mem_iff.mpr m)⟩
theorem Step.permL {A A' B : List Addr} (s : Step F H A F' H' A') (p : A.Perm B) : Step F H B F' H' A' :=
  s.more fun a m => p.mem_iff.mp m
theorem Step.permR {A A' B : List Addr} (s : Step F H A F' H' A') (p : A'.Perm B) : Step F H A F' H' B :=
  s.drop (fun a m => p.mem_iff.mpr m) (p.nodup_iff.mp s.good.nd)
end

/-- what an expression comes to: a tree that is ours (or given away), one that is only looked at, a slot by name -/
inductive Ev where
  | own (t : T) | vw (t : T) | rf (i : Nat)

inductive Vr (K : PySem.W.Frag) (F H : Hp) (σ : St) : V → Ev → List Addr → Prop
  | own {v : V} {t : T} {B : List Addr} : Rp K F H v t B → Vr K F H σ v (.own t) B
  | vw {v : V} {t : T} {C : List Addr} : Rp K F H v t C → Vr K F H σ v (.vw t) []
  | rf {v : V} {i : Nat} : σ[i]? = some (some v) → Vr K F H σ v (.rf i) []
inductive VrL (K : PySem.W.Frag) (F H : Hp) (σ : St) : List V → List Ev → List Addr → Prop
  | nil : VrL K F H σ [] [] []
  | cons {v : V} {vs : List V} {e : Ev} {es : List Ev} {A B : List Addr} : Vr K F H σ v e A → VrL K F H σ vs es B → VrL K F H σ (v :: vs) (e :: es) (A ++ B)

section
variable {K : PySem.W.Frag} {F F' H H' : Hp} {σ : St}
def Ev.firm : Ev → Bool
  | .vw _ => false
  | _ => true
theorem Vr.at {v : V} {e : Ev} {B : List Addr} (h : Vr K F H σ v e B) : ∀ a ∈ B, ∃ o, H a = some o ∧ Cell o := by
  cases h with
  | own h => exact h.at
  | vw h => intro a m; simp at m
  | rf h => intro a m; simp at m
theorem VrL.at : ∀ {vs : List V} {es : List Ev} {B : List Addr}, VrL K F H σ vs es B → ∀ a ∈ B, ∃ o, H a = some o ∧ Cell o
  | _, _, _, .nil, _, m => by simp at m
  | _, _, _, .cons h r, a, m => (List.mem_append.mp m).elim (fun m => h.at a m) fun m => VrL.at r a m
theorem Rp.same {v : V} {t : T} {C : List Addr} (h : Rp K F H v t C) (ff : Same F F') (sm : Same H H') : Rp K F' H' v t C :=
  h.mono ff (Same.tupS sm) fun a m => by
    obtain ⟨o, e, _⟩ := h.at a m
    rw [e]; exact sm a o e
/-- behind a step that left what is ours of it -/
theorem Vr.keep {v : V} {e : Ev} {B : List Addr} (h : Vr K F H σ v e B) (ff : Same F F') (ht : TupS K H H') (hB : ∀ b ∈ B, H' b = H b) (sm : e.firm = true ∨ Same H H') : Vr K F' H' σ v e B := by
  cases h with
  | own h => exact .own (h.mono ff ht hB)
  | vw h =>
    rcases sm with z | sm
    · cases z
    · exact .vw (h.same ff sm)
  | rf h => exact .rf h
theorem VrL.keep : ∀ {vs : List V} {es : List Ev} {B : List Addr}, VrL K F H σ vs es B → Same F F' → TupS K H H' → (∀ b ∈ B, H' b = H b) → (es.all Ev.firm = true ∨ Same H H') → VrL K F' H' σ vs es B
  | _, _, _, .nil, _, _, _, _ => .nil
  | _, _, _, .cons h r, ff, ht, hB, sm => .cons (h.keep ff ht (fun b m => hB b (List.mem_append_left _ m)) (sm.imp (fun z => by simp only [List.all_cons, Bool.and_eq_true] at z; exact z.1) id))
      (VrL.keep r ff ht (fun b m => hB b (List.mem_append_right _ m)) (sm.imp (fun z => by simp only [List.all_cons, Bool.and_eq_true] at z; exact z.2) id))
end

/-- how it ends -/
inductive R (α : Type) where
  | ok (a : α) (G : Sl) | exc (c : Str) (p : List (Str × T)) (G : Sl) | no

def R.bd {α β : Type} (m : R α) (k : α → Sl → R β) : R β := match m with
  | .ok a G => k a G
  | .exc c p G => .exc c p G
  | .no => .no
def R.of {α : Type} (G : Sl) : Option α → R α
  | some a => .ok a G
  | none => .no
theorem R.bd_ok {α β : Type} (a : α) (G : Sl) (k : α → Sl → R β) : (R.ok a G).bd k = k a G := rfl
theorem R.bd_exc {α β : Type} (c : Str) (p : List (Str × T)) (G : Sl) (k : α → Sl → R β) : (R.exc c p G).bd k = .exc c p G := rfl
theorem R.bd_no {α β : Type} (k : α → Sl → R β) : (R.no).bd k = .no := rfl
theorem R.of_some {α : Type} (G : Sl) (a : α) : R.of G (some a) = .ok a G := rfl
theorem R.of_none {α : Type} (G : Sl) : R.of G (none : Option α) = .no := rfl

/-- what an exception bears -/
def Pay (H : Hp) (p : List (Str × T)) (d : Option Addr) : Prop :=
  match p with
  | [] => d = none
  | p => ∃ a fs, d = some a ∧ H a = some (.xd fs) ∧ fs.map (·.1) = p.map (·.1) ∧ ∀ K F, RpL K F H (fs.map (·.2)) (p.map (·.2)) []

abbrev MG := Str → Option Value
/-- the wish of an exception, the way it comes out of our states -/
def Exc (K : PySem.W.Frag) (mg : MG) (W : WX) (q : Bool) (F H : Hp) (A : List Addr) (σ : St) (c : Str) (p : List (Str × T)) (G' : Sl) : Prop :=
  ∀ F' H' A' C d, RS K F' H' σ G' A' → Step F H A F' H' A' → (q = true → Same H H') → mg c = some (.ref C) → Pay H' p d → W (.ref C) d σ H'


/-- what is wanted behind: rel says what came and what of it is ours -/
def Post {α β : Type} (rel : Hp → Hp → β → α → List Addr → Prop) (K : PySem.W.Frag) (mg : MG) (W : WX) (q : Bool) (σ : St) (F H : Hp) (A : List Addr) (r : R α) (Q : β → Hp → Prop) : Prop := match r with
  | .ok e G' => ∀ v F' H' A' B, RS K F' H' σ G' A' → rel F' H' v e B → Step F H A F' H' (B ++ A') → (q = true → Same H H') → Q v H'
  | .exc c p G' => Exc K mg W q F H A σ c p G'
  | .no => False
abbrev relE (K : PySem.W.Frag) (σ : St) : Hp → Hp → V → Ev → List Addr → Prop := fun F H v e B => Vr K F H σ v e B
abbrev relL (K : PySem.W.Frag) (σ : St) : Hp → Hp → List V → List Ev → List Addr → Prop := fun F H v e B => VrL K F H σ v e B
abbrev relB : Hp → Hp → Bool → Bool → List Addr → Prop := fun _ _ v e B => v = e ∧ B = []
def tE (K : PySem.W.Frag) (mg : MG) (W : WX) (q : Bool) (f : Sl → R Ev) : TE := fun σ H Q => ∃ F G A, RS K F H σ G A ∧ Good F H A ∧ Post (relE K σ) K mg W q σ F H A (f G) Q
def tLs (K : PySem.W.Frag) (mg : MG) (W : WX) (q : Bool) (f : Sl → R (List Ev)) : TA := fun σ H Q => ∃ F G A, RS K F H σ G A ∧ Good F H A ∧ Post (relL K σ) K mg W q σ F H A (f G) Q
def tTs (K : PySem.W.Frag) (mg : MG) (W : WX) (q : Bool) (f : Sl → R Bool) : TT := fun σ H Q => ∃ F G A, RS K F H σ G A ∧ Good F H A ∧ Post relB K mg W q σ F H A (f G) Q

def SE (X : Cx) (e : Expr) (q : Bool) (f : Sl → R Ev) : Prop := ∀ W, Takes X W → PE X e (tE X.K X.mg W q f)
def SL (X : Cx) (es : List Expr) (q : Bool) (f : Sl → R (List Ev)) : Prop := ∀ W, Takes X W → PA X es (tLs X.K X.mg W q f)
def ST (X : Cx) (e : Expr) (q : Bool) (f : Sl → R Bool) : Prop := ∀ W, Takes X W → PT X e (tTs X.K X.mg W q f)

theorem peImp {X : Cx} {e : Expr} {t t' : TE} (h : ∀ σ H Q, t' σ H Q → t σ H Q) (p : PE X e t) : PE X e t' := ⟨fun pins s σ H Q I w => p.run pins s σ H Q I (h _ _ _ w)⟩
theorem ptImp {X : Cx} {e : Expr} {t t' : TT} (h : ∀ σ H Q, t' σ H Q → t σ H Q) (p : PT X e t) : PT X e t' := ⟨fun pins s σ H Q I w => p.run pins s σ H Q I (h _ _ _ w)⟩
theorem paImp {X : Cx} {e : List Expr} {t t' : TA} (h : ∀ σ H Q, t' σ H Q → t σ H Q) (p : PA X e t) : PA X e t' := ⟨fun ps pins s σ H Q I w => p.run ps pins s σ H Q I (h _ _ _ w)⟩
theorem psImp {X : Cx} {st : Stmt} {t t' : TS} (h : ∀ D σ H, t' D σ H → t D σ H) (p : PS X st t) : PS X st t' := ⟨fun pins s σ H D I w => p.run pins s σ H D I (h _ _ _ w)⟩
theorem pssImp {X : Cx} {st : List Stmt} {t t' : TS} (h : ∀ D σ H, t' D σ H → t D σ H) (p : PSs X st t) : PSs X st t' := ⟨fun pins s σ H D I w => p.run pins s σ H D I (h _ _ _ w)⟩

section
variable {K : PySem.W.Frag} {mg : MG} {W : WX}
/-- from a state further on -/
theorem Post.on {α β : Type} {rel : Hp → Hp → β → α → List Addr → Prop} {q q1 q2 : Bool} {σ : St} {F H F1 H1 : Hp} {A A1 : List Addr} {r : R α} {Q : β → Hp → Prop} (h : Post rel K mg W q σ F H A r Q) (s : Step F H A F1 H1 A1)
    (sm : q1 = true → Same H H1) (hq : q = true → q1 = true ∧ q2 = true) : Post rel K mg W q2 σ F1 H1 A1 r Q := by
  cases r with
  | no => exact h
  | exc c p G => exact fun F' H' A' C d rs st e mgc py => h F' H' A' C d rs (s.trans st) (fun z => (sm (hq z).1).trans (e (hq z).2)) mgc py
  | ok a G => exact fun v F' H' A' B rs rl st e => h v F' H' A' B rs rl (s.trans st) fun z => (sm (hq z).1).trans (e (hq z).2)
/-- THE STEP: the first part of what is to be done; B0 stays aside -/
theorem Post.bind {α β α' β' : Type} {rel : Hp → Hp → β → α → List Addr → Prop} {rel' : Hp → Hp → β' → α' → List Addr → Prop} {q q1 q2 : Bool} {σ : St} {F H : Hp} {A B0 : List Addr} {r : R α'} {k : α' → Sl → R α} {Q : β → Hp → Prop} {Q1 : β' → Hp → Prop}
    (h : Post rel K mg W q σ F H (B0 ++ A) (r.bd k) Q) (gd : Good F H (B0 ++ A)) (hB : ∀ b ∈ B0, ∃ o, H b = some o ∧ Cell o) (hq : q = true → q1 = true ∧ q2 = true)
    (then_ : ∀ a G1 v F1 H1 A1 B1, r = .ok a G1 → RS K F1 H1 σ G1 A1 → rel' F1 H1 v a B1 → Step F H A F1 H1 (B1 ++ A1) → (q1 = true → Same H H1) → (∀ b ∈ B0, H1 b = H b) → Good F1 H1 (B0 ++ (B1 ++ A1)) →
      Post rel K mg W q2 σ F1 H1 (B0 ++ (B1 ++ A1)) (k a G1) Q → Q1 v H1) : Post rel' K mg W q1 σ F H A r Q1 := by
  cases r with
  | no => exact h
  | exc c p G =>
    exact fun F' H' A' C d rs st e mgc py => h F' H' A' C d rs (st.more fun a m => List.mem_append_right _ m) (fun z => e (hq z).1) mgc py
  | ok a G =>
    intro v F1 H1 A1 B1 rs rl st sm
    obtain ⟨s2, hk⟩ := st.beside (gd.perm List.perm_append_comm) fun b m => let ⟨o, e, _⟩ := hB b m; ⟨o, e⟩
    have s3 : Step F H (B0 ++ A) F1 H1 (B0 ++ (B1 ++ A1)) := (s2.permL List.perm_append_comm).permR List.perm_append_comm
    exact then_ a G v F1 H1 A1 B1 rfl rs rl st sm hk s3.good (Post.on (rel := rel) h s3 sm hq)
/-- the whole is done -/
theorem Post.fin {α β : Type} {rel : Hp → Hp → β → α → List Addr → Prop} {q : Bool} {σ : St} {F H : Hp} {A : List Addr} {a : α} {G' : Sl} {Q : β → Hp → Prop} (h : Post rel K mg W q σ F H A (.ok a G') Q) {v : β} {F' H' : Hp} {A' B : List Addr}
    (rs : RS K F' H' σ G' A') (rl : rel F' H' v a B) (st : Step F H A F' H' (B ++ A')) (sm : q = true → Same H H') : Q v H' := h v F' H' A' B rs rl st sm
theorem Post.ofSome {α β : Type} {rel : Hp → Hp → β → α → List Addr → Prop} {q : Bool} {σ : St} {F H : Hp} {A : List Addr} {o : Option α} {G' : Sl} {Q : β → Hp → Prop} (h : Post rel K mg W q σ F H A (R.of G' o) Q) : ∃ a, o = some a ∧ Post rel K mg W q σ F H A (.ok a G') Q := by
  cases o with
  | none => exact h.elim
  | some a => exact ⟨a, rfl, h⟩
end
end QX

set_option Elab.async false
set_option linter.all false
set_option maxRecDepth 100000
/-! the language of the proofs, and what it computes -/
namespace QX
open PySem PySem.Spec L2

inductive Bop where | add | sub | mul | fdiv | mod | pow
inductive Cop where | lt | le | gt | ge | eq | ne | inn | nin
/-- built-in functions, by name -/
inductive Bfn where | len | abs | max | min | sum | all | any | list | tuple | int | str | repr | sorted | lenSet
/-- methods that only read -/
inductive Mth where | index | count | join | get | split
/-- methods that change -/
inductive Mut where | append | appendO | pop | insert | extend | clear | reverse
/-- what is gone through: the items of a thing, a range, .. -/
inductive Ik where | val | rng | zip | enm | itm | rvd
inductive Tg where
  | nm (i : Nat) | tp (ts : List Tg)
inductive Ex where
  | var (i : Nat) | mov (i : Nat) | shr (i : Nat) | ref (i : Nat)
  | glo (x : Str)
  | int (i : Int) | str (x : Str) | bl (b : Bool) | non
  | bin (op : Bop) (a b : Ex)
  | neg (a : Ex)
  | cmp (op : Cop) (a b : Ex)
  | chn (op op' : Cop) (a b c : Ex)
  | isN (a : Ex) | noN (a : Ex)
  | isB (k : Bool) (a : Ex) | noB (k : Bool) (a : Ex)
  | and (es : List Ex) | or (es : List Ex) | not (a : Ex)
  | ite (c a b : Ex)
  | tup (es : List Ex) | lst (es : List Ex)
  | ix (a b : Ex)
  | sl0 (a : Ex) | slL (a l : Ex) | slH (a h : Ex) | slB (a l h : Ex)
  | rev (a : Ex)
  | bfn (f : Bfn) (es : List Ex)
  | isi (a : Ex) (ty : List String)
  | cal (f : Str) (es : List Ex)
  | clk (f : Str) (es : List Ex) (ks : List Str) (p : List Nat)
  | met (m : Mth) (o : Ex) (es : List Ex)
  | mut (m : Mut) (i : Nat) (es : List Ex)
  | lc (elt : Ex) (tg : Tg) (k : Ik) (its : List Ex) (ifs : List Ex) (own : List Nat)
  | nev
  | lrg (a : Ex)

/-- how a def ends: its value and its arguments' trees behind -/
inductive FR where
  | ret (t : T) (as : List T) | exc (c : Str) (p : List (Str × T)) | no

/-! ### trees -/
/-- the tree of what may be kept -/
def Ev.fm : Ev → Option T
  | .own t => some t
  | .vw t => if t.isF then some t else none
  | .rf _ => none
/-- the tree of what may be looked at -/
def Ev.tr : Ev → Option T
  | .own t => some t
  | .vw t => some t
  | .rf _ => none
def Ev.isRf : Ev → Bool
  | .rf _ => true
  | _ => false
def T.truth : T → Option Bool
  | .non => some false
  | .bl b => some b
  | .int i => some (i != 0)
  | .str x => if x.length ≤ sizeLine then some (x.length != 0) else none
  | .tup ts => some (!ts.isEmpty)
  | .lst _ ts => some (!ts.isEmpty)
  | .dK _ ks _ => some (!ks.isEmpty)
  | .dT _ _ _ => none
  | .opq _ => none
/-- the tree in a slot -/
def slotT (G : Sl) (i : Nat) : Option T := (G[i]?).join
def Ev.truth (e : Ev) : Option Bool := e.tr.bind T.truth

mutual
def T.py : T → Option PyData
  | .non => some .none
  | .bl b => some (.bool b)
  | .int i => some (.int i)
  | .str x => some (.str x)
  | .tup ts => (pyL ts).map .tuple
  | .lst _ ts => (pyL ts).map .list
  | _ => none
def pyL : List T → Option (List PyData)
  | [] => some []
  | t :: ts => match T.py t, pyL ts with
    | some d, some ds => some (d :: ds)
    | _, _ => none
end
def eqTT (a b : T) : Option Bool := match a.py, b.py with
  | some d, some e => if SeqAt.shaped d && SeqAt.shaped e then some (PyData.eqv d e) else none
  | _, _ => none

/-- the items of a list that may be kept one by one -/
def Ev.lk : Ev → Option (List T)
  | .own (.lst _ ts) => some ts
  | .vw (.lst _ ts) => if isFL ts then some ts else none
  | _ => none
def Ev.tk : Ev → Option (List T)
  | .own (.tup ts) => some ts
  | .vw (.tup ts) => if isFL ts then some ts else none
  | _ => none

def logsum (i j : Int) : Bool := i.natAbs.log2 + j.natAbs.log2 < 1000000
def repop (ts : List T) (j : Int) : Option Ev := if isFL ts && decide (-(2 ^ 63) ≤ j) && decide (j < 2 ^ 63) && decide (ts.length * j.toNat ≤ sizeLine) then some (.own (.lst true (List.replicate j.toNat ts).flatten)) else none
def binop (op : Bop) (a b : Ev) : Option Ev := match op, a.tr, b.tr with
  | .add, some (.int i), some (.int j) => some (.own (.int (i + j)))
  | .add, some (.str x), some (.str y) => if x.length + y.length ≤ sizeLine then some (.own (.str (x ++ y))) else none
  | .add, some (.lst _ _), some (.lst _ _) => match a.lk, b.lk with
    | some ts, some us => if ts.length + us.length ≤ sizeLine then some (.own (.lst true (ts ++ us))) else none
    | _, _ => none
  | .add, some (.tup _), some (.tup _) => match a.tk, b.tk with
    | some ts, some us => if ts.length + us.length ≤ sizeLine then some (.own (.tup (ts ++ us))) else none
    | _, _ => none
  | .sub, some (.int i), some (.int j) => some (.own (.int (i - j)))
  | .mul, some (.int i), some (.int j) => if logsum i j then some (.own (.int (i * j))) else none
  | .mul, some (.lst true ts), some (.int j) => (match a with
    | .own _ => repop ts j
    | _ => none)
  | .fdiv, some (.int i), some (.int j) => if decide (0 < j) && decide (j.natAbs.log2 < 9000) then some (.own (.int (i / j))) else none
  | .mod, some (.int i), some (.int j) => if 0 < j then some (.own (.int (i % j))) else none
  | .pow, some (.int i), some (.int j) => if decide (0 ≤ j) && decide ((i.natAbs.log2 + 1) * j.toNat ≤ 2 ^ 27) then some (.own (.int (i ^ j.toNat))) else none
  | _, _, _ => none

mutual
def scalT : T → Bool
  | .non => true | .bl _ => true | .int _ => true | .str _ => true
  | _ => false
end
/-- is it among the items (no list, no tuple) -/
def eqS : T → T → Bool
  | .non, .non => true
  | .bl a, .bl b => a == b
  | .bl a, .int j => (if a then 1 else 0) == j
  | .int i, .bl b => i == (if b then 1 else 0)
  | .int i, .int j => i == j
  | .str x, .str y => x == y
  | _, _ => false
def inT (x : T) (ys : List T) : Option Bool :=
  if scalT x && ys.all scalT then some (ys.any fun y => eqS y x) else
  match x.py, pyL ys with
  | some d, some ds => if SeqAt.shaped d && SeqAt.shaped (.list ds) then some (ds.any fun z => PyData.eqv z d) else none
  | _, _ => none
def inOp (a b : T) : Option Bool := match b with
  | .str y => (match a with
    | .str x => some (!(Builtin.Str.occurrences y x 0 y.length 1).isEmpty)
    | _ => none)
  | .lst _ ts => inT a ts
  | .tup ts => if scalT a && ts.all scalT then some (ts.any fun y => eqS y a) else none
  | _ => none
def cmpop (op : Cop) (a b : Ev) : Option Bool := match op, a.tr, b.tr with
  | .lt, some (.int i), some (.int j) => some (decide (i < j))
  | .le, some (.int i), some (.int j) => some (decide (i ≤ j))
  | .gt, some (.int i), some (.int j) => some (decide (j < i))
  | .ge, some (.int i), some (.int j) => some (decide (j ≤ i))
  | .eq, some x, some y => eqTT x y
  | .ne, some x, some y => (eqTT x y).map (!·)
  | .inn, some x, some y => inOp x y
  | .nin, some x, some y => (inOp x y).map (!·)
  | _, _, _ => none

/-- the j-th, from the end where j is below nought -/
def atT (ts : List T) (j : Int) : Option T := atI ts j
def ixop (a b : Ev) : Option Ev := match a, b.tr with
  | .own (.lst _ ts), some (.int j) => (atI ts j).map .own
  | .own (.tup ts), some (.int j) => (atI ts j).map .own
  | .vw (.lst _ ts), some (.int j) => (atI ts j).map fun t => if t.isF then .own t else .vw t
  | .vw (.tup ts), some (.int j) => (atI ts j).map fun t => if t.isF then .own t else .vw t
  | e, some (.int j) => match e.tr with
    | some (.str x) => if x.length ≤ sizeLine then (atI x.cps.toList j).map fun c => .own (.str ⟨#[c]⟩) else none
    | _ => none
  | _, _ => none
def cutT (ts : List T) (lo hi : Option Int) : List T := (ts.drop (HT.sIx ts.length 0 lo)).take (HT.sIx ts.length ts.length hi - HT.sIx ts.length 0 lo)
def slop (a : Ev) (lo hi : Option Int) : Option Ev := match a.tr with
  | some (.lst _ _) => a.lk.map fun ts => .own (.lst true (cutT ts lo hi))
  | some (.tup _) => a.tk.map fun ts => .own (.tup (cutT ts lo hi))
  | some (.str x) => if x.length ≤ sizeLine then some (.own (.str (cutS x lo hi))) else none
  | _ => none
def revop (a : Ev) : Option Ev := match a.tr with
  | some (.lst _ _) => a.lk.map fun ts => .own (.lst true ts.reverse)
  | _ => none

def intsOf : List T → Option (List Int)
  | [] => some []
  | .int i :: ts => (intsOf ts).map (i :: ·)
  | _ => none
def blsOf : List T → Option (List Bool)
  | [] => some []
  | .bl i :: ts => (blsOf ts).map (i :: ·)
  | _ => none
def strsOf : List T → Option (List Str)
  | [] => some []
  | .str i :: ts => (strsOf ts).map (i :: ·)
  | _ => none
def lenT : T → Option Nat
  | .tup ts => some ts.length
  | .lst _ ts => some ts.length
  | .str x => if x.length ≤ sizeLine then some x.length else none
  | _ => none

def maxI : Int → List Int → Int
  | a, [] => a
  | a, b :: l => maxI (if b > a then b else a) l
def minI : Int → List Int → Int
  | a, [] => a
  | a, b :: l => minI (if b < a then b else a) l
/-- what a text made of data writes -/
def reprT (t : T) : Option Str := none

def bfnop (f : Bfn) (es : List Ev) : Option Ev := match f, es with
  | .len, [e] => match e.tr.bind lenT with
    | some n => some (.own (.int (n : Nat)))
    | none => none
  | .abs, [e] => match e.tr with
    | some (.int i) => some (.own (.int (if i < 0 then -i else i)))
    | _ => none
  | .max, [a, b] => match a.tr, b.tr with
    | some (.int i), some (.int j) => some (.own (.int (if j > i then j else i)))
    | _, _ => none
  | .min, [a, b] => match a.tr, b.tr with
    | some (.int i), some (.int j) => some (.own (.int (if j < i then j else i)))
    | _, _ => none
  | .max, [e] => match e.tr with
    | some (.lst _ ts) => (match intsOf ts with
      | some (n :: ns) => some (.own (.int (maxI n ns)))
      | _ => none)
    | _ => none
  | .min, [e] => match e.tr with
    | some (.lst _ ts) => (match intsOf ts with
      | some (n :: ns) => some (.own (.int (minI n ns)))
      | _ => none)
    | _ => none
  | .all, [e] => match e.tr with
    | some (.lst _ ts) => (blsOf ts).map fun bs => .own (.bl (bs.all id))
    | _ => none
  | .any, [e] => match e.tr with
    | some (.lst _ ts) => (blsOf ts).map fun bs => .own (.bl (bs.any id))
    | _ => none
  | .sum, [e] => match e.tr with
    | some (.lst _ ts) => (intsOf ts).map fun ns => .own (.int ns.sum)
    | _ => none
  | .list, [e] => match e.tr with
    | some (.lst _ _) => e.lk.map fun ts => .own (.lst true ts)
    | some (.tup _) => e.tk.map fun ts => .own (.lst true ts)
    | _ => none
  | .tuple, [e] => match e.tr with
    | some (.lst _ _) => e.lk.map fun ts => .own (.tup ts)
    | some (.tup _) => e.tk.map fun ts => .own (.tup ts)
    | _ => none
  | .int, [e] => match e.tr with
    | some (.int i) => some (.own (.int i))
    | some (.bl k) => some (.own (.int (if k then 1 else 0)))
    | _ => none
  | .lenSet, [e] => match e.tr with
    | some (.tup ts) => (strsOf ts).bind fun xs => if xs.length + 1 < scanBound then some (.own (.int (xs.eraseDups.length))) else none
    | _ => none
  | _, _ => none
/-- the name of a tree's type -/
def T.ty : T → Option String
  | .non => some "NoneType"
  | .bl _ => some "bool"
  | .int _ => some "int"
  | .str _ => some "str"
  | .tup _ => some "tuple"
  | .lst _ _ => some "list"
  | .dK _ _ _ => some "dict"
  | .dT _ _ _ => some "dict"
  | .opq _ => none
def isiAny (a : String) : List String → Option Bool
  | [] => some false
  | b :: bs => match kitB a b with
    | some true => some true
    | some false => isiAny a bs
    | none => none
def isiop (e : Ev) (ty : List String) : Option Bool := (e.tr.bind T.ty).bind fun a => isiAny a ty
def idxS (y : T) : List T → Option Nat
  | [] => none
  | t :: ts => if eqS t y then some 0 else (idxS y ts).map (· + 1)
def Mth.on (m : Mth) (e : Ev) : Bool := match m, e.tr with
  | .index, some (.lst _ _) => true
  | _, _ => false
def metop (m : Mth) (o : Ev) (es : List Ev) : Option Ev := match m, o.tr, es with
  | .index, some (.lst _ ts), [e] => match e.tr with
    | some y => if scalT y && ts.all scalT then (match idxS y ts with
      | some n => some (.own (.int (n : Nat)))
      | none => none) else none
    | _ => none
  | _, _, _ => none
/-- a list of ours changed: what is told, the items behind -/
def mutop (m : Mut) (ts : List T) (es : List Ev) : Option (T × List T) := match m, es with
  | .append, [e] => match e.fm with
    | some t => if ts.length < sizeLine then some (.non, ts ++ [t.fz]) else none
    | none => none
  | .appendO, [e] => match e with
    | .own t => if ts.length < sizeLine then some (.non, ts ++ [t]) else none
    | _ => none
  | .pop, [] => match ts.getLast? with
    | some t => some (t, ts.dropLast)
    | none => none
  | .pop, [e] => match e.tr with
    | some (.int i) => if decide (-(2 ^ 63) ≤ i) && decide (i < 2 ^ 63) then (match seqIndex? i ts.length with
      | some k => (ts[k]?).map fun t => (t, ts.eraseIdx k)
      | none => none) else none
    | _ => none
  | .clear, [] => some (.non, [])
  | .reverse, [] => some (.non, ts.reverse)
  | _, _ => none

/-- names given to a tree -/
def tgSet (tg : Nat) (t : T) (G : Sl) : Option Sl := if tg < G.length then some (G.set tg (some t)) else none
mutual
def bindT : Tg → T → Sl → Option Sl
  | .nm i, t, G => if i < G.length then some (G.set i (some t)) else none
  | .tp gs, .tup ts, G => bindL gs ts G
  | _, _, _ => none
def bindL : List Tg → List T → Sl → Option Sl
  | [], [], G => some G
  | g :: gs, t :: ts, G => (bindT g t G).bind fun G1 => bindL gs ts G1
  | _, _, _ => none
end

def outS (G : Sl) : List Nat → Sl
  | [] => G
  | i :: is => (outS G is).set i none
/-- the slots is as they are in G0 -/
def backS (G G0 : Sl) : List Nat → Sl
  | [] => G
  | i :: is => (backS G G0 is).set i ((G0[i]?).getD none)

/-- item by item -/
def loopC (k : T → Sl → R (Option T)) : List T → Sl → R (List T)
  | [], G => .ok [] G
  | t :: ts, G => (k t G).bd fun o G1 => (loopC k ts G1).bd fun us G2 => .ok (match o with | some u => u :: us | none => us) G2

/-- no exception leaves -/
def R.nx {α : Type} : R α → R α
  | .exc _ _ _ => .no
  | r => r
/-- a comprehension's turn -/
def turnC (tg : Tg) (ifs : Sl → R Bool) (elt : Sl → R Ev) (own : List Nat) (t : T) (G : Sl) : R (Option T) := match bindT tg t G with
  | none => .no
  | some G1 => (ifs G1).nx.bd fun ok G2 => if ok then (elt G2).nx.bd fun v G3 => (match v.fm with
      | some u => .ok (some u.fz) (outS G3 own)
      | none => .no) else .ok none (outS G2 own)
/-- nothing of ours stands in these slots -/
def freeS (G : Sl) (own : List Nat) : Bool := own.all fun i => match G[i]? with
  | some (some t) => t.isF
  | some none => true
  | none => false
def itemsOf (e : Ev) : Option (List T) := match e with
  | .own (.lst _ ts) => some (fzL ts)
  | .own (.tup ts) => some (fzL ts)
  | .vw (.lst _ ts) => if isFL ts then some ts else none
  | .vw (.tup ts) => if isFL ts then some ts else none
  | .own (.str x) => some (x.cps.toList.map fun c => .str ⟨#[c]⟩)
  | _ => none
def rngOf (es : List Ev) : Option (List T) := match es.map Ev.tr with
  | [some (.int n)] => if decide (-(2 ^ 62) ≤ n) && decide (n < 2 ^ 62) then some ((List.range n.toNat).map fun (i : Nat) => .int (i : Int)) else none
  | [some (.int a), some (.int b)] => if decide (-(2 ^ 62) ≤ a) && decide (a < 2 ^ 62) && decide (-(2 ^ 62) ≤ b) && decide (b < 2 ^ 62) then some ((List.range (b - a).toNat).map fun (i : Nat) => .int (a + (i : Int))) else none
  | _ => none

def slLo (x y : Ev) : Option Ev := match y.tr with
  | some (.int i) => slop x (some i) none
  | _ => none
def slHi (x y : Ev) : Option Ev := match y.tr with
  | some (.int i) => slop x none (some i)
  | _ => none
def intq (_ y : Ev) : Option Bool := match y.tr with
  | some (.int _) => some true
  | _ => none
def slBo (x y z : Ev) : Option Ev := match y.tr, z.tr with
  | some (.int i), some (.int j) => slop x (some i) (some j)
  | _, _ => none
def stableOf : Ev → Bool
  | .own _ => true
  | .vw (.tup _) => true
  | _ => false
/-- a list that is gone through -/
def liT : Ev → Option (List T × Bool)
  | .own (.lst _ ts) => some (fzL ts, true)
  | .vw (.lst _ ts) => if isFL ts then some (ts, false) else none
  | _ => none
def enT (ts : List T) : List T := ts.zipIdx.map fun p => .tup [.int (p.2 : Nat), p.1]
def ziT (ts us : List T) : List T := (ts.zip us).map fun p => .tup [p.1, p.2]
def Ik.nm : Ik → Str
  | .val => "" | .rng => "range" | .zip => "zip" | .enm => "enumerate" | .itm => "" | .rvd => "reversed"
def rng3 (es : List Ev) : Option (List T) := match es.map Ev.tr with
  | [some (.int a), some (.int b), some (.int c)] => if c = -1 ∧ -(2 ^ 62) ≤ a ∧ a < 2 ^ 62 ∧ -(2 ^ 62) ≤ b ∧ b < 2 ^ 62 then some ((List.range (a - b).toNat).map fun (i : Nat) => .int (a + (i : Int) * -1)) else none
  | _ => none
def iterOf (k : Ik) (es : List Ev) : Option (List T × Bool) := match k, es with
  | .val, [e] => (itemsOf e).map (·, stableOf e)
  | .rng, es => if es.length = 3 then (rng3 es).map (·, true) else (rngOf es).map (·, true)
  | .enm, [e] => (liT e).map fun r => (enT r.1, r.2)
  | .rvd, [e] => (liT e).map fun r => (r.1.reverse, r.2)
  | .zip, [e, e'] => (liT e).bind fun r => (liT e').map fun r' => (ziT r.1 r'.1, r.2 && r'.2)
  | _, _ => none

/-- list(range(n)) -/
def lrgop (e : Ev) : Option Ev := match e.tr with
  | some (.int n) => if decide (-(2 ^ 62) ≤ n) && decide (n ≤ 2 ^ 24) then some (.own (.lst true ((List.range n.toNat).map fun (i : Nat) => .int (i : Int)))) else none
  | _ => none
/-! ### quiet: what stands in the heap stays -/
mutual
def quiet : Ex → Bool
  | .ref _ => false
  | .mut _ _ _ => false
  | .bin _ a b => quiet a && quiet b
  | .neg a => quiet a
  | .cmp _ a b => quiet a && quiet b
  | .chn _ _ a b c => quiet a && (quiet b && quiet c)
  | .isN a => quiet a | .noN a => quiet a | .isB _ a => quiet a | .noB _ a => quiet a | .not a => quiet a
  | .and es => quietL es | .or es => quietL es | .tup es => quietL es | .lst es => quietL es
  | .ite c a b => quiet c && quiet a && quiet b
  | .ix a b => quiet a && quiet b
  | .sl0 a => quiet a | .slL a l => quiet a && quiet l | .slH a h => quiet a && quiet h | .slB a l h => quiet a && (quiet l && quiet h)
  | .rev a => quiet a
  | .lrg a => quiet a
  | .bfn _ es => quietL es
  | .isi a _ => quiet a
  | .cal _ es => quietL es
  | .clk _ es _ _ => quietL es
  | .met _ o es => quiet o && quietL es
  | .lc elt _ _ its ifs _ => quiet elt && quietL its && quietL ifs
  | _ => true
def quietL : List Ex → Bool
  | [] => true
  | e :: es => quiet e && quietL es
end

/-! ### calls -/
def allOwn : List Ev → Option (List T)
  | [] => some []
  | .own t :: es => (allOwn es).map (t :: ·)
  | _ => none
def allVw : List Ev → Option (List T)
  | [] => some []
  | .own t :: es => (allVw es).map (t.fz :: ·)
  | .vw t :: es => (allVw es).map (t.fz :: ·)
  | _ => none
/-- as they stand -/
def allTr : List Ev → Option (List T)
  | [] => some []
  | .own t :: es => (allTr es).map (t :: ·)
  | .vw t :: es => (allTr es).map (t :: ·)
  | _ => none
/-- with slots handed on by name: their trees -/
def allRf (G : Sl) : List Ev → Option (List T)
  | [] => some []
  | .own t :: es => (allRf G es).map (t.fz :: ·)
  | .rf i :: es => match slotT G i with
    | some t => (allRf (G.set i none) es).map (t :: ·)
    | none => none
  | _ => none
/-- .. and behind -/
def setRf (G : Sl) : List Ev → List T → Option Sl
  | [], [] => some G
  | .own _ :: es, _ :: ts => setRf G es ts
  | .rf i :: es, t :: ts => if i < G.length then setRf (G.set i (some t)) es ts else none
  | _, _ => none
def callE (phi : List T → FR) (es : List Ev) (G : Sl) : R Ev := match allVw es with
  | some ts => match phi ts with
    | .ret t _ => if (allOwn es).isSome || t.noF then .ok (.own t) G else .no
    | .exc c p => .exc c p G
    | .no => .no
  | none => match allRf G es with
    | some ts => match phi ts with
      | .ret t us => match setRf G es us with
        | some G' => .ok (.own t) G'
        | none => .no
      | _ => .no
    | none => .no

/-! ### expressions -/
section
variable (Φ : Str → List T → FR) (gl : Str → Option T)
def logic (andq : Bool) (m : Sl → R Ev) (rest : Sl → R Ev) : Sl → R Ev := fun G => (m G).bd fun v G1 => match v.truth with
  | some k => if k == andq then rest G1 else .ok v G1
  | none => .no
mutual
def evalE : Ex → Sl → R Ev
  | .var i => fun G => match slotT G i with
    | some t => .ok (if t.isF then .own t else .vw t) G
    | none => .no
  | .mov i => fun G => match slotT G i with
    | some t => .ok (.own t) (G.set i none)
    | none => .no
  | .shr i => fun G => match slotT G i with
    | some t => .ok (.own t.fz) (G.set i (some t.fz))
    | none => .no
  | .ref i => fun G => match slotT G i with
    | some _ => .ok (.rf i) G
    | none => .no
  | .glo x => fun G => match gl x with
    | some t => if t.isF then .ok (.own t) G else .no
    | none => .no
  | .int i => fun G => .ok (.own (.int i)) G
  | .str x => fun G => .ok (.own (.str x)) G
  | .bl b => fun G => .ok (.own (.bl b)) G
  | .non => fun G => .ok (.own .non) G
  | .bin op a b => fun G => (evalE a G).bd fun x G1 => (evalE b G1).bd fun y G2 => if x.firm || quiet b then R.of G2 (binop op x y) else .no
  | .neg a => fun G => (evalE a G).bd fun x G1 => match x.tr with
    | some (.int i) => .ok (.own (.int (-i))) G1
    | _ => .no
  | .cmp op a b => fun G => (evalE a G).bd fun x G1 => (evalE b G1).bd fun y G2 => if x.firm || quiet b then R.of G2 ((cmpop op x y).map fun k => .own (.bl k)) else .no
  | .chn op op' a b c => fun G => (evalE a G).bd fun x G1 => (evalE b G1).bd fun y G2 => if x.firm || quiet b then (match cmpop op x y with
    | some true => (evalE c G2).bd fun z G3 => if (x.firm || quiet c) && y.firm then R.of G3 ((cmpop op' y z).map fun k => .own (.bl k)) else .no
    | some false => .ok (.own (.bl false)) G2
    | none => .no) else .no
  | .isN a => fun G => (evalE a G).bd fun x G1 => match x.tr with
    | some .non => .ok (.own (.bl true)) G1
    | some (.opq _) => .no
    | some _ => .ok (.own (.bl false)) G1
    | none => .no
  | .noN a => fun G => (evalE a G).bd fun x G1 => match x.tr with
    | some .non => .ok (.own (.bl false)) G1
    | some (.opq _) => .no
    | some _ => .ok (.own (.bl true)) G1
    | none => .no
  | .isB k a => fun G => (evalE a G).bd fun x G1 => match x.tr with
    | some (.bl b) => .ok (.own (.bl (decide (b = k)))) G1
    | _ => .no
  | .noB k a => fun G => (evalE a G).bd fun x G1 => match x.tr with
    | some (.bl b) => .ok (.own (.bl (!decide (b = k)))) G1
    | _ => .no
  | .and es => fun G => evalAnd true es G
  | .or es => fun G => evalAnd false es G
  | .not a => fun G => (evalE a G).bd fun x G1 => match x.truth with
    | some k => .ok (.own (.bl (!k))) G1
    | none => .no
  | .ite c a b => fun G => (evalE c G).bd fun x G1 => match x.truth with
    | some true => evalE a G1
    | some false => evalE b G1
    | none => .no
  | .tup es => fun G => (evalL es G).bd fun vs G1 => if vs.length ≤ sizeLine then R.of G1 ((allOwn vs).map fun ts => .own (.tup ts)) else .no
  | .lst es => fun G => (evalL es G).bd fun vs G1 => if vs.length ≤ sizeLine then (match allOwn vs with
    | some ts => .ok (.own (.lst true ts)) G1
    | none => R.of G1 ((allTr vs).map fun ts => .vw (.lst true ts))) else .no
  | .ix a b => fun G => (evalE a G).bd fun x G1 => (evalE b G1).bd fun y G2 => if x.firm || quiet b then R.of G2 (ixop x y) else .no
  | .sl0 a => fun G => (evalE a G).bd fun x G1 => R.of G1 (slop x none none)
  | .slL a l => fun G => (evalE a G).bd fun x G1 => (evalE l G1).bd fun y G2 => if x.firm || quiet l then R.of G2 (slLo x y) else .no
  | .slH a h => fun G => (evalE a G).bd fun x G1 => (evalE h G1).bd fun y G2 => if x.firm || quiet h then R.of G2 (slHi x y) else .no
  | .slB a l h => fun G => (evalE a G).bd fun x G1 => (evalE l G1).bd fun y G2 => if x.firm || quiet l then (match intq x y with
    | some true => (evalE h G2).bd fun z G3 => if (x.firm || quiet h) && y.firm then R.of G3 (slBo x y z) else .no
    | some false => .no
    | none => .no) else .no
  | .rev a => fun G => (evalE a G).bd fun x G1 => R.of G1 (revop x)
  | .bfn f es => fun G => (evalL es G).bd fun vs G1 => R.of G1 (bfnop f vs)
  | .isi a ty => fun G => (evalE a G).bd fun x G1 => R.of G1 ((isiop x ty).map fun k => .own (.bl k))
  | .cal f es => fun G => (evalL es G).bd fun vs G1 => callE (Φ f) vs G1
  | .clk f es ks p => fun G => (evalL es G).bd fun vs G1 => callE (fun ts => Φ f (p.filterMap fun j => ts[j]?)) vs G1
  | .met m o es => fun G => (evalE o G).bd fun x G1 => if m.on x then (evalL es G1).bd fun vs G2 => if x.firm || quietL es then R.of G2 (metop m x vs) else .no else .no
  | .mut m i es => fun G => match slotT G i with
    | some (.lst true _) => (evalL es G).bd fun vs G1 => (match slotT G1 i with
      | some (.lst true ts) => (match mutop m ts vs with
        | some (t, us) => .ok (.own t) (G1.set i (some (.lst true us)))
        | none => .no)
      | _ => .no)
    | _ => .no
  | .lc elt tg k its ifs own => fun G => (evalL its G).bd fun vs G1 => match iterOf k vs with
    | none => .no
    | some r => if (r.2 || (quiet elt && quietL ifs)) && freeS G1 own then
        (loopC (turnC tg (evalAll ifs) (evalE elt) own) r.1 (outS G1 own)).bd fun ts G6 => if ts.length ≤ sizeLine then .ok (.own (.lst true ts)) (backS G6 G1 own) else .no
      else .no
  | .nev => fun _ => .no
  | .lrg a => fun G => (evalE a G).bd fun x G1 => R.of G1 (lrgop x)
def evalL : List Ex → Sl → R (List Ev)
  | [] => fun G => .ok [] G
  | e :: es => fun G => (evalE e G).bd fun v G1 => (evalL es G1).bd fun vs G2 => if v.firm || quietL es then (if !quiet e || !v.isRf then .ok (v :: vs) G2 else .no) else .no
def evalAnd (k : Bool) : List Ex → Sl → R Ev
  | [] => fun _ => .no
  | e :: es => fun G => match es with
    | [] => evalE e G
    | _ => logic k (evalE e) (evalAnd k es) G
def evalAll : List Ex → Sl → R Bool
  | [] => fun G => .ok true G
  | e :: es => fun G => (evalE e G).bd fun v G1 => match v.truth with
    | some true => evalAll es G1
    | some false => .ok false G1
    | none => .no
end
end
end QX

set_option Elab.async false
set_option linter.all false
set_option maxRecDepth 100000
/-! the operations, one by one -/
namespace QX
open PySem PySem.Spec L2

section
variable {K : PySem.W.Frag} {mg : MG} {W : WX} {q : Bool} {σ : L2.St} {F H : Hp} {A : List Addr} {G : Sl} {Q : VK}

/-- what is still ours is among what was -/
structure Sub (B A : List Addr) : Prop where
  mem : ∀ a ∈ B, a ∈ A
  nd : B.Nodup

abbrev PoE (K : PySem.W.Frag) (mg : MG) (W : WX) (q : Bool) (σ : L2.St) (F H : Hp) (A : List Addr) (e : Ev) (G : Sl) (Q : VK) : Prop := Post (relE K σ) K mg W q σ F H A (.ok e G) Q

/-- the answer stands in the heap as it is -/
theorem PoE.here {t : T} {v : V} {A2 B : List Addr} (h : PoE K mg W q σ F H A (.own t) G Q) (g : Good F H A) (rs : RS K F H σ G A2) (r : Rp K F H v t B) (s : Sub (B ++ A2) A) : Q v H :=
  Post.fin h rs (.own r) (g.refl.drop s.mem s.nd) fun _ => Same.refl _
theorem PoE.look {t : T} {v : V} {A2 C : List Addr} (h : PoE K mg W q σ F H A (.vw t) G Q) (g : Good F H A) (rs : RS K F H σ G A2) (r : Rp K F H v t C) (s : Sub A2 A) : Q v H :=
  Post.fin h rs (.vw r) (g.refl.drop s.mem s.nd) fun _ => Same.refl _
/-- .. in a new object of ours -/
theorem PoE.newL {ts : List T} {vs : List V} {A2 B : List Addr} {p : Addr} (h : PoE K mg W q σ F H A (.own (.lst true ts)) G Q) (g : Good F H A) (rs : RS K F H σ G A2) (r : RpL K F H vs ts B) (s : Sub (B ++ A2) A) (hp : H p = none) :
    Q (.ref p) (upd H p (.lst vs)) := by
  have g2 : Good F H (B ++ A2) := g.less s.mem s.nd
  have hB := r.at
  have hA := rs.at
  have st : Step F H A F (upd H p (.lst vs)) ((p :: B) ++ A2) := (g2.newO hp fun a m => (List.mem_append.mp m).elim (fun m => let ⟨o, e, _⟩ := hB a m; ⟨o, e⟩) fun m => let ⟨o, e, _⟩ := hA a m; ⟨o, e⟩).more s.mem
  have sm : Same H (upd H p (.lst vs)) := fun b o e => by rw [upd_ne (ne_of_none e hp)]; exact e
  have kp : ∀ a o, H a = some o → (upd H p (.lst vs)) a = H a := fun a o e => upd_ne (ne_of_none e hp)
  refine Post.fin h (rs.mono (Same.refl _) (Same.tupS sm) fun a m => let ⟨o, e, _⟩ := hA a m; kp a o e) (.own (.lstO upd_same (r.mono (Same.refl _) (Same.tupS sm) fun a m => let ⟨o, e, _⟩ := hB a m; kp a o e))) st fun _ => sm
theorem PoE.newT {ts : List T} {vs : List V} {A2 B : List Addr} {p : Addr} (h : PoE K mg W q σ F H A (.own (.tup ts)) G Q) (g : Good F H A) (rs : RS K F H σ G A2) (r : RpL K F H vs ts B) (s : Sub (B ++ A2) A) (hp : H p = none) :
    Q (.ref p) (upd H p (.tup vs)) := by
  have g2 : Good F H (B ++ A2) := g.less s.mem s.nd
  have hB := r.at
  have hA := rs.at
  have st : Step F H A F (upd H p (.tup vs)) (B ++ A2) := (g2.newT hp).more s.mem
  have sm : Same H (upd H p (.tup vs)) := fun b o e => by rw [upd_ne (ne_of_none e hp)]; exact e
  have kp : ∀ a o, H a = some o → (upd H p (.tup vs)) a = H a := fun a o e => upd_ne (ne_of_none e hp)
  refine Post.fin h (rs.mono (Same.refl _) (Same.tupS sm) fun a m => let ⟨o, e, _⟩ := hA a m; kp a o e) (.own (.tup (SqT.of upd_same) (r.mono (Same.refl _) (Same.tupS sm) fun a m => let ⟨o, e, _⟩ := hB a m; kp a o e))) st fun _ => sm

theorem Vr.int {v : V} {e : Ev} {B : List Addr} {i : Int} (h : Vr K F H σ v e B) (he : e.tr = some (.int i)) : v = .int i := by
  cases h with
  | own r => simp only [Ev.tr, Option.some.injEq] at he; subst he; cases r; rfl
  | vw r => simp only [Ev.tr, Option.some.injEq] at he; subst he; cases r; rfl
  | rf h => cases he
theorem Vr.str {v : V} {e : Ev} {B : List Addr} {i : Str} (h : Vr K F H σ v e B) (he : e.tr = some (.str i)) : v = .str i := by
  cases h with
  | own r => simp only [Ev.tr, Option.some.injEq] at he; subst he; cases r; rfl
  | vw r => simp only [Ev.tr, Option.some.injEq] at he; subst he; cases r; rfl
  | rf h => cases he
theorem Vr.bl {v : V} {e : Ev} {B : List Addr} {i : Bool} (h : Vr K F H σ v e B) (he : e.tr = some (.bl i)) : v = .bl i := by
  cases h with
  | own r => simp only [Ev.tr, Option.some.injEq] at he; subst he; cases r; rfl
  | vw r => simp only [Ev.tr, Option.some.injEq] at he; subst he; cases r; rfl
  | rf h => cases he
/-- as it may be looked at -/
theorem Vr.look {v : V} {e : Ev} {B : List Addr} {t : T} (h : Vr K F H σ v e B) (he : e.tr = some t) : ∃ C, Rp K F H v t C := by
  cases h with
  | own r => simp only [Ev.tr, Option.some.injEq] at he; subst he; exact ⟨_, r⟩
  | vw r => simp only [Ev.tr, Option.some.injEq] at he; subst he; exact ⟨_, r⟩
  | rf h => cases he
/-- a list that is read -/
theorem Rp.lst {v : V} {o : Bool} {ts : List T} {C : List Addr} (h : Rp K F H v (.lst o ts) C) (sm : Same F H) : ∃ p vs D, v = .ref p ∧ SqL K H p vs ∧ RpL K F H vs ts D ∧ (∀ a ∈ D, a ∈ C) ∧ (C.Nodup → D.Nodup) := by
  cases h with
  | lstO h r => exact ⟨_, _, _, rfl, .inl (.inl h), r, fun a m => List.mem_cons_of_mem _ m, fun n => (List.nodup_cons.mp n).2⟩
  | lstF h r => exact ⟨_, _, _, rfl, sm.seq h, r, fun a m => m, id⟩
theorem Rp.tupl {v : V} {ts : List T} {C : List Addr} (h : Rp K F H v (.tup ts) C) : ∃ p vs, v = .ref p ∧ SqT K H p vs ∧ RpL K F H vs ts C := by
  cases h with
  | tup h r => exact ⟨_, _, rfl, h, r⟩
/-- the items that may be kept -/
theorem Vr.lk {v : V} {e : Ev} {B : List Addr} {ts : List T} (h : Vr K F H σ v e B) (he : e.lk = some ts) (sm : Same F H) : ∃ p vs D, v = .ref p ∧ SqL K H p vs ∧ RpL K F H vs ts D ∧ (∀ a ∈ D, a ∈ B) ∧ (B.Nodup → D.Nodup) := by
  cases h with
  | own r =>
    rename_i t
    cases t <;> simp only [Ev.lk, Option.some.injEq, reduceCtorEq] at he
    subst he
    exact r.lst sm
  | vw r =>
    rename_i t C
    cases t with
    | lst o us =>
      simp only [Ev.lk] at he
      split at he
      · rename_i hf
        simp only [Option.some.injEq] at he
        subst he
        obtain ⟨p, vs, D, e1, h1, r1, _, _⟩ := r.lst sm
        have e2 := r1.isF_nil hf
        subst e2
        exact ⟨p, vs, [], e1, h1, r1, fun _ m => by simp at m, fun _ => .nil⟩
      · cases he
    | _ => simp [Ev.lk] at he
  | rf h => cases he
theorem Vr.tk {v : V} {e : Ev} {B : List Addr} {ts : List T} (h : Vr K F H σ v e B) (he : e.tk = some ts) : ∃ p vs D, v = .ref p ∧ SqT K H p vs ∧ RpL K F H vs ts D ∧ (∀ a ∈ D, a ∈ B) ∧ (B.Nodup → D.Nodup) := by
  cases h with
  | own r =>
    rename_i t
    cases t <;> simp only [Ev.tk, Option.some.injEq, reduceCtorEq] at he
    subst he
    obtain ⟨p, vs, e1, h1, r1⟩ := r.tupl
    exact ⟨p, vs, _, e1, h1, r1, fun _ m => m, id⟩
  | vw r =>
    rename_i t C
    cases t with
    | tup us =>
      simp only [Ev.tk] at he
      split at he
      · rename_i hf
        simp only [Option.some.injEq] at he
        subst he
        obtain ⟨p, vs, e1, h1, r1⟩ := r.tupl
        have e2 := r1.isF_nil hf
        subst e2
        exact ⟨p, vs, [], e1, h1, r1, fun _ m => by simp at m, fun _ => .nil⟩
      · cases he
    | _ => simp [Ev.tk] at he
  | rf h => cases he
theorem RpL.append : ∀ {vs ws : List V} {ts us : List T} {B C : List Addr}, RpL K F H vs ts B → RpL K F H ws us C → RpL K F H (vs ++ ws) (ts ++ us) (B ++ C)
  | _, _, _, _, _, _, .nil, r => r
  | _, _, _, _, _, C, .cons (A := A1) (B := B1) h t, r => by
    rw [List.append_assoc]
    exact .cons h (RpL.append t r)
theorem RpL.get : ∀ {vs : List V} {ts : List T} {B : List Addr} {i : Nat} {t : T}, RpL K F H vs ts B → ts[i]? = some t → ∃ v C, vs[i]? = some v ∧ Rp K F H v t C ∧ (∀ a ∈ C, a ∈ B) ∧ (B.Nodup → C.Nodup)
  | _, _, _, _, _, .nil, e => by simp at e
  | _, _, _, 0, t, .cons (A := A1) (B := B1) h r, e => by
    simp only [List.getElem?_cons_zero, Option.some.injEq] at e
    subst e
    exact ⟨_, _, rfl, h, fun _ m => List.mem_append_left _ m, fun n => (List.nodup_append.mp n).1⟩
  | _, _, _, i + 1, t, .cons h r, e => by
    obtain ⟨v, C, e1, h1, s1, n1⟩ := RpL.get (i := i) (t := t) r (by simpa using e)
    exact ⟨v, C, by simpa using e1, h1, fun a m => List.mem_append_right _ (s1 a m), fun n => n1 (List.nodup_append.mp n).2.1⟩
theorem RpL.dropE : ∀ {vs : List V} {ts : List T} {B : List Addr} (n : Nat), RpL K F H vs ts B → ∃ C, RpL K F H (vs.drop n) (ts.drop n) C ∧ C.Sublist B
  | _, _, _, 0, r => ⟨_, r, .refl _⟩
  | _, _, _, _ + 1, .nil => ⟨_, .nil, .refl _⟩
  | _, _, _, n + 1, .cons h r => by
    obtain ⟨C, r1, s⟩ := RpL.dropE n r
    exact ⟨C, r1, s.trans (List.sublist_append_right _ _)⟩
theorem RpL.takeE : ∀ {vs : List V} {ts : List T} {B : List Addr} (n : Nat), RpL K F H vs ts B → ∃ C, RpL K F H (vs.take n) (ts.take n) C ∧ C.Sublist B
  | _, _, _, 0, _ => ⟨[], .nil, List.nil_sublist _⟩
  | _, _, _, _ + 1, .nil => ⟨_, .nil, .refl _⟩
  | _, _, _, n + 1, .cons (A := A1) h r => by
    obtain ⟨C, r1, s⟩ := RpL.takeE n r
    exact ⟨A1 ++ C, .cons h r1, List.Sublist.append (.refl _) s⟩
theorem RpL.eraseE : ∀ {vs : List V} {ts : List T} {B : List Addr} (n : Nat), RpL K F H vs ts B → ∃ C, RpL K F H (vs.eraseIdx n) (ts.eraseIdx n) C ∧ C.Sublist B
  | _, _, _, _, .nil => ⟨_, .nil, .refl _⟩
  | _, _, _, 0, .cons h r => ⟨_, r, List.sublist_append_right _ _⟩
  | _, _, _, n + 1, .cons (A := A1) h r => by
    obtain ⟨C, r1, s⟩ := RpL.eraseE n r
    exact ⟨A1 ++ C, .cons h r1, List.Sublist.append (.refl _) s⟩
theorem RpL.rev : ∀ {vs : List V} {ts : List T} {B : List Addr}, RpL K F H vs ts B → ∃ C, RpL K F H vs.reverse ts.reverse C ∧ C.Perm B
  | _, _, _, .nil => ⟨_, .nil, .refl _⟩
  | _, _, _, .cons (A := A1) h r => by
    obtain ⟨C, r1, p⟩ := RpL.rev r
    rw [List.reverse_cons, List.reverse_cons]
    refine ⟨C ++ (A1 ++ []), r1.append (.cons h .nil), ?_⟩
    rw [List.append_nil]
    exact List.perm_append_comm.trans (List.Perm.append_left _ p)
theorem RpL.rep {vs : List V} {ts : List T} (r : RpL K F H vs ts []) : ∀ n : Nat, RpL K F H (List.replicate n vs).flatten (List.replicate n ts).flatten []
  | 0 => .nil
  | n + 1 => by
    rw [List.replicate_succ, List.replicate_succ, List.flatten_cons, List.flatten_cons]
    exact RpL.append (B := []) (C := []) r (RpL.rep r n)
theorem RpL.isF_zero {vs : List V} {ts : List T} {B : List Addr} (r : RpL K F H vs ts B) (h : isFL ts = true) : RpL K F H vs ts [] := by
  have e := r.isF_nil h
  subst e
  exact r
theorem RpL.ints : ∀ {ts : List T} {vs : List V} {B : List Addr} {ns : List Int}, RpL K F H vs ts B → intsOf ts = some ns → vs = ns.map V.int
  | [], _, _, _, .nil, e => by simp only [intsOf, Option.some.injEq] at e; subst e; rfl
  | t :: ts, _, _, _, .cons h r, e => by
    cases t <;> simp only [intsOf, reduceCtorEq] at e
    cases q : intsOf ts with
    | none => rw [q] at e; cases e
    | some ms =>
      rw [q] at e
      simp only [Option.map_some, Option.some.injEq] at e
      subst e
      cases h
      rw [RpL.ints r q]; rfl
theorem RpL.bls : ∀ {ts : List T} {vs : List V} {B : List Addr} {ns : List Bool}, RpL K F H vs ts B → blsOf ts = some ns → vs = ns.map V.bl
  | [], _, _, _, .nil, e => by simp only [blsOf, Option.some.injEq] at e; subst e; rfl
  | t :: ts, _, _, _, .cons h r, e => by
    cases t <;> simp only [blsOf, reduceCtorEq] at e
    cases q : blsOf ts with
    | none => rw [q] at e; cases e
    | some ms =>
      rw [q] at e
      simp only [Option.map_some, Option.some.injEq] at e
      subst e
      cases h
      rw [RpL.bls r q]; rfl
theorem RpL.strs : ∀ {ts : List T} {vs : List V} {B : List Addr} {ns : List Str}, RpL K F H vs ts B → strsOf ts = some ns → vs = ns.map V.str
  | [], _, _, _, .nil, e => by simp only [strsOf, Option.some.injEq] at e; subst e; rfl
  | t :: ts, _, _, _, .cons h r, e => by
    cases t <;> simp only [strsOf, reduceCtorEq] at e
    cases q : strsOf ts with
    | none => rw [q] at e; cases e
    | some ms =>
      rw [q] at e
      simp only [Option.map_some, Option.some.injEq] at e
      subst e
      cases h
      rw [RpL.strs r q]; rfl
mutual
/-- as data -/
theorem Rp.dp (sm : Same F H) : ∀ {t : T} {v : V} {B : List Addr} {d : PyData}, Rp K F H v t B → t.py = some d → Dp K H v d
  | .non, _, _, _, .non, e => by simp only [T.py, Option.some.injEq] at e; subst e; exact .non
  | .bl _, _, _, _, .bl _, e => by simp only [T.py, Option.some.injEq] at e; subst e; exact .bl _
  | .int _, _, _, _, .int _, e => by simp only [T.py, Option.some.injEq] at e; subst e; exact .int _
  | .str _, _, _, _, .str _, e => by simp only [T.py, Option.some.injEq] at e; subst e; exact .str _
  | .tup ts, _, _, _, .tup h r, e => by
    cases q : pyL ts with
    | none => simp [T.py, q] at e
    | some ds =>
      simp only [T.py, q, Option.map_some, Option.some.injEq] at e
      subst e
      exact .tup h (RpL.dp sm r q)
  | .lst true ts, _, _, _, .lstO h r, e => by
    cases q : pyL ts with
    | none => simp [T.py, q] at e
    | some ds =>
      simp only [T.py, q, Option.map_some, Option.some.injEq] at e
      subst e
      exact .lst (.inl (.inl h)) (RpL.dp sm r q)
  | .lst false ts, _, _, _, .lstF h r, e => by
    cases q : pyL ts with
    | none => simp [T.py, q] at e
    | some ds =>
      simp only [T.py, q, Option.map_some, Option.some.injEq] at e
      subst e
      exact .lst (sm.seq h) (RpL.dp sm r q)
  | .dK _ _ _, _, _, _, _, e => by simp [T.py] at e
  | .dT _ _ _, _, _, _, _, e => by simp [T.py] at e
  | .opq _, _, _, _, _, e => by simp [T.py] at e
theorem RpL.dp (sm : Same F H) : ∀ {ts : List T} {vs : List V} {B : List Addr} {ds : List PyData}, RpL K F H vs ts B → pyL ts = some ds → DpAll K H vs ds
  | [], _, _, _, .nil, e => by simp only [pyL, Option.some.injEq] at e; subst e; exact .nil
  | t :: ts, _, _, _, .cons h r, e => by
    cases q1 : T.py t with
    | none => simp [pyL, q1] at e
    | some d =>
      cases q2 : pyL ts with
      | none => simp [pyL, q1, q2] at e
      | some ds =>
        simp only [pyL, q1, q2, Option.some.injEq] at e
        subst e
        exact .cons (Rp.dp sm h q1) (RpL.dp sm r q2)
end
end

section
variable {X : Cx}
/-! ### the rules that the library has for what may be written, for what is read too -/
def rCatR (K : PySem.W.Frag) : R2 := fun x y H Q => ∃ l b xs zs, x = .ref l ∧ y = .ref b ∧ SqL K H l xs ∧ SqL K H b zs ∧ xs.length + zs.length ≤ sizeLine ∧ ∀ p, H p = none → Q (.ref p) (upd H p (.lst (xs ++ zs)))
theorem op_catR : OpR X (binaryOp .Add) (rCatR X.K) := by
  rintro pins s σ H _ _ _ _ Q I rx ry ⟨l, b, xs, zs, rfl, rfl, h1, h2, hz, q⟩
  cases rx; cases ry
  obtain ⟨is1, r1, ⟨⟨c1, dd1, da1, sl1⟩, n1, g1, k1, k2, k3⟩, z1⟩ := I.list h1
  obtain ⟨is2, r2, ⟨⟨c2, dd2, da2, sl2⟩, n2, g2, k4, k5, k6⟩, z2⟩ := I.list h2
  simp only at k1 k2 k3 k4 k5 k6
  subst k1 k2 k3 k4 k5 k6
  have sz : is1.toArray.size + is2.toArray.size ≤ sizeLine := by simpa [← r1.length, ← r2.length] using hz
  have nl : (xs ++ zs).length ≤ sizeLine := by rw [List.length_append]; exact hz
  have new := I.lnew (t' := s.toks) (Vals.append r1 r2) nl
  refine concat_meets ⟨_, g1, rfl⟩ ⟨_, g2, rfl⟩ noFill_list_add seq_list_add PySem.F.slot_list_add PySem.F.entry_list_add (PySem.F.args_list_add_2 _ _) (PyProof.Rows.list_addW l b is1.toArray is2.toArray n1 n2 _ _ sl1 sl2 sz) ⟨g1, g2, ?_⟩
  rw [show is1.toArray ++ is2.toArray = (is1 ++ is2).toArray from by simp]
  exact ⟨V.ref s.heap.objs.size, _, new, rfl, q s.heap.objs.size I.fresh⟩
theorem op_powW : OpR X (binaryOp .Pow) (rI (fun i j => 0 ≤ j ∧ (i.natAbs.log2 + 1) * j.toNat ≤ 2 ^ 27) fun i j => .int (i ^ j.toNat)) := opI fun i j _ _ _ _ _ hc q => by
  refine PyProof.Rows.pow_int hc.1 ?_ q
  have b : Builtin.Int.intBits i ≤ i.natAbs.log2 + 1 := by
    unfold Builtin.Int.intBits
    split <;> omega
  have h1 : Builtin.Int.intBits i * j.toNat ≤ 2 ^ 27 := Nat.le_trans (Nat.mul_le_mul_right _ b) hc.2
  have h2 : ((j.toNat : Nat) : Int) = j := Int.toNat_of_nonneg hc.1
  rw [← h2]
  exact_mod_cast h1
end

def Bop.py : Bop → Operator
  | .add => .Add | .sub => .Sub | .mul => .Mult | .fdiv => .FloorDiv | .mod => .Mod | .pow => .Pow
def rBin (K : PySem.W.Frag) : Bop → R2
  | .add => fun x y H Q => (∃ i j, x = .int i ∧ y = .int j ∧ Q (.int (i + j)) H) ∨ (∃ i j, x = .str i ∧ y = .str j ∧ i.length + j.length ≤ sizeLine ∧ Q (.str (i ++ j)) H) ∨ rCatR K x y H Q ∨ rCatA K x y H Q
  | .sub => rI0 fun i j => .int (i - j)
  | .mul => fun x y H Q => rI CMulW (fun i j => .int (i * j)) x y H Q ∨ rRep x y H Q
  | .fdiv => rI CDivW fun i j => .int (i / j)
  | .mod => rI (fun _ j => 0 < j) fun i j => .int (i % j)
  | .pow => rI (fun i j => 0 ≤ j ∧ (i.natAbs.log2 + 1) * j.toNat ≤ 2 ^ 27) fun i j => .int (i ^ j.toNat)
theorem rBin_ok {X : Cx} : ∀ op : Bop, OpR X (binaryOp op.py) (rBin X.K op)
  | .add => op_add.or (op_add_str.or (op_catR.or op_catA))
  | .sub => op_sub
  | .mul => op_mulW.or op_rep
  | .fdiv => op_fdivW
  | .mod => op_mod
  | .pow => op_powW

section
variable {K : PySem.W.Frag} {mg : MG} {W : WX} {q : Bool} {σ : L2.St} {F H : Hp} {A2 B1 B2 : List Addr} {G : Sl} {Q : VK}
theorem sub_right {B1 B2 A2 : List Addr} (g : Good F H (B1 ++ (B2 ++ A2))) : Sub A2 (B1 ++ (B2 ++ A2)) := ⟨fun a m => List.mem_append_right _ (List.mem_append_right _ m), g.right.right.nd⟩
theorem sub_two {C1 C2 : List Addr} (g : Good F H (B1 ++ (B2 ++ A2))) (h1 : ∀ a ∈ C1, a ∈ B1) (n1 : B1.Nodup → C1.Nodup) (h2 : ∀ a ∈ C2, a ∈ B2) (n2 : B2.Nodup → C2.Nodup) : Sub ((C1 ++ C2) ++ A2) (B1 ++ (B2 ++ A2)) := by
  obtain ⟨m1, m2, m3⟩ := List.nodup_append.mp g.nd
  obtain ⟨k1, k2, k3⟩ := List.nodup_append.mp m2
  refine ⟨fun a m => ?_, ?_⟩
  · rcases List.mem_append.mp m with m | m
    · rcases List.mem_append.mp m with m | m
      · exact List.mem_append_left _ (h1 a m)
      · exact List.mem_append_right _ (List.mem_append_left _ (h2 a m))
    · exact List.mem_append_right _ (List.mem_append_right _ m)
  · refine List.nodup_append.mpr ⟨List.nodup_append.mpr ⟨n1 m1, n2 k1, fun a ha b hb e => ?_⟩, k2, fun a ha b hb e => ?_⟩
    · exact m3 a (h1 a ha) b (List.mem_append_left _ (h2 b hb)) e
    · rcases List.mem_append.mp ha with ha | ha
      · exact m3 a (h1 a ha) b (List.mem_append_right _ hb) e
      · exact k3 a (h2 a ha) b hb e
/-- a number, a text, a truth, None -/
theorem PoE.sc {t : T} {v : V} (h : PoE K mg W q σ F H (B1 ++ (B2 ++ A2)) (.own t) G Q) (g : Good F H (B1 ++ (B2 ++ A2))) (rs : RS K F H σ G A2) (r : Rp K F H v t []) : Q v H :=
  h.here g rs r (sub_right g)
theorem binop_ok {op : Bop} {e1 e2 res : Ev} {x y : V} (h : PoE K mg W q σ F H (B1 ++ (B2 ++ A2)) res G Q) (g : Good F H (B1 ++ (B2 ++ A2))) (rs : RS K F H σ G A2) (v1 : Vr K F H σ x e1 B1) (v2 : Vr K F H σ y e2 B2) (hb : binop op e1 e2 = some res) : rBin K op x y H Q := by
  unfold binop at hb
  split at hb
  · rename_i i j q1 q2
    cases hb
    exact .inl ⟨i, j, v1.int q1, v2.int q2, h.sc g rs (.int _)⟩
  · rename_i i j q1 q2
    split at hb
    · rename_i hz
      cases hb
      exact .inr (.inl ⟨i, j, v1.str q1, v2.str q2, hz, h.sc g rs (.str _)⟩)
    · cases hb
  · split at hb
    · rename_i ts us l1 l2
      split at hb
      · rename_i hz
        cases hb
        obtain ⟨p1, vs, D1, e1, h1, r1, s1, n1⟩ := v1.lk l1 g.sub
        obtain ⟨p2, ws, D2, e2, h2, r2, s2, n2⟩ := v2.lk l2 g.sub
        exact .inr (.inr (.inl ⟨p1, p2, vs, ws, e1, e2, h1, h2, by rw [r1.len, r2.len]; exact hz, fun p hp => h.newL g rs (r1.append r2) (sub_two g s1 n1 s2 n2) hp⟩))
      · cases hb
    · cases hb
  · split at hb
    · rename_i ts us l1 l2
      split at hb
      · rename_i hz
        cases hb
        obtain ⟨p1, vs, D1, e1, h1, r1, s1, n1⟩ := v1.tk l1
        obtain ⟨p2, ws, D2, e2, h2, r2, s2, n2⟩ := v2.tk l2
        refine .inr (.inr (.inr ⟨p1, p2, vs, ws, e1, e2, h1, h2, by rw [r1.len, r2.len]; exact hz, fun hx => ?_, fun hx hy => ?_, fun _ _ p hp => h.newT g rs (r1.append r2) (sub_two g s1 n1 s2 n2) hp⟩))
        · subst hx
          cases r1
          exact h.here g rs (.tup h2 r2) (sub_two (C1 := []) g (by simp) (fun _ => .nil) s2 n2)
        · subst hy
          cases r2
          rw [List.append_nil] at h
          exact h.here g rs (.tup h1 r1) (by simpa using sub_two (C2 := []) g s1 n1 (by simp) (fun _ => .nil))
      · cases hb
    · cases hb
  · rename_i i j q1 q2
    cases hb
    exact ⟨i, j, v1.int q1, v2.int q2, h.sc g rs (.int _)⟩
  · rename_i i j q1 q2
    split at hb
    · rename_i hz
      cases hb
      exact .inl ⟨i, j, v1.int q1, v2.int q2, by simpa [logsum, CMulW] using hz, h.sc g rs (.int _)⟩
    · cases hb
  · rename_i ts j q1 q2
    split at hb
    · rename_i t
      simp only [Ev.tr, Option.some.injEq] at q1
      subst q1
      unfold repop at hb
      split at hb
      · rename_i hz
        cases hb
        simp only [Bool.and_eq_true, decide_eq_true_eq] at hz
        obtain ⟨⟨⟨z1, z2⟩, z3⟩, z4⟩ := hz
        cases v1 with
        | own r1 =>
          cases r1 with
          | lstO hp r =>
            exact .inr ⟨_, j, _, rfl, v2.int q2, hp, z2, z3, by rw [r.len]; exact z4, fun p hp => h.newL g rs ((r.isF_zero z1).rep j.toNat) (sub_two (C1 := []) (C2 := []) g (by simp) (fun _ => .nil) (by simp) (fun _ => .nil)) hp⟩
      · cases hb
    · cases hb
  · rename_i i j q1 q2
    split at hb
    · rename_i hz
      cases hb
      simp only [Bool.and_eq_true, decide_eq_true_eq] at hz
      exact ⟨i, j, v1.int q1, v2.int q2, hz, h.sc g rs (.int _)⟩
    · cases hb
  · rename_i i j q1 q2
    split at hb
    · rename_i hz
      cases hb
      exact ⟨i, j, v1.int q1, v2.int q2, hz, h.sc g rs (.int _)⟩
    · cases hb
  · rename_i i j q1 q2
    split at hb
    · rename_i hz
      cases hb
      simp only [Bool.and_eq_true, decide_eq_true_eq] at hz
      exact ⟨i, j, v1.int q1, v2.int q2, hz, h.sc g rs (.int _)⟩
    · cases hb
  · cases hb
end
end QX

set_option Elab.async false
set_option linter.all false
set_option maxRecDepth 100000
/-! the operations, further on: comparisons, subscripts, built-in functions -/
namespace QX
open PySem PySem.Spec L2

/-! ### comparisons -/
def Cop.py : Cop → CmpOp
  | .lt => .Lt | .le => .LtE | .gt => .Gt | .ge => .GtE | .eq => .Eq | .ne => .NotEq | .inn => .In | .nin => .NotIn
def rCmp (K : PySem.W.Frag) : Cop → R2
  | .lt => rI0 fun i j => .bl (decide (i < j))
  | .le => rI0 fun i j => .bl (decide (i ≤ j))
  | .gt => rI0 fun i j => .bl (decide (j < i))
  | .ge => rI0 fun i j => .bl (decide (j ≤ i))
  | .eq => rEqD K
  | .ne => rNeD K
  | .inn => fun x y H Q => (∃ i j, x = .str i ∧ y = .str j ∧ Q (.bl (!(Builtin.Str.occurrences j i 0 j.length 1).isEmpty)) H) ∨ rIn K false x y H Q ∨ rInD K x y H Q
  | .nin => fun x y H Q => (∃ i j, x = .str i ∧ y = .str j ∧ Q (.bl (!(!(Builtin.Str.occurrences j i 0 j.length 1).isEmpty))) H) ∨ rIn K true x y H Q ∨ rNotInD K x y H Q
theorem rCmp_ok {X : Cx} (hu : X.A.units + 65 < cLine) : ∀ op : Cop, OpR X (compareOp op.py) (rCmp X.K op)
  | .lt => op_lt
  | .le => op_le
  | .gt => op_gt
  | .ge => op_ge
  | .eq => op_eqD (by omega)
  | .ne => op_neD (by omega)
  | .inn => op_in_str.or (op_in_seq.or (op_inD hu))
  | .nin => op_notIn_str.or (op_notIn_seq.or (op_notInD hu))

section
variable {K : PySem.W.Frag} {mg : MG} {W : WX} {q : Bool} {σ : L2.St} {F H : Hp} {A A2 B1 B2 : List Addr} {G : Sl} {Q : VK}

theorem Rp.flat {v : V} {t : T} {B : List Addr} (h : Rp K F H v t B) (s : scalT t = true) : flatV v = true := by
  cases h <;> first | rfl | (simp [scalT] at s)
theorem Rp.eqS {v w : V} {t u : T} {B C : List Addr} (h : Rp K F H v t B) (k : Rp K F H w u C) (s1 : scalT t = true) (s2 : scalT u = true) : eqV v w = eqS t u := by
  cases h <;> first | (simp [scalT] at s1; done) | skip
  all_goals (cases k <;> first | (simp [scalT] at s2; done) | rfl)
theorem RpL.flat : ∀ {ts : List T} {vs : List V} {B : List Addr}, RpL K F H vs ts B → ts.all scalT = true → vs.all flatV = true
  | [], _, _, .nil, _ => rfl
  | t :: ts, _, _, .cons h r, e => by
    simp only [List.all_cons, Bool.and_eq_true] at e ⊢
    exact ⟨h.flat e.1, RpL.flat r e.2⟩
theorem RpL.inS {w : V} {u : T} {C : List Addr} (k : Rp K F H w u C) (s : scalT u = true) : ∀ {ts : List T} {vs : List V} {B : List Addr}, RpL K F H vs ts B → ts.all scalT = true → inV w vs = ts.any fun y => eqS y u
  | [], _, _, .nil, _ => rfl
  | t :: ts, _, _, .cons h r, e => by
    simp only [List.all_cons, Bool.and_eq_true] at e
    have ih := RpL.inS k s r e.2
    unfold inV at ih ⊢
    rw [List.any_cons, List.any_cons, ih, h.eqS k e.1 s]
theorem Vr.look' {v : V} {e : Ev} {B : List Addr} {t : T} (h : Vr K F H σ v e B) (he : e.tr = some t) : ∃ C, Rp K F H v t C := h.look he

theorem inOp_ok {x y : V} {a b : T} {B C : List Addr} {k : Bool} (sm : Same F H) (h1 : Rp K F H x a B) (h2 : Rp K F H y b C) (hb : inOp a b = some k) :
    (∀ Q : VK, Q (.bl k) H → rCmp K .inn x y H Q) ∧ ∀ Q : VK, Q (.bl (!k)) H → rCmp K .nin x y H Q := by
  unfold inOp at hb
  split at hb
  · split at hb
    · cases hb
      cases h1; cases h2
      exact ⟨fun Q h => .inl ⟨_, _, rfl, rfl, h⟩, fun Q h => .inl ⟨_, _, rfl, rfl, h⟩⟩
    · cases hb
  · obtain ⟨p, vs, D, e1, hr, r, _, _⟩ := h2.lst sm
    subst e1
    unfold inT at hb
    split at hb
    · rename_i hs
      cases hb
      simp only [Bool.and_eq_true] at hs
      have e := RpL.inS h1 hs.1 r hs.2
      refine ⟨fun Q h => .inr (.inl ⟨p, vs, rfl, .inl hr, h1.flat hs.1, r.flat hs.2, ?_⟩), fun Q h => .inr (.inl ⟨p, vs, rfl, .inl hr, h1.flat hs.1, r.flat hs.2, ?_⟩)⟩
      · rw [if_neg Bool.false_ne_true, e]; exact h
      · rw [if_pos rfl, e]; exact h
    · split at hb
      · rename_i d ds q1 q2
        split at hb
        · rename_i hs
          cases hb
          simp only [Bool.and_eq_true] at hs
          have dp1 := h1.dp sm q1
          have dp2 : Dp K H (.ref p) (.list ds) := .lst hr (r.dp sm q2)
          exact ⟨fun Q h => .inr (.inr ⟨d, ds, dp1, dp2, hs.1, hs.2, h⟩), fun Q h => .inr (.inr ⟨d, ds, dp1, dp2, hs.1, hs.2, h⟩)⟩
        · cases hb
      · cases hb
  · obtain ⟨p, vs, e1, hr, r⟩ := h2.tupl
    subst e1
    split at hb
    · rename_i hs
      cases hb
      simp only [Bool.and_eq_true] at hs
      have e := RpL.inS h1 hs.1 r hs.2
      refine ⟨fun Q h => .inr (.inl ⟨p, vs, rfl, .inr hr, h1.flat hs.1, r.flat hs.2, ?_⟩), fun Q h => .inr (.inl ⟨p, vs, rfl, .inr hr, h1.flat hs.1, r.flat hs.2, ?_⟩)⟩
      · rw [if_neg Bool.false_ne_true, e]; exact h
      · rw [if_pos rfl, e]; exact h
    · cases hb
  · cases hb

theorem cmpop_ok {op : Cop} {e1 e2 : Ev} {x y : V} {k : Bool} (sm : Same F H) (v1 : Vr K F H σ x e1 B1) (v2 : Vr K F H σ y e2 B2) (hb : cmpop op e1 e2 = some k) (h : Q (.bl k) H) : rCmp K op x y H Q := by
  unfold cmpop at hb
  split at hb
  · rename_i q1 q2
    cases hb
    exact ⟨_, _, v1.int q1, v2.int q2, h⟩
  · rename_i q1 q2
    cases hb
    exact ⟨_, _, v1.int q1, v2.int q2, h⟩
  · rename_i q1 q2
    cases hb
    exact ⟨_, _, v1.int q1, v2.int q2, h⟩
  · rename_i q1 q2
    cases hb
    exact ⟨_, _, v1.int q1, v2.int q2, h⟩
  · rename_i t u q1 q2
    unfold eqTT at hb
    split at hb
    · rename_i d e d1 d2
      split at hb
      · rename_i hs
        cases hb
        simp only [Bool.and_eq_true] at hs
        obtain ⟨_, r1⟩ := v1.look q1
        obtain ⟨_, r2⟩ := v2.look q2
        exact ⟨d, e, r1.dp sm d1, r2.dp sm d2, hs.1, hs.2, h⟩
      · cases hb
    · cases hb
  · rename_i t u q1 q2
    unfold eqTT at hb
    split at hb
    · rename_i d e d1 d2
      split at hb
      · rename_i hs
        cases hb
        simp only [Bool.and_eq_true] at hs
        obtain ⟨_, r1⟩ := v1.look q1
        obtain ⟨_, r2⟩ := v2.look q2
        exact ⟨d, e, r1.dp sm d1, r2.dp sm d2, hs.1, hs.2, h⟩
      · cases hb
    · cases hb
  · rename_i t u q1 q2
    obtain ⟨_, r1⟩ := v1.look q1
    obtain ⟨_, r2⟩ := v2.look q2
    exact (inOp_ok sm r1 r2 hb).1 Q h
  · rename_i t u q1 q2
    obtain ⟨_, r1⟩ := v1.look q1
    obtain ⟨_, r2⟩ := v2.look q2
    cases e : inOp t u with
    | none => rw [e] at hb; cases hb
    | some j =>
      rw [e] at hb
      cases hb
      exact (inOp_ok sm r1 r2 e).2 Q h
  · cases hb

/-! ### truth -/
theorem Rp.truth {v : V} {t : T} {B : List Addr} {k : Bool} (sm : Same F H) (h : Rp K F H v t B) (e : t.truth = some k) : TruV K v H k := by
  have hl : ∀ {vs : List V} {ts : List T} {C : List Addr}, RpL K F H vs ts C → ts.isEmpty = vs.isEmpty := fun r => by cases r <;> rfl
  cases h with
  | non => cases e; rfl
  | bl b => cases e; rfl
  | int i => cases e; rfl
  | str x =>
    simp only [T.truth] at e
    split at e
    · rename_i hz
      cases e
      refine ⟨hz, ?_⟩
      cases q : x.length with
      | zero => rfl
      | succ n =>
        simp only [bne]
        rw [Bool.not_inj_iff, Bool.eq_iff_iff]
        simp only [beq_iff_eq]
        omega
    · cases e
  | opq v => cases e
  | tup h r => cases e; exact .inr (.inl ⟨_, h, by rw [hl r]⟩)
  | lstO h r => cases e; exact .inl ⟨_, SqL.of h, by rw [hl r]⟩
  | lstF h r => cases e; exact .inl ⟨_, sm.seq h, by rw [hl r]⟩
  | dKO hk h r =>
    cases e
    refine .inr (.inr ⟨_, h, ?_⟩)
    rename_i ks vs ts A
    cases ks <;> cases vs <;> first | rfl | (simp at hk)
  | dKF hk h r =>
    cases e
    refine .inr (.inr ⟨_, sm _ _ h, ?_⟩)
    rename_i ks vs ts
    cases ks <;> cases vs <;> first | rfl | (simp at hk)
  | dTO hk h r => cases e
  | dTF hk h r => cases e

/-! ### subscripts -/
theorem atI_ix {ts : List T} {j : Int} {t : T} (h : atI ts j = some t) : ∃ k, ixN ts.length j = some k ∧ ts[k]? = some t := by
  unfold atI at h
  cases q : ixN ts.length j with
  | none => rw [q] at h; cases h
  | some k => rw [q] at h; exact ⟨k, rfl, h⟩
theorem RpL.atI {vs : List V} {ts : List T} {B : List Addr} {j : Int} {t : T} (r : RpL K F H vs ts B) (h : L2.atI ts j = some t) : ∃ v C, L2.atI vs j = some v ∧ Rp K F H v t C ∧ (∀ a ∈ C, a ∈ B) ∧ (B.Nodup → C.Nodup) := by
  obtain ⟨k, e1, e2⟩ := atI_ix h
  obtain ⟨v, C, e3, h3, s3, n3⟩ := r.get e2
  refine ⟨v, C, ?_, h3, s3, n3⟩
  unfold L2.atI
  rw [r.len, e1]
  exact e3
theorem ixop_ok {e1 e2 res : Ev} {x y : V} (h : PoE K mg W q σ F H (B1 ++ (B2 ++ A2)) res G Q) (g : Good F H (B1 ++ (B2 ++ A2))) (rs : RS K F H σ G A2) (v1 : Vr K F H σ x e1 B1) (v2 : Vr K F H σ y e2 B2) (hb : ixop e1 e2 = some res) : rIx K x y H Q := by
  unfold ixop at hb
  split at hb
  · rename_i o ts j q2
    cases e : atI ts j with
    | none => rw [e] at hb; cases hb
    | some t =>
      rw [e] at hb
      cases hb
      cases v1 with
      | own r1 =>
        obtain ⟨p, vs, D, e1, hr, r, s1, n1⟩ := r1.lst g.sub
        obtain ⟨v, C, e3, h3, s3, n3⟩ := r.atI e
        exact .inl ⟨p, vs, j, v, e1, v2.int q2, hr, e3, h.here g rs h3 (by simpa using sub_two (C2 := []) g (fun a m => s1 a (s3 a m)) (fun n => n3 (n1 n)) (by simp) (fun _ => .nil))⟩
  · rename_i ts j q2
    cases e : atI ts j with
    | none => rw [e] at hb; cases hb
    | some t =>
      rw [e] at hb
      cases hb
      cases v1 with
      | own r1 =>
        obtain ⟨p, vs, e1, hr, r⟩ := r1.tupl
        obtain ⟨v, C, e3, h3, s3, n3⟩ := r.atI e
        exact .inr (.inl ⟨p, vs, j, v, e1, v2.int q2, hr, e3, h.here g rs h3 (by simpa using sub_two (C2 := []) g s3 n3 (by simp) (fun _ => .nil))⟩)
  · rename_i o ts j q2
    cases e : atI ts j with
    | none => rw [e] at hb; cases hb
    | some t =>
      rw [e] at hb
      cases v1 with
      | vw r1 =>
        obtain ⟨p, vs, D, e1, hr, r, s1, n1⟩ := r1.lst g.sub
        obtain ⟨v, C, e3, h3, s3, n3⟩ := r.atI e
        refine .inl ⟨p, vs, j, v, e1, v2.int q2, hr, e3, ?_⟩
        simp only [Option.map_some, Option.some.injEq] at hb
        split at hb
        · rename_i hf
          subst hb
          have z := h3.isF_nil hf
          subst z
          exact h.sc g rs h3
        · subst hb
          exact h.look g rs h3 (sub_right g)
  · rename_i ts j q2
    cases e : atI ts j with
    | none => rw [e] at hb; cases hb
    | some t =>
      rw [e] at hb
      cases v1 with
      | vw r1 =>
        obtain ⟨p, vs, e1, hr, r⟩ := r1.tupl
        obtain ⟨v, C, e3, h3, s3, n3⟩ := r.atI e
        refine .inr (.inl ⟨p, vs, j, v, e1, v2.int q2, hr, e3, ?_⟩)
        simp only [Option.map_some, Option.some.injEq] at hb
        split at hb
        · rename_i hf
          subst hb
          have z := h3.isF_nil hf
          subst z
          exact h.sc g rs h3
        · subst hb
          exact h.look g rs h3 (sub_right g)
  · rename_i j _ _ _ _ q2
    split at hb
    · rename_i z q1
      split at hb
      · rename_i hz
        cases e : atI z.cps.toList j with
        | none => rw [e] at hb; cases hb
        | some c =>
          rw [e] at hb
          cases hb
          exact .inr (.inr ⟨z, j, c, v1.str q1, v2.int q2, hz, e, h.sc g rs (.str _)⟩)
      · cases hb
    · cases hb
  · cases hb
end
end QX

set_option Elab.async false
set_option linter.all false
set_option maxRecDepth 100000
/-! the operations, further on: slices, built-in functions, methods -/
namespace QX
open PySem PySem.Spec L2

section
variable {K : PySem.W.Frag} {mg : MG} {W : WX} {q : Bool} {σ : L2.St} {F H : Hp} {A A2 B B1 B2 : List Addr} {G : Sl} {Q : VK}

theorem Sub.of_sl {C B1 R : List Addr} (nd : (B1 ++ R).Nodup) (s : ∀ a ∈ C, a ∈ B1) (n : B1.Nodup → C.Nodup) : (C ++ R).Nodup := by
  obtain ⟨m1, m2, m3⟩ := List.nodup_append.mp nd
  exact List.nodup_append.mpr ⟨n m1, m2, fun a ha b hb e => m3 a (s a ha) b hb e⟩
theorem sub_one {C : List Addr} (g : Good F H (B1 ++ (B2 ++ A2))) (h1 : ∀ a ∈ C, a ∈ B1) (n1 : B1.Nodup → C.Nodup) : Sub (C ++ A2) (B1 ++ (B2 ++ A2)) := by
  simpa using sub_two (C2 := []) g h1 n1 (by simp) (fun _ => .nil)
theorem sub_one' {C : List Addr} (g : Good F H (B ++ A2)) (h1 : ∀ a ∈ C, a ∈ B) (n1 : B.Nodup → C.Nodup) : Sub (C ++ A2) (B ++ A2) :=
  ⟨fun a m => (List.mem_append.mp m).elim (fun m => List.mem_append_left _ (h1 a m)) fun m => List.mem_append_right _ m, Sub.of_sl g.nd h1 n1⟩
theorem PoE.sc' {t : T} {v : V} (h : PoE K mg W q σ F H (B ++ A2) (.own t) G Q) (g : Good F H (B ++ A2)) (rs : RS K F H σ G A2) (r : Rp K F H v t []) : Q v H :=
  h.here g rs r (by simpa using sub_one' (C := []) g (by simp) (fun _ => .nil))

/-! ### slices -/
def rSl (K : PySem.W.Frag) : V → Option Int → Option Int → Hp → VK → Prop := fun x lo hi H Q => rSlL K x lo hi H Q ∨ rSlA K x lo hi H Q ∨ rSlS x lo hi H Q
theorem rSl_ok {X : Cx} : SlR X (rSl X.K) := sl_list.or (sl_tupA.or sl_str)
theorem cut_r {vs : List V} {ts : List T} {D : List Addr} (r : RpL K F H vs ts D) (lo hi : Option Int) : ∃ C, RpL K F H (cutV vs lo hi) (cutT ts lo hi) C ∧ C.Sublist D := by
  unfold cutV cutT
  obtain ⟨C1, r1, s1⟩ := r.dropE (HT.sIx vs.length 0 lo)
  obtain ⟨C2, r2, s2⟩ := r1.takeE (HT.sIx vs.length vs.length hi - HT.sIx vs.length 0 lo)
  rw [← r.len]
  exact ⟨C2, r2, s2.trans s1⟩
theorem slop_ok {e res : Ev} {x : V} {lo hi : Option Int} (h : PoE K mg W q σ F H (B1 ++ (B2 ++ A2)) res G Q) (g : Good F H (B1 ++ (B2 ++ A2))) (rs : RS K F H σ G A2) (v1 : Vr K F H σ x e B1) (hb : slop e lo hi = some res) : rSl K x lo hi H Q := by
  unfold slop at hb
  split at hb
  · cases el : e.lk with
    | none => rw [el] at hb; cases hb
    | some ts =>
      rw [el] at hb
      cases hb
      obtain ⟨p, vs, D, e1, hr, r, s1, n1⟩ := v1.lk el g.sub
      obtain ⟨C, r2, s2⟩ := cut_r r lo hi
      exact .inl ⟨p, vs, e1, hr, fun p2 hp => h.newL g rs r2 (sub_one g (fun a m => s1 a (s2.subset m)) fun n => (n1 n).sublist s2) hp⟩
  · cases el : e.tk with
    | none => rw [el] at hb; cases hb
    | some ts =>
      rw [el] at hb
      cases hb
      obtain ⟨p, vs, D, e1, hr, r, s1, n1⟩ := v1.tk el
      obtain ⟨C, r2, s2⟩ := cut_r r lo hi
      refine .inr (.inl ⟨p, vs, e1, hr, fun hw => ?_, fun _ p2 hp => h.newT g rs r2 (sub_one g (fun a m => s1 a (s2.subset m)) fun n => (n1 n).sublist s2) hp⟩)
      have ew : cutT ts lo hi = ts := by
        unfold cutT
        rw [← r.len, hw.1, hw.2, List.drop_zero, Nat.sub_zero, r.len, List.take_length]
      have h2 : PoE K mg W q σ F H (B1 ++ (B2 ++ A2)) (.own (.tup ts)) G Q := by
        rw [← ew]; exact h
      exact h2.here g rs (.tup hr r) (sub_one g s1 n1)
  · rename_i z q1
    split at hb
    · rename_i hz
      cases hb
      exact .inr (.inr ⟨z, v1.str q1, hz, h.sc g rs (.str _)⟩)
    · cases hb
  · cases hb
theorem revop_ok {e res : Ev} {x : V} (h : PoE K mg W q σ F H (B ++ A2) res G Q) (g : Good F H (B ++ A2)) (rs : RS K F H σ G A2) (v1 : Vr K F H σ x e B) (hb : revop e = some res) :
    ∃ a xs, x = .ref a ∧ SqL K H a xs ∧ ∀ p, H p = none → Q (.ref p) (upd H p (.lst xs.reverse)) := by
  unfold revop at hb
  split at hb
  · cases el : e.lk with
    | none => rw [el] at hb; cases hb
    | some ts =>
      rw [el] at hb
      cases hb
      obtain ⟨p, vs, D, e1, hr, r, s1, n1⟩ := v1.lk el g.sub
      obtain ⟨C, r2, pm⟩ := r.rev
      exact ⟨p, vs, e1, hr, fun p2 hp => h.newL g rs r2 (sub_one' g (fun a m => s1 a (pm.mem_iff.mp m)) fun n => pm.nodup_iff.mpr (n1 n)) hp⟩
  · cases hb

/-! ### built-in functions -/
theorem VrL.one {vs : List V} {e : Ev} (h : VrL K F H σ vs [e] B) : ∃ x, vs = [x] ∧ Vr K F H σ x e B := by
  cases h with
  | cons h r => cases r; rw [List.append_nil]; exact ⟨_, rfl, h⟩
theorem VrL.two {vs : List V} {e e' : Ev} (h : VrL K F H σ vs [e, e'] B) : ∃ x y B1 B2, vs = [x, y] ∧ Vr K F H σ x e B1 ∧ Vr K F H σ y e' B2 ∧ B = B1 ++ B2 := by
  cases h with
  | cons h r => cases r with
    | cons h2 r => cases r; rw [List.append_nil]; exact ⟨_, _, _, _, rfl, h, h2, rfl⟩

def Bfn.nm : Bfn → Str
  | .len => "len" | .abs => "abs" | .max => "max" | .min => "min" | .sum => "sum" | .all => "all" | .any => "any" | .list => "list" | .tuple => "tuple" | .int => "int" | .str => "str" | .repr => "repr" | .sorted => "sorted" | .lenSet => "len"
/-- a built-in class, or a function -/
def Bfn.cls : Bfn → Option String
  | .list => some "list" | .tuple => some "tuple" | .int => some "int" | .str => some "str"
  | _ => none
def Bfn.val (f : Bfn) : Value := match f with
  | .len => .builtin "len" | .abs => .builtin "abs" | .max => .builtin "max" | .min => .builtin "min" | .sum => .builtin "sum" | .all => .builtin "all" | .any => .builtin "any" | .list => .type "list" | .tuple => .type "tuple" | .int => .type "int" | .str => .type "str" | .repr => .builtin "repr" | .sorted => .builtin "sorted" | .lenSet => .none
def rB (K : PySem.W.Frag) : Bfn → List V → Hp → VK → Prop
  | .len => fun xs H Q => (∃ p ys, xs = [.ref p] ∧ (SqL K H p ys ∨ SqT K H p ys) ∧ Q (.int ys.length) H) ∨ ∃ z, xs = [.str z] ∧ z.length ≤ sizeLine ∧ Q (.int z.length) H
  | .abs => fun xs H Q => ∃ i, xs = [.int i] ∧ Q (.int (if i < 0 then -i else i)) H
  | .max => fun xs H Q => (∃ i j, xs = [.int i, .int j] ∧ Q (.int (if j > i then j else i)) H) ∨ rMax K xs H Q
  | .min => fun xs H Q => (∃ i j, xs = [.int i, .int j] ∧ Q (.int (if j < i then j else i)) H) ∨ rMin K xs H Q
  | .sum => rSum K
  | .all => rAll K
  | .any => rAny K
  | .list => fun xs H Q => ∃ p ys, xs = [.ref p] ∧ (SqL K H p ys ∨ SqT K H p ys) ∧ ∀ l, H l = none → Q (.ref l) (upd H l (.lst ys))
  | .tuple => fun xs H Q => ∃ p ys, xs = [.ref p] ∧ ((SqL K H p ys ∧ ∀ l, H l = none → Q (.ref l) (upd H l (.tup ys))) ∨ (SqT K H p ys ∧ Q (.ref p) H))
  | .int => fun xs H Q => (∃ i, xs = [.int i] ∧ Q (.int i) H) ∨ ∃ k, xs = [.bl k] ∧ Q (.int (if k then 1 else 0)) H
  | _ => fun _ _ _ => False
theorem rB_ok {X : Cx} (hc : X.calm = true) : ∀ f : Bfn, (∃ xs H Q, rB X.K f xs H Q) → CallR X f.val (rB X.K f)
  | .len, _ => call_len_seq.or call_len_str
  | .abs, _ => call_abs
  | .max, _ => (call_max2 hc).or (cr_max hc)
  | .min, _ => (call_min2 hc).or (cr_min hc)
  | .sum, _ => cr_sum hc
  | .all, _ => cr_all hc
  | .any, _ => cr_any hc
  | .list, _ => call_list_of
  | .tuple, _ => call_tuple_of
  | .int, _ => call_int1
  | .str, h => h.elim fun _ h => h.elim fun _ h => h.elim fun _ h => h.elim
  | .repr, h => h.elim fun _ h => h.elim fun _ h => h.elim fun _ h => h.elim
  | .sorted, h => h.elim fun _ h => h.elim fun _ h => h.elim fun _ h => h.elim
  | .lenSet, h => h.elim fun _ h => h.elim fun _ h => h.elim fun _ h => h.elim
theorem maxI_ok : ∀ (l : List Int) (a : Int), maxI a l ∈ a :: l ∧ ∀ y ∈ a :: l, y ≤ maxI a l
  | [], a => ⟨List.mem_cons_self, fun y h => by simp at h; subst h; exact Int.le_refl _⟩
  | b :: l, a => by
    obtain ⟨h1, h2⟩ := maxI_ok l (if b > a then b else a)
    rw [maxI]
    refine ⟨?_, fun y hy => ?_⟩
    · rcases List.mem_cons.mp h1 with h | h
      · rw [h]; split <;> simp
      · simp [h]
    · have h3 := h2 _ List.mem_cons_self
      rcases List.mem_cons.mp hy with rfl | hy
      · refine Int.le_trans ?_ h3; split <;> omega
      · rcases List.mem_cons.mp hy with rfl | hy
        · refine Int.le_trans ?_ h3; split <;> omega
        · exact h2 y (List.mem_cons_of_mem _ hy)
theorem minI_ok : ∀ (l : List Int) (a : Int), minI a l ∈ a :: l ∧ ∀ y ∈ a :: l, minI a l ≤ y
  | [], a => ⟨List.mem_cons_self, fun y h => by simp at h; subst h; exact Int.le_refl _⟩
  | b :: l, a => by
    obtain ⟨h1, h2⟩ := minI_ok l (if b < a then b else a)
    rw [minI]
    refine ⟨?_, fun y hy => ?_⟩
    · rcases List.mem_cons.mp h1 with h | h
      · rw [h]; split <;> simp
      · simp [h]
    · have h3 := h2 _ List.mem_cons_self
      rcases List.mem_cons.mp hy with rfl | hy
      · refine Int.le_trans h3 ?_; split <;> omega
      · rcases List.mem_cons.mp hy with rfl | hy
        · refine Int.le_trans h3 ?_; split <;> omega
        · exact h2 y (List.mem_cons_of_mem _ hy)
theorem maxI_uniq {a m : Int} {l : List Int} (hm : m ∈ a :: l) (h : ∀ y, y ∈ a :: l → y ≤ m) : m = maxI a l :=
  Int.le_antisymm ((maxI_ok l a).2 m hm) (h _ (maxI_ok l a).1)
theorem minI_uniq {a m : Int} {l : List Int} (hm : m ∈ a :: l) (h : ∀ y, y ∈ a :: l → m ≤ y) : m = minI a l :=
  Int.le_antisymm (h _ (minI_ok l a).1) ((minI_ok l a).2 m hm)
theorem bfnop_ok {f : Bfn} {es : List Ev} {res : Ev} {vs : List V} (hl : (f matches .lenSet) = false) (h : PoE K mg W q σ F H (B ++ A2) res G Q) (g : Good F H (B ++ A2)) (rs : RS K F H σ G A2) (vr : VrL K F H σ vs es B) (hb : bfnop f es = some res) : rB K f vs H Q := by
  unfold bfnop at hb
  split at hb
  · -- len
    rename_i e
    obtain ⟨x, rfl, v1⟩ := vr.one
    split at hb
    · rename_i n hn
      cases hb
      cases et : e.tr with
      | none => rw [et] at hn; cases hn
      | some t =>
        rw [et] at hn
        obtain ⟨C, r⟩ := v1.look et
        have el : lenT t = some n := hn
        have fin := h.sc' g rs (.int n)
        unfold lenT at el
        split at el
        · cases el
          obtain ⟨p, us, rfl, hr, r2⟩ := r.tupl
          exact .inl ⟨p, us, rfl, .inr hr, by rw [r2.len]; exact fin⟩
        · cases el
          obtain ⟨p, us, D, rfl, hr, r2, _, _⟩ := r.lst g.sub
          exact .inl ⟨p, us, rfl, .inl hr, by rw [r2.len]; exact fin⟩
        · split at el
          · rename_i hz
            cases el
            cases r
            exact .inr ⟨_, rfl, hz, fin⟩
          · cases el
        · cases el
    · cases hb
  · rename_i e
    obtain ⟨x, rfl, v1⟩ := vr.one
    split at hb
    · rename_i i q1
      cases hb
      exact ⟨i, by rw [v1.int q1], h.sc' g rs (.int _)⟩
    · cases hb
  · rename_i a b
    obtain ⟨x, y, C1, C2, rfl, v1, v2, _⟩ := vr.two
    split at hb
    · rename_i i j q1 q2
      cases hb
      exact .inl ⟨i, j, by rw [v1.int q1, v2.int q2], h.sc' g rs (.int _)⟩
    · cases hb
  · rename_i a b
    obtain ⟨x, y, C1, C2, rfl, v1, v2, _⟩ := vr.two
    split at hb
    · rename_i i j q1 q2
      cases hb
      exact .inl ⟨i, j, by rw [v1.int q1, v2.int q2], h.sc' g rs (.int _)⟩
    · cases hb
  · rename_i e
    obtain ⟨x, rfl, v1⟩ := vr.one
    split at hb
    · rename_i o ts q1
      split at hb
      · rename_i n ns eb
        cases hb
        obtain ⟨C, r⟩ := v1.look q1
        obtain ⟨p, us, D, rfl, hr, r2, _, _⟩ := r.lst g.sub
        have e2 := r2.ints eb
        subst e2
        refine .inr ⟨p, n :: ns, rfl, hr, by simp, fun m hm hle => ?_⟩
        rw [maxI_uniq hm hle]
        exact h.sc' g rs (.int _)
      · cases hb
    · cases hb
  · rename_i e
    obtain ⟨x, rfl, v1⟩ := vr.one
    split at hb
    · rename_i o ts q1
      split at hb
      · rename_i n ns eb
        cases hb
        obtain ⟨C, r⟩ := v1.look q1
        obtain ⟨p, us, D, rfl, hr, r2, _, _⟩ := r.lst g.sub
        have e2 := r2.ints eb
        subst e2
        refine .inr ⟨p, n :: ns, rfl, hr, by simp, fun m hm hle => ?_⟩
        rw [minI_uniq hm hle]
        exact h.sc' g rs (.int _)
      · cases hb
    · cases hb
  · rename_i e
    obtain ⟨x, rfl, v1⟩ := vr.one
    split at hb
    · rename_i o ts q1
      cases eb : blsOf ts with
      | none => rw [eb] at hb; cases hb
      | some bs =>
        rw [eb] at hb
        cases hb
        obtain ⟨C, r⟩ := v1.look q1
        obtain ⟨p, us, D, rfl, hr, r2, _, _⟩ := r.lst g.sub
        have e2 := r2.bls eb
        subst e2
        exact ⟨p, bs, rfl, hr, h.sc' g rs (.bl _)⟩
    · cases hb
  · rename_i e
    obtain ⟨x, rfl, v1⟩ := vr.one
    split at hb
    · rename_i o ts q1
      cases eb : blsOf ts with
      | none => rw [eb] at hb; cases hb
      | some bs =>
        rw [eb] at hb
        cases hb
        obtain ⟨C, r⟩ := v1.look q1
        obtain ⟨p, us, D, rfl, hr, r2, _, _⟩ := r.lst g.sub
        have e2 := r2.bls eb
        subst e2
        exact ⟨p, bs, rfl, hr, h.sc' g rs (.bl _)⟩
    · cases hb
  · rename_i e
    obtain ⟨x, rfl, v1⟩ := vr.one
    split at hb
    · rename_i o ts q1
      cases eb : intsOf ts with
      | none => rw [eb] at hb; cases hb
      | some bs =>
        rw [eb] at hb
        cases hb
        obtain ⟨C, r⟩ := v1.look q1
        obtain ⟨p, us, D, rfl, hr, r2, _, _⟩ := r.lst g.sub
        have e2 := r2.ints eb
        subst e2
        exact ⟨p, bs, rfl, hr, h.sc' g rs (.int _)⟩
    · cases hb
  · rename_i e
    obtain ⟨x, rfl, v1⟩ := vr.one
    split at hb
    · cases el : e.lk with
      | none => rw [el] at hb; cases hb
      | some ts =>
        rw [el] at hb
        cases hb
        obtain ⟨p, us, D, rfl, hr, r2, s1, n1⟩ := v1.lk el g.sub
        exact ⟨p, us, rfl, .inl hr, fun l hp => h.newL g rs r2 (sub_one' g s1 n1) hp⟩
    · cases el : e.tk with
      | none => rw [el] at hb; cases hb
      | some ts =>
        rw [el] at hb
        cases hb
        obtain ⟨p, us, D, rfl, hr, r2, s1, n1⟩ := v1.tk el
        exact ⟨p, us, rfl, .inr hr, fun l hp => h.newL g rs r2 (sub_one' g s1 n1) hp⟩
    · cases hb
  · rename_i e
    obtain ⟨x, rfl, v1⟩ := vr.one
    split at hb
    · cases el : e.lk with
      | none => rw [el] at hb; cases hb
      | some ts =>
        rw [el] at hb
        cases hb
        obtain ⟨p, us, D, rfl, hr, r2, s1, n1⟩ := v1.lk el g.sub
        exact ⟨p, us, rfl, .inl ⟨hr, fun l hp => h.newT g rs r2 (sub_one' g s1 n1) hp⟩⟩
    · cases el : e.tk with
      | none => rw [el] at hb; cases hb
      | some ts =>
        rw [el] at hb
        cases hb
        obtain ⟨p, us, D, rfl, hr, r2, s1, n1⟩ := v1.tk el
        exact ⟨p, us, rfl, .inr ⟨hr, h.here g rs (.tup hr r2) (sub_one' g s1 n1)⟩⟩
    · cases hb
  · rename_i e
    obtain ⟨x, rfl, v1⟩ := vr.one
    split at hb
    · rename_i i q1
      cases hb
      exact .inl ⟨i, by rw [v1.int q1], h.sc' g rs (.int _)⟩
    · rename_i i q1
      cases hb
      exact .inr ⟨i, by rw [v1.bl q1], h.sc' g rs (.int _)⟩
    · cases hb
  · simp at hl
  · cases hb

/-! ### isinstance of one built-in class -/
theorem Rp.tyx {v : V} {t : T} {B : List Addr} {a : String} (sm : Same F H) (h : Rp K F H v t B) (e : t.ty = some a) : TyX K H v (.type a) := by
  cases h with
  | non => cases e; exact .base .non
  | bl b => cases e; exact .base (.bl _)
  | int i => cases e; exact .base (.int _)
  | str x => cases e; exact .base (.str _)
  | opq v => cases e
  | tup h r =>
    cases e
    rcases h with (h | ⟨o, h⟩) | ⟨o, its, n, hk, hk2⟩
    · exact .base (.tup h)
    · exact .fTuple h
    · exact .kTuple hk hk2.1
  | lstO h r => cases e; exact .base (.lst h)
  | lstF h r =>
    cases e
    rcases sm.seq h with (h | ⟨o, h⟩) | ⟨o, its, n, hk, hk2⟩
    · exact .base (.lst h)
    · exact .base (.frz h)
    · exact .kList hk hk2.1
  | dKO hk h r => cases e; exact .base (.dK h)
  | dKF hk h r => cases e; exact .base (.dK (sm _ _ h))
  | dTO hk h r => cases e; exact .base (.dT h)
  | dTF hk h r => cases e; exact .base (.dT (sm _ _ h))
end
end QX

set_option Elab.async false
set_option linter.all false
set_option maxRecDepth 100000
/-! lists of ours, changed -/
namespace QX
open PySem PySem.Spec L2

section
variable {K : PySem.W.Frag} {mg : MG} {W : WX} {q : Bool} {σ : L2.St} {F F' H H' : Hp} {A A2 B B1 B2 : List Addr} {G : Sl} {Q : VK}

theorem RpL.ext : ∀ {vs : List V} {ts : List T} {D : List Addr} {k : Nat} {t : T}, RpL K F H vs ts D → ts[k]? = some t →
    ∃ v Dt D', vs[k]? = some v ∧ Rp K F H v t Dt ∧ RpL K F H (vs.eraseIdx k) (ts.eraseIdx k) D' ∧ D.Perm (Dt ++ D')
  | _, _, _, _, _, .nil, e => by simp at e
  | _, _, _, 0, t, .cons h r, e => by
    simp only [List.getElem?_cons_zero, Option.some.injEq] at e
    subst e
    exact ⟨_, _, _, rfl, h, r, .refl _⟩
  | _, _, _, k + 1, t, .cons (A := A1) h r, e => by
    obtain ⟨v, Dt, D', e1, h1, r1, p1⟩ := RpL.ext (k := k) (t := t) r (by simpa using e)
    refine ⟨v, Dt, A1 ++ D', by simpa using e1, h1, .cons h r1, (List.Perm.append_left A1 p1).trans ?_⟩
    rw [← List.append_assoc, ← List.append_assoc]
    exact List.Perm.append_right _ List.perm_append_comm
theorem RpL.setE : ∀ {vs : List V} {ts : List T} {D C : List Addr} {k : Nat} {v : V} {t : T}, RpL K F H vs ts D → Rp K F H v t C → k < ts.length → C = [] →
    ∃ D', RpL K F H (vs.set k v) (ts.set k t) D' ∧ D'.Sublist D
  | _, _, _, _, _, _, _, .nil, _, e, _ => by simp at e
  | _, _, _, _, 0, _, _, .cons h r, hk, _, z => by
    subst z
    exact ⟨[] ++ _, .cons hk r, by rw [List.nil_append]; exact List.sublist_append_right _ _⟩
  | _, _, _, _, k + 1, _, _, .cons (A := A1) h r, hk, e, z => by
    obtain ⟨D', r1, s1⟩ := RpL.setE (k := k) r hk (by simpa using e) z
    exact ⟨A1 ++ D', .cons h r1, List.Sublist.append (.refl _) s1⟩

/-- a slot that holds a list of ours -/
theorem slotL {i : Nat} {ts : List T} (rs : RS K F H σ G A) (hi : G[i]? = some (some (.lst true ts))) :
    ∃ p vs D C, σ[i]? = some (some (.ref p)) ∧ H p = some (.lst vs) ∧ RpL K F H vs ts D ∧ RS K F H σ (G.set i none) C ∧ A.Perm ((p :: D) ++ C) := by
  obtain ⟨v, Bi, C, e1, h1, r1, pm⟩ := rs.opn hi
  cases h1 with
  | lstO h r => exact ⟨_, _, _, C, e1, h, r, r1, pm⟩
/-- and it is written -/
theorem slotW {i : Nat} {p : Addr} {us : List T} {ws : List V} {D2 C : List Addr} (rs : RS K F' H' σ (G.set i none) C) (hi : i < G.length) (hσ : σ[i]? = some (some (.ref p))) (hp : H' p = some (.lst ws)) (r : RpL K F' H' ws us D2) :
    ∃ E, RS K F' H' σ (G.set i (some (.lst true us))) E ∧ E.Perm ((p :: D2) ++ C) := by
  obtain ⟨E, r1, pm⟩ := rs.cls (i := i) (List.getElem?_set_self hi) hσ (.lstO hp r)
  rw [List.set_set] at r1
  exact ⟨E, r1, pm⟩

/-- a change of the list at p: what stays of its items, what comes -/
theorem write_ok {i : Nat} {p : Addr} {us : List T} {vs ws : List V} {D D2 C R : List Addr} {res : Ev} {v : V} (h : PoE K mg W q σ F H (B ++ A) res (G.set i (some (.lst true us))) Q) (g : Good F H (B ++ A)) (hq : q = false)
    (hi : i < G.length) (hσ : σ[i]? = some (some (.ref p))) (hp : H p = some (.lst vs)) (rs : RS K F H σ (G.set i none) C) (pm : A.Perm ((p :: D) ++ C))
    (Z : List Addr) (hZ : ∀ a ∈ Z, a ∈ B) (atD : ∀ a ∈ D, ∃ o, H a = some o)
    (r : RpL K (join F H Z) (upd H p (.lst ws)) ws us D2) (vr : Vr K (join F H Z) (upd H p (.lst ws)) σ v res R) (sD : ∀ a ∈ R ++ D2, a ∈ D) (nD : D.Nodup → (R ++ D2).Nodup) : Q v (upd H p (.lst ws)) := by
  have gA : Good F H A := g.right
  have ndA := gA.nd
  rw [pm.nodup_iff] at ndA
  obtain ⟨n1, n2, n3⟩ := List.nodup_append.mp ndA
  obtain ⟨n4, n5⟩ := List.nodup_cons.mp n1
  have mA : ∀ a, a ∈ A ↔ a ∈ (p :: D) ++ C := fun a => pm.mem_iff
  have pA : p ∈ A := (mA p).mpr (List.mem_append_left _ List.mem_cons_self)
  have nZ : ∀ a ∈ A, a ∉ Z := fun a m z => g.apart (hZ a z) m
  -- given away
  have s1 : Step F H (B ++ A) (join F H Z) H A := g.give (fun a m => List.mem_append_left _ (hZ a m)) (fun a m => ⟨List.mem_append_right _ m, nZ a m⟩) gA.nd
  have s2 : Step (join F H Z) H A (join F H Z) (upd H p (.lst ws)) A := s1.good.write pA hp trivial
  have st := s1.trans s2
  have nC : ∀ a ∈ C, a ≠ p := fun a m z => n3 p List.mem_cons_self a m z.symm
  have rs2 : RS K (join F H Z) (upd H p (.lst ws)) σ (G.set i none) C := rs.mono s1.ff st.tupS fun a m => upd_ne (nC a m)
  obtain ⟨E, rE, pE⟩ := slotW rs2 hi hσ upd_same r
  have st2 : Step F H (B ++ A) (join F H Z) (upd H p (.lst ws)) (R ++ E) := by
    refine st.drop (fun a m => ?_) ?_
    · rcases List.mem_append.mp m with m | m
      · exact (mA a).mpr (List.mem_append_left _ (List.mem_cons_of_mem _ (sD a (List.mem_append_left _ m))))
      · rcases List.mem_append.mp (pE.mem_iff.mp m) with m | m
        · rcases List.mem_cons.mp m with m | m
          · rw [m]; exact pA
          · exact (mA a).mpr (List.mem_append_left _ (List.mem_cons_of_mem _ (sD a (List.mem_append_right _ m))))
        · exact (mA a).mpr (List.mem_append_right _ m)
    · obtain ⟨k1, k2, k3⟩ := List.nodup_append.mp (nD n5)
      refine List.nodup_append.mpr ⟨k1, pE.nodup_iff.mpr (List.nodup_append.mpr ⟨List.nodup_cons.mpr ⟨fun m => n4 (sD p (List.mem_append_right _ m)), k2⟩, n2, fun a ha b hb e => ?_⟩), fun a ha b hb e => ?_⟩
      · rcases List.mem_cons.mp ha with m | m
        · exact n3 p List.mem_cons_self b hb (m.symm.trans e)
        · exact n3 a (List.mem_cons_of_mem _ (sD a (List.mem_append_right _ m))) b hb e
      · subst e
        have aD := sD a (List.mem_append_left _ ha)
        rcases List.mem_append.mp (pE.mem_iff.mp hb) with m | m
        · rcases List.mem_cons.mp m with m | m
          · exact n4 (m ▸ aD)
          · exact k3 a ha a m rfl
        · exact n3 a (List.mem_cons_of_mem _ aD) a m rfl
  exact Post.fin h rE vr st2 fun z => by rw [hq] at z; cases z

/-- one more item, that stays ours -/
theorem write_add {i : Nat} {p : Addr} {us : List T} {vs ws : List V} {D C Cy : List Addr} (h : PoE K mg W q σ F H (B ++ A) (.own .non) (G.set i (some (.lst true us))) Q) (g : Good F H (B ++ A)) (hq : q = false)
    (hi : i < G.length) (hσ : σ[i]? = some (some (.ref p))) (hp : H p = some (.lst vs)) (rs : RS K F H σ (G.set i none) C) (pm : A.Perm ((p :: D) ++ C))
    (r : RpL K F (upd H p (.lst ws)) ws us (D ++ Cy)) (sy : ∀ a ∈ Cy, a ∈ B) (ny : B.Nodup → Cy.Nodup) : Q .non (upd H p (.lst ws)) := by
  have ndA := g.right.nd
  rw [pm.nodup_iff] at ndA
  obtain ⟨n1, n2, n3⟩ := List.nodup_append.mp ndA
  obtain ⟨n4, n5⟩ := List.nodup_cons.mp n1
  have mA : ∀ a, a ∈ A ↔ a ∈ (p :: D) ++ C := fun a => pm.mem_iff
  have pA : p ∈ A := (mA p).mpr (List.mem_append_left _ List.mem_cons_self)
  have off : ∀ a ∈ Cy, a ∉ (p :: D) ++ C := fun a m z => g.apart (sy a m) ((mA a).mpr z)
  have st : Step F H (B ++ A) F (upd H p (.lst ws)) (B ++ A) := g.write (List.mem_append_right _ pA) hp trivial
  have nC : ∀ a ∈ C, a ≠ p := fun a m z => n3 p List.mem_cons_self a m z.symm
  have rs2 : RS K F (upd H p (.lst ws)) σ (G.set i none) C := rs.mono st.ff st.tupS fun a m => upd_ne (nC a m)
  obtain ⟨E, rE, pE⟩ := slotW rs2 hi hσ upd_same r
  have ndB : Cy.Nodup := ny (List.nodup_append.mp g.nd).1
  have st2 : Step F H (B ++ A) F (upd H p (.lst ws)) ([] ++ E) := by
    refine st.drop (fun a m => ?_) ?_
    · rcases List.mem_append.mp (pE.mem_iff.mp m) with m | m
      · rcases List.mem_cons.mp m with m | m
        · rw [m]; exact List.mem_append_right _ pA
        · rcases List.mem_append.mp m with m | m
          · exact List.mem_append_right _ ((mA a).mpr (List.mem_append_left _ (List.mem_cons_of_mem _ m)))
          · exact List.mem_append_left _ (sy a m)
      · exact List.mem_append_right _ ((mA a).mpr (List.mem_append_right _ m))
    · show E.Nodup
      refine pE.nodup_iff.mpr (List.nodup_append.mpr ⟨List.nodup_cons.mpr ⟨fun m => ?_, List.nodup_append.mpr ⟨n5, ndB, fun a ha b hb e => ?_⟩⟩, n2, fun a ha b hb e => ?_⟩)
      · rcases List.mem_append.mp m with m | m
        · exact n4 m
        · exact off p m (List.mem_append_left _ List.mem_cons_self)
      · subst e
        exact off a hb (List.mem_append_left _ (List.mem_cons_of_mem _ ha))
      · subst e
        rcases List.mem_cons.mp ha with m | m
        · exact n3 p List.mem_cons_self a hb m.symm
        · rcases List.mem_append.mp m with m | m
          · exact n3 a (List.mem_cons_of_mem _ m) a hb rfl
          · exact off a m (List.mem_append_right _ hb)
  exact Post.fin h rE (.own .non) st2 fun z => by rw [hq] at z; cases z
def Mut.nm : Mut → Str
  | .append => "append" | .appendO => "append" | .pop => "pop" | .insert => "insert" | .extend => "extend" | .clear => "clear" | .reverse => "reverse"
def rM (m : Mut) (n : Nat) : V → List V → Hp → VK → Prop := match m, n with
  | .append, 1 => rAppend
  | .appendO, 1 => rAppend
  | .pop, 0 => rPop
  | .pop, 1 => rPopAt
  | .clear, 0 => rClear
  | .reverse, 0 => rReverse
  | _, _ => fun _ _ _ _ => False

theorem Vr.fm {v : V} {e : Ev} {t : T} (h : Vr K F H σ v e B) (he : e.fm = some t) : ∃ C, Rp K F H v t C ∧ (∀ a ∈ C, a ∈ B) ∧ (B.Nodup → C.Nodup) := by
  cases h with
  | own r => simp only [Ev.fm, Option.some.injEq] at he; subst he; exact ⟨_, r, fun _ m => m, id⟩
  | vw r =>
    simp only [Ev.fm] at he
    split at he
    · rename_i hf
      cases he
      have z := r.isF_nil hf
      subst z
      exact ⟨[], r, fun _ m => by simp at m, fun _ => .nil⟩
    · cases he
  | rf h => cases he

theorem mutop_ok {m : Mut} {i : Nat} {ts us : List T} {es : List Ev} {t : T} {vs : List V} (h : PoE K mg W q σ F H (B ++ A) (.own t) (G.set i (some (.lst true us))) Q) (g : Good F H (B ++ A)) (hq : q = false) (rs : RS K F H σ G A)
    (hi : G[i]? = some (some (.lst true ts))) (vr : VrL K F H σ vs es B) (hb : mutop m ts es = some (t, us)) :
    ∃ p, σ[i]? = some (some (.ref p)) ∧ rM m es.length (.ref p) vs H Q := by
  have hlt : i < G.length := (List.getElem?_eq_some_iff.mp hi).1
  obtain ⟨p, ws, D, C, hσ, hp, r, rs2, pm⟩ := slotL rs hi
  refine ⟨p, hσ, ?_⟩
  have atA := rs.at
  have atD : ∀ a ∈ D, ∃ o, H a = some o := fun a m => let ⟨o, e, _⟩ := r.at a m; ⟨o, e⟩
  have ndA := g.right.nd
  rw [pm.nodup_iff] at ndA
  have nDp : p ∉ D := (List.nodup_cons.mp (List.nodup_append.mp ndA).1).1
  have smZ : ∀ Z : List Addr, (∀ a ∈ Z, a ∈ B) → Same F (join F H Z) := fun Z hZ b o e => by
    rw [join_out fun z => ?_]
    · exact e
    · rw [g.out b (List.mem_append_left _ (hZ b z))] at e; cases e
  have tS : ∀ w, TupS K H (upd H p (.lst w)) := fun w p' us' h' => by
    have ne : ∀ o, H p' = some o → ¬ Cell o → p' ≠ p := fun o e c z => by subst z; rw [hp] at e; cases e; exact c trivial
    rcases h' with (h' | ⟨o, h'⟩) | h'
    · exact .inl (.inl (by rw [upd_ne (ne _ h' fun z => z)]; exact h'))
    · exact .inl (.inr ⟨o, by rw [upd_ne (ne _ h' fun z => z)]; exact h'⟩)
    · exact .inr h'
  have kp : ∀ w, ∀ a ∈ D, (upd H p (.lst w)) a = H a := fun w a m => upd_ne fun z => nDp (z ▸ m)
  have j0 : join F H [] = F := by funext b; exact join_out (by simp)
  unfold mutop at hb
  split at hb
  · -- append
    rename_i e
    obtain ⟨y, rfl, v1⟩ := vr.one
    split at hb
    · rename_i t' ht
      split at hb
      · rename_i hz
        simp only [Option.some.injEq, Prod.mk.injEq] at hb
        obtain ⟨e1, e2⟩ := hb
        subst e1 e2
        obtain ⟨Cy, ry, sy, ny⟩ := v1.fm ht
        refine ⟨p, ws, y, rfl, rfl, hp, by rw [r.len]; exact hz, ?_⟩
        have nyp : ∀ a ∈ Cy, a ≠ p := fun a m z => g.apart (sy a m) (pm.mem_iff.mpr (List.mem_append_left _ (z ▸ List.mem_cons_self)))
        have r1 : RpL K (join F H Cy) (upd H p (.lst (ws ++ [y]))) ws ts D := r.mono (smZ Cy sy) (tS _) (kp _)
        have r2 : Rp K (join F H Cy) (upd H p (.lst (ws ++ [y]))) y t'.fz [] := ry.toF (smZ Cy sy) (tS _) fun a m => join_in m
        exact write_ok (R := []) h g hq hlt hσ hp rs2 pm Cy sy atD (r1.append (RpL.cons (A := []) (B := []) r2 .nil)) (.own .non) (by simp) (by simp)
      · cases hb
    · cases hb
  · -- append, ours
    rename_i e
    obtain ⟨y, rfl, v1⟩ := vr.one
    split at hb
    · rename_i t'
      split at hb
      · rename_i hz
        simp only [Option.some.injEq, Prod.mk.injEq] at hb
        obtain ⟨e1, e2⟩ := hb
        subst e1 e2
        obtain ⟨Cy, ry, sy, ny⟩ := v1.fm (t := t') rfl
        refine ⟨p, ws, y, rfl, rfl, hp, by rw [r.len]; exact hz, ?_⟩
        have nyp : ∀ a ∈ Cy, a ≠ p := fun a m z => g.apart (sy a m) (pm.mem_iff.mpr (List.mem_append_left _ (z ▸ List.mem_cons_self)))
        have r1 : RpL K F (upd H p (.lst (ws ++ [y]))) ws ts D := r.mono (Same.refl _) (tS _) (kp _)
        have r2 : Rp K F (upd H p (.lst (ws ++ [y]))) y t' Cy := ry.mono (Same.refl _) (tS _) fun a m => upd_ne (nyp a m)
        exact write_add h g hq hlt hσ hp rs2 pm (r1.append (by simpa using RpL.cons (B := []) r2 .nil)) sy ny
      · cases hb
    · cases hb
  · -- pop()
    cases vr
    split at hb
    · rename_i t' ht
      simp only [Option.some.injEq, Prod.mk.injEq] at hb
      obtain ⟨e1, e2⟩ := hb
      subst e1 e2
      have hk : ts[ts.length - 1]? = some t' := by rw [← List.getLast?_eq_getElem?]; exact ht
      obtain ⟨v, Dt, D', ev, rv, r1, pD⟩ := r.ext hk
      have lw : ws.length = ts.length := r.len
      rw [← lw, List.eraseIdx_length_sub_one, lw, List.eraseIdx_length_sub_one] at r1
      refine ⟨p, ws, v, rfl, rfl, hp, by rw [lw]; exact ev, ?_⟩
      have sD : ∀ a, a ∈ Dt ++ D' → a ∈ D := fun a m => pD.mem_iff.mpr m
      have r2 : RpL K F (upd H p (.lst ws.dropLast)) ws.dropLast ts.dropLast D' := r1.mono (Same.refl _) (tS _) fun a m => kp _ a (sD a (List.mem_append_right _ m))
      have r3 : Rp K F (upd H p (.lst ws.dropLast)) v t' Dt := rv.mono (Same.refl _) (tS _) fun a m => kp _ a (sD a (List.mem_append_left _ m))
      exact write_ok h g hq hlt hσ hp rs2 pm [] (by simp) atD (by rw [j0]; exact r2) (by rw [j0]; exact .own r3) sD fun n => pD.nodup_iff.mp n
    · cases hb
  · -- pop(i)
    rename_i e
    obtain ⟨y, rfl, v1⟩ := vr.one
    split at hb
    · rename_i j q1
      split at hb
      · rename_i hz
        simp only [Bool.and_eq_true, decide_eq_true_eq] at hz
        split at hb
        · rename_i k hk
          cases et : ts[k]? with
          | none => rw [et] at hb; cases hb
          | some t' =>
            rw [et] at hb
            simp only [Option.map_some, Option.some.injEq, Prod.mk.injEq] at hb
            obtain ⟨e1, e2⟩ := hb
            subst e1 e2
            obtain ⟨v, Dt, D', ev, rv, r1, pD⟩ := r.ext et
            have lw : ws.length = ts.length := r.len
            refine ⟨p, ws, j, k, v, rfl, by rw [v1.int q1], hp, hz.1, hz.2, by rw [lw]; exact hk, ev, ?_⟩
            have sD : ∀ a, a ∈ Dt ++ D' → a ∈ D := fun a m => pD.mem_iff.mpr m
            have r2 : RpL K F (upd H p (.lst (ws.eraseIdx k))) (ws.eraseIdx k) (ts.eraseIdx k) D' := r1.mono (Same.refl _) (tS _) fun a m => kp _ a (sD a (List.mem_append_right _ m))
            have r3 : Rp K F (upd H p (.lst (ws.eraseIdx k))) v t' Dt := rv.mono (Same.refl _) (tS _) fun a m => kp _ a (sD a (List.mem_append_left _ m))
            exact write_ok h g hq hlt hσ hp rs2 pm [] (by simp) atD (by rw [j0]; exact r2) (by rw [j0]; exact .own r3) sD fun n => pD.nodup_iff.mp n
        · cases hb
      · cases hb
    · cases hb
  · -- clear()
    cases vr
    cases hb
    refine ⟨p, ws, rfl, rfl, hp, ?_⟩
    exact write_ok (R := []) (D2 := []) h g hq hlt hσ hp rs2 pm [] (by simp) atD .nil (.own .non) (by simp) (by simp)
  · -- reverse()
    cases vr
    cases hb
    refine ⟨p, ws, rfl, rfl, hp, ?_⟩
    obtain ⟨D', r1, pD⟩ := r.rev
    have r2 : RpL K F (upd H p (.lst ws.reverse)) ws.reverse ts.reverse D' := r1.mono (Same.refl _) (tS _) fun a m => kp _ a (pD.mem_iff.mp m)
    exact write_ok (R := []) h g hq hlt hσ hp rs2 pm [] (by simp) atD (by rw [j0]; exact r2) (.own .non) (fun a m => pD.mem_iff.mp (by simpa using m)) fun n => by simpa using pD.nodup_iff.mpr n
  · cases hb
end
end QX

set_option Elab.async false
set_option linter.all false
set_option maxRecDepth 100000
/-! how parts of an expression come together -/
namespace QX
open PySem PySem.Spec L2

section
variable {K : PySem.W.Frag} {mg : MG} {W : WX} {q : Bool} {σ : L2.St} {F F' H H' : Hp} {A A2 B B1 B2 : List Addr} {G : Sl}

/-- one operand -/
theorem one_ {α β : Type} {rel : Hp → Hp → β → α → List Addr → Prop} {qa : Bool} {f : Sl → R Ev} {k : Ev → Sl → R α} {Q : β → Hp → Prop} {Rv : V → Hp → Prop} (rs : RS K F H σ G A) (gd : Good F H A)
    (h : Post rel K mg W q σ F H A ((f G).bd k) Q) (hq : q = true → qa = true)
    (fin : ∀ e1 x F1 H1 A1 B1 G1, Post rel K mg W q σ F1 H1 (B1 ++ A1) (k e1 G1) Q → Good F1 H1 (B1 ++ A1) → RS K F1 H1 σ G1 A1 → Vr K F1 H1 σ x e1 B1 → Rv x H1) : tE K mg W qa f σ H Rv :=
  ⟨F, G, A, rs, gd, Post.bind (B0 := []) (rel' := relE K σ) (q2 := q) h gd (by simp) (fun z => ⟨hq z, z⟩) fun e1 G1 x F1 H1 A1 B1 _ rs1 v1 _ _ _ g1 h1 => fin e1 x F1 H1 A1 B1 G1 h1 g1 rs1 v1⟩

/-- two operands -/
theorem two_ {α β : Type} {rel : Hp → Hp → β → α → List Addr → Prop} {qa qb : Bool} {f g : Sl → R Ev} {k : Ev → Ev → Sl → R α} {Q : β → Hp → Prop} {Rv : V → V → Hp → Prop} (rs : RS K F H σ G A) (gd : Good F H A)
    (h : Post rel K mg W q σ F H A ((f G).bd fun e1 G1 => (g G1).bd fun e2 G2 => if (e1.firm || qb) = true then k e1 e2 G2 else .no) Q) (hq : q = true → qa = true ∧ qb = true)
    (fin : ∀ e1 e2 x y F2 H2 A2 B1 B2 G2, Post rel K mg W q σ F2 H2 (B1 ++ (B2 ++ A2)) (k e1 e2 G2) Q → Good F2 H2 (B1 ++ (B2 ++ A2)) → RS K F2 H2 σ G2 A2 → Vr K F2 H2 σ x e1 B1 → Vr K F2 H2 σ y e2 B2 → Rv x y H2) :
    tE K mg W qa f σ H fun x H1 => tE K mg W qb g σ H1 fun y H2 => Rv x y H2 := by
  refine ⟨F, G, A, rs, gd, Post.bind (B0 := []) (rel' := relE K σ) (q2 := q) h gd (by simp) (fun z => ⟨(hq z).1, z⟩) fun e1 G1 x F1 H1 A1 B1 _ rs1 v1 _ _ _ g1 h1 => ?_⟩
  refine ⟨F1, G1, A1, rs1, (show Good F1 H1 (B1 ++ A1) from g1).right, Post.bind (B0 := B1) (rel' := relE K σ) (q2 := q) h1 g1 v1.at (fun z => ⟨(hq z).2, z⟩) fun e2 G2 y F2 H2 A2 B2 _ rs2 v2 st2 sm2 hk g2 h2 => ?_⟩
  by_cases hc : (e1.firm || qb) = true
  · rw [if_pos hc] at h2
    have v1' : Vr K F2 H2 σ x e1 B1 := v1.keep st2.ff st2.tupS hk (by
      cases z : e1.firm with
      | true => exact .inl rfl
      | false => rw [z, Bool.false_or] at hc; exact .inr (sm2 hc))
    exact fin e1 e2 x y F2 H2 A2 B1 B2 G2 h2 g2 rs2 v1' v2
  · rw [if_neg hc] at h2
    exact h2.elim

/-- an operand, then arguments -/
theorem oneL_ {α β : Type} {rel : Hp → Hp → β → α → List Addr → Prop} {qa qb : Bool} {f : Sl → R Ev} {g : Sl → R (List Ev)} {k : Ev → List Ev → Sl → R α} {Q : β → Hp → Prop} {Rv : V → List V → Hp → Prop} (rs : RS K F H σ G A) (gd : Good F H A)
    (h : Post rel K mg W q σ F H A ((f G).bd fun e1 G1 => (g G1).bd fun e2 G2 => if (e1.firm || qb) = true then k e1 e2 G2 else .no) Q) (hq : q = true → qa = true ∧ qb = true)
    (fin : ∀ e1 e2 x y F2 H2 A2 B1 B2 G2, Post rel K mg W q σ F2 H2 (B1 ++ (B2 ++ A2)) (k e1 e2 G2) Q → Good F2 H2 (B1 ++ (B2 ++ A2)) → RS K F2 H2 σ G2 A2 → Vr K F2 H2 σ x e1 B1 → VrL K F2 H2 σ y e2 B2 → Rv x y H2) :
    tE K mg W qa f σ H fun x H1 => tLs K mg W qb g σ H1 fun y H2 => Rv x y H2 := by
  refine ⟨F, G, A, rs, gd, Post.bind (B0 := []) (rel' := relE K σ) (q2 := q) h gd (by simp) (fun z => ⟨(hq z).1, z⟩) fun e1 G1 x F1 H1 A1 B1 _ rs1 v1 _ _ _ g1 h1 => ?_⟩
  refine ⟨F1, G1, A1, rs1, (show Good F1 H1 (B1 ++ A1) from g1).right, Post.bind (B0 := B1) (rel' := relL K σ) (q2 := q) h1 g1 v1.at (fun z => ⟨(hq z).2, z⟩) fun e2 G2 y F2 H2 A2 B2 _ rs2 v2 st2 sm2 hk g2 h2 => ?_⟩
  by_cases hc : (e1.firm || qb) = true
  · rw [if_pos hc] at h2
    have v1' : Vr K F2 H2 σ x e1 B1 := v1.keep st2.ff st2.tupS hk (by
      cases z : e1.firm with
      | true => exact .inl rfl
      | false => rw [z, Bool.false_or] at hc; exact .inr (sm2 hc))
    exact fin e1 e2 x y F2 H2 A2 B1 B2 G2 h2 g2 rs2 v1' v2
  · rw [if_neg hc] at h2
    exact h2.elim

/-- arguments -/
theorem args_ {α β : Type} {rel : Hp → Hp → β → α → List Addr → Prop} {qa : Bool} {f : Sl → R (List Ev)} {k : List Ev → Sl → R α} {Q : β → Hp → Prop} {Rv : List V → Hp → Prop} (rs : RS K F H σ G A) (gd : Good F H A)
    (h : Post rel K mg W q σ F H A ((f G).bd k) Q) (hq : q = true → qa = true)
    (fin : ∀ e1 x F1 H1 A1 B1 G1, Post rel K mg W q σ F1 H1 (B1 ++ A1) (k e1 G1) Q → Good F1 H1 (B1 ++ A1) → RS K F1 H1 σ G1 A1 → VrL K F1 H1 σ x e1 B1 → f G = .ok e1 G1 → Rv x H1) : tLs K mg W qa f σ H Rv :=
  ⟨F, G, A, rs, gd, Post.bind (B0 := []) (rel' := relL K σ) (q2 := q) h gd (by simp) (fun z => ⟨hq z, z⟩) fun e1 G1 x F1 H1 A1 B1 ef rs1 v1 st1 _ _ g1 h1 => fin e1 x F1 H1 A1 B1 G1 h1 g1 rs1 v1 ef⟩
end

section
variable {X : Cx} {a b c : Expr} {es : List Expr} {qa qb qc : Bool} {fa fb fc : Sl → R Ev} {fl : Sl → R (List Ev)} {pos : Pos}

theorem and2 {a b : Bool} (h : (a && b) = true) : a = true ∧ b = true := by simpa using h
theorem se_bin (op : Bop) (ha : SE X a qa fa) (hb : SE X b qb fb) : SE X (.BinOp a op.py b pos) (qa && qb) (fun G => (fa G).bd fun x G1 => (fb G1).bd fun y G2 => if (x.firm || qb) = true then R.of G2 (binop op x y) else .no) := by
  intro W tk
  refine peImp (fun σ H Q ⟨F, G, A, rs, gd, h⟩ => ?_) (pe_op (rBin_ok op) (ha W tk) (hb W tk))
  refine two_ rs gd h and2 fun e1 e2 x y F2 H2 A2 B1 B2 G2 h2 g2 rs2 v1 v2 => ?_
  obtain ⟨res, hb, h3⟩ := Post.ofSome h2
  exact binop_ok h3 g2 rs2 v1 v2 hb
theorem se_cmp (op : Cop) (hu : X.A.units + 65 < cLine) (hm : behindInMarks op.py b = false) (ha : SE X a qa fa) (hb : SE X b qb fb) :
    SE X (.Compare a [op.py] [b] pos) (qa && qb) (fun G => (fa G).bd fun x G1 => (fb G1).bd fun y G2 => if (x.firm || qb) = true then R.of G2 ((cmpop op x y).map fun k => .own (.bl k)) else .no) := by
  intro W tk
  refine peImp (fun σ H Q ⟨F, G, A, rs, gd, h⟩ => ?_) (pe_cmpR (rCmp_ok hu op) (ha W tk) (hb W tk) hm)
  refine two_ rs gd h and2 fun e1 e2 x y F2 H2 A2 B1 B2 G2 h2 g2 rs2 v1 v2 => ?_
  obtain ⟨res, hb, h3⟩ := Post.ofSome h2
  cases ek : cmpop op e1 e2 with
  | none => rw [ek] at hb; cases hb
  | some k =>
    rw [ek] at hb
    cases hb
    exact cmpop_ok g2.sub v1 v2 ek (PoE.sc h3 g2 rs2 (.bl k))
theorem st_cmp (op : Cop) (hu : X.A.units + 65 < cLine) (hm : behindInMarks op.py b = false) (ha : SE X a qa fa) (hb : SE X b qb fb) :
    ST X (.Compare a [op.py] [b] pos) (qa && qb) (fun G => (fa G).bd fun x G1 => (fb G1).bd fun y G2 => if (x.firm || qb) = true then R.of G2 (cmpop op x y) else .no) := by
  intro W tk
  refine ptImp (fun σ H Q ⟨F, G, A, rs, gd, h⟩ => ?_) (pt_cmpR (rCmp_ok hu op) (ha W tk) (hb W tk) hm)
  refine two_ rs gd h and2 fun e1 e2 x y F2 H2 A2 B1 B2 G2 h2 g2 rs2 v1 v2 => ?_
  obtain ⟨res, hb, h3⟩ := Post.ofSome h2
  exact cmpop_ok g2.sub v1 v2 hb ⟨res, rfl, Post.fin h3 rs2 ⟨rfl, rfl⟩ (g2.refl.drop (sub_right g2).mem (sub_right g2).nd) fun _ => Same.refl _⟩
theorem se_ix (hp : PlainIx b) (ha : SE X a qa fa) (hb : SE X b qb fb) : SE X (.Subscript a b pos) (qa && qb) (fun G => (fa G).bd fun x G1 => (fb G1).bd fun y G2 => if (x.firm || qb) = true then R.of G2 (ixop x y) else .no) := by
  intro W tk
  refine peImp (fun σ H Q ⟨F, G, A, rs, gd, h⟩ => ?_) (pe_ix ix_seq (ha W tk) (hb W tk) hp)
  refine two_ rs gd h and2 fun e1 e2 x y F2 H2 A2 B1 B2 G2 h2 g2 rs2 v1 v2 => ?_
  obtain ⟨res, hb, h3⟩ := Post.ofSome h2
  exact ixop_ok h3 g2 rs2 v1 v2 hb

/-! ### names, constants -/
theorem se_const {e : Expr} {v : V} {t : T} (h : PE X e (tC v)) (r : ∀ F H, Rp X.K F H v t []) : SE X e true (fun G => .ok (.own t) G) := fun W _ =>
  peImp (fun σ H Q ⟨F, G, A, rs, gd, h⟩ => Post.fin h rs (.own (r F H)) gd.refl fun _ => Same.refl _) h
theorem slotT_some {G : Sl} {i : Nat} {t : T} (h : slotT G i = some t) : G[i]? = some (some t) := by
  unfold slotT at h
  cases q : G[i]? with
  | none => rw [q] at h; cases h
  | some o => rw [q] at h; cases o <;> cases h; rfl
theorem se_var {i : Nat} {e : Expr} (h : PE X e (tVar i)) : SE X e true (fun G => match slotT G i with
    | some t => .ok (if t.isF then .own t else .vw t) G
    | none => .no) := fun W _ =>
  peImp (fun σ H Q ⟨F, G, A, rs, gd, h⟩ => by
    cases e' : slotT G i with
    | none => simp only [e'] at h; exact h.elim
    | some t =>
        simp only [e'] at h
        have e := slotT_some e'
        obtain ⟨v, B, C, hσ, r, rs2, pm⟩ := rs.opn e
        refine ⟨v, hσ, ?_⟩
        by_cases hf : t.isF = true
        · have z := r.isF_nil hf
          subst z
          exact Post.fin h rs (B := []) (by rw [if_pos hf]; exact .own r) gd.refl fun _ => Same.refl _
        · exact Post.fin h rs (B := []) (by rw [if_neg hf]; exact .vw r) gd.refl fun _ => Same.refl _) h
theorem se_mov {i : Nat} {e : Expr} (h : PE X e (tVar i)) : SE X e true (fun G => match slotT G i with
    | some t => .ok (.own t) (G.set i none)
    | none => .no) := fun W _ =>
  peImp (fun σ H Q ⟨F, G, A, rs, gd, h⟩ => by
    cases e' : slotT G i with
    | none => simp only [e'] at h; exact h.elim
    | some t =>
        simp only [e'] at h
        have e := slotT_some e'
        obtain ⟨v, B, C, hσ, r, rs2, pm⟩ := rs.opn e
        exact ⟨v, hσ, Post.fin h rs2 (.own r) (gd.refl.permR pm) fun _ => Same.refl _⟩) h
theorem give_slot {F H : Hp} {A : List Addr} {σ : L2.St} {G : Sl} {K : PySem.W.Frag} {i : Nat} {t : T} (rs : RS K F H σ G A) (gd : Good F H A) (e : G[i]? = some (some t)) :
    ∃ v F' D, σ[i]? = some (some v) ∧ Rp K F' H v t.fz [] ∧ RS K F' H σ (G.set i (some t.fz)) D ∧ Step F H A F' H D := by
  have hlt : i < G.length := (List.getElem?_eq_some_iff.mp e).1
  obtain ⟨v, B, C, hσ, r, rs2, pm⟩ := rs.opn e
  have nd := gd.nd
  rw [pm.nodup_iff] at nd
  obtain ⟨n1, n2, n3⟩ := List.nodup_append.mp nd
  have st : Step F H A (join F H B) H C := gd.give (fun a m => pm.mem_iff.mpr (List.mem_append_left _ m)) (fun a m => ⟨pm.mem_iff.mpr (List.mem_append_right _ m), fun z => n3 a z a m rfl⟩) n2
  have r2 : Rp K (join F H B) H v t.fz [] := r.toF st.ff st.tupS fun a m => join_in m
  have rs3 : RS K (join F H B) H σ (G.set i none) C := rs2.mono st.ff st.tupS fun _ _ => rfl
  obtain ⟨D, rs4, p4⟩ := rs3.cls (List.getElem?_set_self hlt) hσ r2
  rw [List.set_set] at rs4
  exact ⟨v, _, D, hσ, r2, rs4, st.permR p4.symm⟩
theorem se_shr {i : Nat} {e : Expr} (h : PE X e (tVar i)) : SE X e true (fun G => match slotT G i with
    | some t => .ok (.own t.fz) (G.set i (some t.fz))
    | none => .no) := fun W _ =>
  peImp (fun σ H Q ⟨F, G, A, rs, gd, h⟩ => by
    cases e' : slotT G i with
    | none => simp only [e'] at h; exact h.elim
    | some t =>
        simp only [e'] at h
        have e := slotT_some e'
        obtain ⟨v, F', D, hσ, r, rs2, st⟩ := give_slot rs gd e
        exact ⟨v, hσ, Post.fin h rs2 (.own r) st fun _ => Same.refl _⟩) h
theorem se_ref {i : Nat} {e : Expr} (h : PE X e (tVar i)) : SE X e false (fun G => match slotT G i with
    | some _ => .ok (.rf i) G
    | none => .no) := fun W _ =>
  peImp (fun σ H Q ⟨F, G, A, rs, gd, h⟩ => by
    cases e' : slotT G i with
    | none => simp only [e'] at h; exact h.elim
    | some t =>
        simp only [e'] at h
        have e := slotT_some e'
        obtain ⟨v, B, C, hσ, r, rs2, pm⟩ := rs.opn e
        exact ⟨v, hσ, Post.fin h rs (.rf hσ) gd.refl fun _ => Same.refl _⟩) h
/-! ### one operand -/
theorem se_neg (ha : SE X a qa fa) : SE X (.UnaryOp .USub a pos) qa (fun G => (fa G).bd fun x G1 => match x.tr with
    | some (.int i) => .ok (.own (.int (-i))) G1
    | _ => .no) := by
  intro W tk
  refine peImp (fun σ H Q ⟨F, G, A, rs, gd, h⟩ => ?_) (pe_un un_neg (ha W tk))
  refine one_ rs gd h id fun e1 x F1 H1 A1 B1 G1 h1 g1 rs1 v1 => ?_
  split at h1
  · rename_i i q1
    exact ⟨i, v1.int q1, PoE.sc' h1 g1 rs1 (.int _)⟩
  · exact h1.elim
def isNonT : T → Bool
  | .non => true
  | _ => false
theorem Rp.isNon {K : PySem.W.Frag} {F H : Hp} {v : V} {t : T} {B : List Addr} (h : Rp K F H v t B) (no : ∀ w, t = .opq w → False) : decide (v = V.non) = isNonT t := by
  cases h with
  | opq v => exact (no _ rfl).elim
  | non => rfl
  | _ => exact decide_eq_false (by intro z; cases z)
theorem t_isN {W : WX} {σ : L2.St} {H : Hp} {Q : VK} (h : tE X.K X.mg W qa (fun G => (fa G).bd fun x G1 => match x.tr with
    | some .non => .ok (.own (.bl true)) G1
    | some (.opq _) => .no
    | some _ => .ok (.own (.bl false)) G1
    | none => .no) σ H Q) : tIsN (tE X.K X.mg W qa fa) σ H Q := by
  obtain ⟨F, G, A, rs, gd, h⟩ := h
  refine one_ rs gd h id fun e1 x F1 H1 A1 B1 G1 h1 g1 rs1 v1 => ?_
  split at h1
  · rename_i q1
    obtain ⟨C, r⟩ := v1.look q1
    rw [r.isNon (by intro w z; cases z)]
    exact PoE.sc' h1 g1 rs1 (.bl _)
  · exact h1.elim
  · rename_i t n1 n2 q1
    obtain ⟨C, r⟩ := v1.look q1
    have e : isNonT t = false := by
      cases t <;> first | rfl | exact (n1 rfl).elim
    rw [r.isNon n2, e]
    exact PoE.sc' h1 g1 rs1 (.bl _)
  · exact h1.elim
theorem se_isN {j : Nat} {p2 : Pos} (ha : SE X a qa fa) : SE X (.Compare a [.Is] [.Constant .none j p2] pos) qa (fun G => (fa G).bd fun x G1 => match x.tr with
    | some .non => .ok (.own (.bl true)) G1
    | some (.opq _) => .no
    | some _ => .ok (.own (.bl false)) G1
    | none => .no) := fun W tk => peImp (fun _ _ _ h => t_isN h) (pe_cmp (pc_isN (ha W tk)) rfl)
theorem t_noN {W : WX} {σ : L2.St} {H : Hp} {Q : VK} (h : tE X.K X.mg W qa (fun G => (fa G).bd fun x G1 => match x.tr with
    | some .non => .ok (.own (.bl false)) G1
    | some (.opq _) => .no
    | some _ => .ok (.own (.bl true)) G1
    | none => .no) σ H Q) : tNotN (tE X.K X.mg W qa fa) σ H Q := by
  obtain ⟨F, G, A, rs, gd, h⟩ := h
  refine one_ rs gd h id fun e1 x F1 H1 A1 B1 G1 h1 g1 rs1 v1 => ?_
  split at h1
  · rename_i q1
    obtain ⟨C, r⟩ := v1.look q1
    rw [r.isNon (by intro w z; cases z)]
    exact PoE.sc' h1 g1 rs1 (.bl _)
  · exact h1.elim
  · rename_i t n1 n2 q1
    obtain ⟨C, r⟩ := v1.look q1
    have e : isNonT t = false := by
      cases t <;> first | rfl | exact (n1 rfl).elim
    rw [r.isNon n2, e]
    exact PoE.sc' h1 g1 rs1 (.bl _)
  · exact h1.elim
theorem se_noN {j : Nat} {p2 : Pos} (ha : SE X a qa fa) : SE X (.Compare a [.IsNot] [.Constant .none j p2] pos) qa (fun G => (fa G).bd fun x G1 => match x.tr with
    | some .non => .ok (.own (.bl false)) G1
    | some (.opq _) => .no
    | some _ => .ok (.own (.bl true)) G1
    | none => .no) := fun W tk => peImp (fun _ _ _ h => t_noN h) (pe_cmp (pc_notN (ha W tk)) rfl)
theorem t_isB {k : Bool} {W : WX} {σ : L2.St} {H : Hp} {Q : VK} (h : tE X.K X.mg W qa (fun G => (fa G).bd fun x G1 => match x.tr with
    | some (.bl b) => .ok (.own (.bl (decide (b = k)))) G1
    | _ => .no) σ H Q) : tOp rIsB (tE X.K X.mg W qa fa) (tC (.bl k)) σ H Q := by
  obtain ⟨F, G, A, rs, gd, h⟩ := h
  refine one_ rs gd h id fun e1 x F1 H1 A1 B1 G1 h1 g1 rs1 v1 => ?_
  split at h1
  · rename_i b q1
    exact ⟨b, k, v1.bl q1, rfl, PoE.sc' h1 g1 rs1 (.bl _)⟩
  · exact h1.elim
theorem se_isB {k : Bool} {j : Nat} {p2 : Pos} (ha : SE X a qa fa) : SE X (.Compare a [.Is] [.Constant (.bool k) j p2] pos) qa (fun G => (fa G).bd fun x G1 => match x.tr with
    | some (.bl b) => .ok (.own (.bl (decide (b = k)))) G1
    | _ => .no) := fun W tk => peImp (fun _ _ _ h => t_isB h) (pe_cmpR op_isBl (ha W tk) pe_bl (nomark _))
theorem t_noB {k : Bool} {W : WX} {σ : L2.St} {H : Hp} {Q : VK} (h : tE X.K X.mg W qa (fun G => (fa G).bd fun x G1 => match x.tr with
    | some (.bl b) => .ok (.own (.bl (!decide (b = k)))) G1
    | _ => .no) σ H Q) : tOp rNotB (tE X.K X.mg W qa fa) (tC (.bl k)) σ H Q := by
  obtain ⟨F, G, A, rs, gd, h⟩ := h
  refine one_ rs gd h id fun e1 x F1 H1 A1 B1 G1 h1 g1 rs1 v1 => ?_
  split at h1
  · rename_i b q1
    exact ⟨b, k, v1.bl q1, rfl, PoE.sc' h1 g1 rs1 (.bl _)⟩
  · exact h1.elim
theorem se_noB {k : Bool} {j : Nat} {p2 : Pos} (ha : SE X a qa fa) : SE X (.Compare a [.IsNot] [.Constant (.bool k) j p2] pos) qa (fun G => (fa G).bd fun x G1 => match x.tr with
    | some (.bl b) => .ok (.own (.bl (!decide (b = k)))) G1
    | _ => .no) := fun W tk => peImp (fun _ _ _ h => t_noB h) (pe_cmpR op_notBl (ha W tk) pe_bl (nomark _))
theorem se_rev {k : Nat} {p1 p2 p3 : Pos} (ha : SE X a qa fa) : SE X (.Subscript a (.Slice none none (some (.UnaryOp .USub (.Constant (.int 1) k p1) p2)) p3) pos) qa (fun G => (fa G).bd fun x G1 => R.of G1 (revop x)) := by
  intro W tk
  refine peImp (fun σ H Q ⟨F, G, A, rs, gd, h⟩ => ?_) (pe_revL (ha W tk))
  refine one_ rs gd h id fun e1 x F1 H1 A1 B1 G1 h1 g1 rs1 v1 => ?_
  obtain ⟨res, hb, h3⟩ := Post.ofSome h1
  exact revop_ok h3 g1 rs1 v1 hb
theorem truth_ok {K : PySem.W.Frag} {σ : L2.St} {F H : Hp} {v : V} {e : Ev} {B : List Addr} {k : Bool} (sm : Same F H) (h : Vr K F H σ v e B) (ht : e.truth = some k) : TruV K v H k := by
  unfold Ev.truth at ht
  cases et : e.tr with
  | none => rw [et] at ht; cases ht
  | some t =>
    rw [et] at ht
    obtain ⟨C, r⟩ := h.look et
    exact r.truth sm ht
/-! ### arguments -/
theorem sl_nil : SL X [] true (fun G => .ok [] G) := fun W _ =>
  paImp (fun σ H Q ⟨F, G, A, rs, gd, h⟩ => Post.fin h rs .nil gd.refl fun _ => Same.refl _) pa_nil
theorem sl_cons (hs : starEach (a :: es) X.env = (false, eval a X.env) :: starEach es X.env) (ha : SE X a qa fa) (hl : SL X es qb fl) : SL X (a :: es) (qa && qb) (fun G => (fa G).bd fun v G1 => (fl G1).bd fun vs G2 => if (v.firm || qb) = true then (if (!qa || !v.isRf) = true then .ok (v :: vs) G2 else .no) else .no) := by
  intro W tk
  refine paImp (fun σ H Q ⟨F, G, A, rs, gd, h⟩ => ?_) (pa_cons (ha W tk) (hl W tk) hs)
  refine oneL_ (k := fun v vs G2 => if (!qa || !v.isRf) = true then .ok (v :: vs) G2 else .no) rs gd h and2 fun e1 e2 x y F2 H2 A2 B1 B2 G2 h2 g2 rs2 v1 v2 => ?_
  by_cases hc : (!qa || !e1.isRf) = true
  · simp only [if_pos hc] at h2
    exact Post.fin h2 rs2 (.cons v1 v2) (by rw [List.append_assoc]; exact g2.refl) fun _ => Same.refl _
  · simp only [if_neg hc] at h2
    exact h2.elim
theorem allOwn_ok {K : PySem.W.Frag} {σ : L2.St} {F H : Hp} : ∀ {vs : List V} {es : List Ev} {ts : List T} {B : List Addr}, VrL K F H σ vs es B → allOwn es = some ts → RpL K F H vs ts B
  | _, [], _, _, .nil, e => by simp only [allOwn, Option.some.injEq] at e; subst e; exact .nil
  | _, .own t :: es, _, _, .cons h r, e => by
    cases q : allOwn es with
    | none => simp [allOwn, q] at e
    | some us =>
      simp only [allOwn, q, Option.map_some, Option.some.injEq] at e
      subst e
      cases h with
      | own h => exact .cons h (allOwn_ok r q)
  | _, .vw _ :: _, _, _, _, e => by simp [allOwn] at e
  | _, .rf _ :: _, _, _, _, e => by simp [allOwn] at e
theorem se_tup {k : Nat} (hl : SL X es qa fl) : SE X (.Tuple es k pos) qa (fun G => (fl G).bd fun vs G1 => if vs.length ≤ sizeLine then R.of G1 ((allOwn vs).map fun ts => .own (.tup ts)) else .no) := by
  intro W tk
  refine peImp (fun σ H Q ⟨F, G, A, rs, gd, h⟩ => ?_) (pe_tup (hl W tk))
  refine args_ rs gd h id fun e1 x F1 H1 A1 B1 G1 h1 g1 rs1 v1 _ => ?_
  by_cases hz : e1.length ≤ sizeLine
  · rw [if_pos hz] at h1
    obtain ⟨res, hb, h3⟩ := Post.ofSome h1
    cases eo : allOwn e1 with
    | none => rw [eo] at hb; cases hb
    | some ts =>
      rw [eo] at hb
      cases hb
      have r := allOwn_ok v1 eo
      refine ⟨?_, fun p hp => PoE.newT h3 g1 rs1 r (sub_one' g1 (fun _ m => m) id) hp⟩
      have : ∀ {vs : List V} {es : List Ev} {B : List Addr}, VrL X.K F1 H1 σ vs es B → vs.length = es.length := by
        intro vs es B hv
        induction hv with
        | nil => rfl
        | cons _ _ ih => rw [List.length_cons, List.length_cons, ih]
      rw [this v1]; exact hz
  · rw [if_neg hz] at h1
    exact h1.elim
end
end QX

set_option Elab.async false
set_option linter.all false
set_option maxRecDepth 100000
/-! expressions, further on -/
namespace QX
open PySem PySem.Spec L2

section
variable {K : PySem.W.Frag} {mg : MG} {W : WX} {q : Bool} {σ : L2.St} {F F' H H' : Hp} {A A2 B B1 B2 : List Addr} {G : Sl}
theorem Post.less {α β : Type} {rel : Hp → Hp → β → α → List Addr → Prop} {r : R α} {Q : β → Hp → Prop} (h : Post rel K mg W q σ F H (B ++ A) r Q) : Post rel K mg W q σ F H A r Q := by
  cases r with
  | no => exact h
  | exc c p G => exact fun F' H' A' C d rs st e mgc py => h F' H' A' C d rs (st.more fun a m => List.mem_append_right _ m) e mgc py
  | ok a G => exact fun v F' H' A' B rs rl st e => h v F' H' A' B rs rl (st.more fun a m => List.mem_append_right _ m) e
theorem Post.weaken {α β : Type} {rel : Hp → Hp → β → α → List Addr → Prop} {q' : Bool} {r : R α} {Q : β → Hp → Prop} (h : Post rel K mg W q σ F H A r Q) (hq : q = true → q' = true) : Post rel K mg W q' σ F H A r Q := by
  cases r with
  | no => exact h
  | exc c p G => exact fun F' H' A' C d rs st e mgc py => h F' H' A' C d rs st (fun z => e (hq z)) mgc py
  | ok a G => exact fun v F' H' A' B rs rl st e => h v F' H' A' B rs rl st (fun z => e (hq z))
/-- go on with another expression, what was ours of the first dropped -/
theorem goE {qb : Bool} {f : Sl → R Ev} {Q : VK} (g1 : Good F H (B ++ A)) (rs : RS K F H σ G A) (h : Post (relE K σ) K mg W q σ F H (B ++ A) (f G) Q) (hq : q = true → qb = true) : tE K mg W qb f σ H Q :=
  ⟨F, G, A, rs, g1.right, (Post.less h).weaken hq⟩
theorem goT {qb : Bool} {f : Sl → R Bool} {Q : Bool → Hp → Prop} (g1 : Good F H (B ++ A)) (rs : RS K F H σ G A) (h : Post relB K mg W q σ F H (B ++ A) (f G) Q) (hq : q = true → qb = true) : tTs K mg W qb f σ H Q :=
  ⟨F, G, A, rs, g1.right, (Post.less h).weaken hq⟩
end

section
variable {X : Cx} {a b c e : Expr} {es : List Expr} {qa qb qc : Bool} {fa fb fc : Sl → R Ev} {fl : Sl → R (List Ev)} {ta tb : Sl → R Bool} {pos p2 : Pos}

/-! ### slices -/
theorem se_sl0 (ha : SE X a qa fa) : SE X (.Subscript a (.Slice none none none p2) pos) qa (fun G => (fa G).bd fun x G1 => R.of G1 (slop x none none)) := by
  intro W tk
  refine peImp (fun σ H Q ⟨F, G, A, rs, gd, h⟩ => ?_) (pe_slice rSl_ok (ha W tk) po_none po_none)
  refine one_ rs gd h id fun e1 x F1 H1 A1 B1 G1 h1 g1 rs1 v1 => ?_
  obtain ⟨res, hb, h3⟩ := Post.ofSome h1
  exact slop_ok (B2 := []) h3 g1 rs1 v1 hb
theorem se_slL (ha : SE X a qa fa) (hb : SE X b qb fb) : SE X (.Subscript a (.Slice (some b) none none p2) pos) (qa && qb) (fun G => (fa G).bd fun x G1 => (fb G1).bd fun y G2 => if (x.firm || qb) = true then R.of G2 (slLo x y) else .no) := by
  intro W tk
  refine peImp (fun σ H Q ⟨F, G, A, rs, gd, h⟩ => ?_) (pe_slice rSl_ok (ha W tk) (po_some (hb W tk)) po_none)
  refine two_ rs gd h and2 fun e1 e2 x y F2 H2 A2 B1 B2 G2 h2 g2 rs2 v1 v2 => ?_
  obtain ⟨res, hb, h3⟩ := Post.ofSome h2
  unfold slLo at hb
  split at hb
  · rename_i i q2
    exact ⟨i, v2.int q2, slop_ok h3 g2 rs2 v1 hb⟩
  · cases hb
theorem se_slH (ha : SE X a qa fa) (hb : SE X b qb fb) : SE X (.Subscript a (.Slice none (some b) none p2) pos) (qa && qb) (fun G => (fa G).bd fun x G1 => (fb G1).bd fun y G2 => if (x.firm || qb) = true then R.of G2 (slHi x y) else .no) := by
  intro W tk
  refine peImp (fun σ H Q ⟨F, G, A, rs, gd, h⟩ => ?_) (pe_slice rSl_ok (ha W tk) po_none (po_some (hb W tk)))
  refine two_ rs gd h and2 fun e1 e2 x y F2 H2 A2 B1 B2 G2 h2 g2 rs2 v1 v2 => ?_
  obtain ⟨res, hb, h3⟩ := Post.ofSome h2
  unfold slHi at hb
  split at hb
  · rename_i i q2
    exact ⟨i, v2.int q2, slop_ok h3 g2 rs2 v1 hb⟩
  · cases hb
/-- three operands -/
theorem three_ {K : PySem.W.Frag} {mg : MG} {W : WX} {q : Bool} {σ : L2.St} {F H : Hp} {A : List Addr} {G : Sl} {α β : Type} {rel : Hp → Hp → β → α → List Addr → Prop} {f g l : Sl → R Ev} {k1 : Ev → Ev → Option Bool} {k0 : Ev → Ev → Sl → R α} {k : Ev → Ev → Ev → Sl → R α} {Q : β → Hp → Prop} {Rn : V → V → Hp → Prop} {Rv : V → V → V → Hp → Prop} (rs : RS K F H σ G A) (gd : Good F H A)
    (h : Post rel K mg W q σ F H A ((f G).bd fun e1 G1 => (g G1).bd fun e2 G2 => if (e1.firm || qb) = true then (match k1 e1 e2 with
      | some true => (l G2).bd fun e3 G3 => if ((e1.firm || qc) && e2.firm) = true then k e1 e2 e3 G3 else .no
      | some false => k0 e1 e2 G2
      | none => .no) else .no) Q) (hq : q = true → (qa = true ∧ qb = true) ∧ qc = true)
    (mid : ∀ e1 e2 x y F2 H2 A2 B1 B2 G2 kk, k1 e1 e2 = some kk → Good F2 H2 (B1 ++ (B2 ++ A2)) → RS K F2 H2 σ G2 A2 → Vr K F2 H2 σ x e1 B1 → Vr K F2 H2 σ y e2 B2 →
      (kk = false → Post rel K mg W q σ F2 H2 (B1 ++ (B2 ++ A2)) (k0 e1 e2 G2) Q) → (kk = true → tE K mg W qc l σ H2 fun z H3 => Rv x y z H3) → Rn x y H2)
    (fin : ∀ e1 e2 e3 x y z F2 H2 A2 B1 B2 B3 G3, Post rel K mg W q σ F2 H2 ((B1 ++ B2) ++ (B3 ++ A2)) (k e1 e2 e3 G3) Q → Good F2 H2 ((B1 ++ B2) ++ (B3 ++ A2)) → RS K F2 H2 σ G3 A2 → Vr K F2 H2 σ x e1 B1 → Vr K F2 H2 σ y e2 B2 → Vr K F2 H2 σ z e3 B3 → Rv x y z H2) :
    tE K mg W qa f σ H fun x H1 => tE K mg W qb g σ H1 fun y H2 => Rn x y H2 := by
  refine two_ (qb := qb) rs gd h (fun z => (hq z).1) fun e1 e2 x y F2 H2 A2 B1 B2 G2 h2 g2 rs2 v1 v2 => ?_
  cases ek : k1 e1 e2 with
  | none => simp only [ek] at h2; exact h2.elim
  | some kk =>
    refine mid e1 e2 x y F2 H2 A2 B1 B2 G2 kk ek g2 rs2 v1 v2 (fun z => by subst z; simp only [ek] at h2; exact h2) fun z => ?_
    subst z
    simp only [ek] at h2
    have g2' : Good F2 H2 ((B1 ++ B2) ++ A2) := by rw [List.append_assoc]; exact g2
    refine ⟨F2, G2, A2, rs2, g2'.right, Post.bind (B0 := B1 ++ B2) (rel' := relE K σ) (q2 := q) (by rw [List.append_assoc]; exact h2) g2' (fun b m => (List.mem_append.mp m).elim (v1.at b) (v2.at b)) (fun z => ⟨(hq z).2, z⟩) fun e3 G3 z F3 H3 A3 B3 _ rs3 v3 st3 sm3 hk g3 h3 => ?_⟩
    by_cases hc : ((e1.firm || qc) && e2.firm) = true
    · rw [if_pos hc] at h3
      obtain ⟨c1, c2⟩ := and2 hc
      have v1' : Vr K F3 H3 σ x e1 B1 := v1.keep st3.ff st3.tupS (fun b m => hk b (List.mem_append_left _ m)) (by
        cases z : e1.firm with
        | true => exact .inl rfl
        | false => rw [z, Bool.false_or] at c1; exact .inr (sm3 c1))
      have v2' : Vr K F3 H3 σ y e2 B2 := v2.keep st3.ff st3.tupS (fun b m => hk b (List.mem_append_right _ m)) (.inl c2)
      exact fin e1 e2 e3 x y z F3 H3 A3 B1 B2 B3 G3 h3 g3 rs3 v1' v2' v3
    · rw [if_neg hc] at h3
      exact h3.elim
theorem assoc3 {F H : Hp} {B1 B2 B3 A : List Addr} (g : Good F H ((B1 ++ B2) ++ (B3 ++ A))) : Good F H (B1 ++ ((B2 ++ B3) ++ A)) := by
  have e : (B1 ++ B2) ++ (B3 ++ A) = B1 ++ ((B2 ++ B3) ++ A) := by simp [List.append_assoc]
  rw [← e]; exact g
theorem se_slB (ha : SE X a qa fa) (hb : SE X b qb fb) (hc : SE X c qc fc) : SE X (.Subscript a (.Slice (some b) (some c) none p2) pos) (qa && (qb && qc)) (fun G => (fa G).bd fun x G1 => (fb G1).bd fun y G2 => if (x.firm || qb) = true then (match intq x y with
    | some true => (fc G2).bd fun z G3 => if ((x.firm || qc) && y.firm) = true then R.of G3 (slBo x y z) else .no
    | some false => .no
    | none => .no) else .no) := by
  intro W tk
  refine peImp (fun σ H Q ⟨F, G, A, rs, gd, h⟩ => ?_) (pe_slice rSl_ok (ha W tk) (po_some (hb W tk)) (po_some (hc W tk)))
  refine three_ (qa := qa) (qb := qb) (qc := qc) (k0 := fun _ _ _ => .no) (k := fun x y z G3 => R.of G3 (slBo x y z)) (Rn := fun x y H2 => ∃ i, y = .int i ∧ tE X.K X.mg W qc fc σ H2 fun z H3 => ∃ j, z = .int j ∧ rSl X.K x (some i) (some j) H3 Q)
    (Rv := fun x y z H3 => ∀ i, y = .int i → ∃ j, z = .int j ∧ rSl X.K x (some i) (some j) H3 Q) rs gd h (fun z => ⟨⟨(and2 z).1, (and2 (and2 z).2).1⟩, (and2 (and2 z).2).2⟩) ?_ ?_
  · intro e1 e2 x y F2 H2 A2 B1 B2 G2 kk ek g2 rs2 v1 v2 h1 h2
    unfold intq at ek
    split at ek
    · rename_i i q2
      cases ek
      have ey := v2.int q2
      obtain ⟨F, G, A, rs, gd, h⟩ := h2 rfl
      refine ⟨i, ey, F, G, A, rs, gd, ?_⟩
      cases hh : fc G with
      | no => rw [hh] at h; exact h
      | exc c p G' => rw [hh] at h; exact h
      | ok e G' => rw [hh] at h; exact fun v F' H' A' B a b c d => h v F' H' A' B a b c d i ey
    · cases ek
  · intro e1 e2 e3 x y z F2 H2 A2 B1 B2 B3 G3 h3 g3 rs3 v1 v2 v3 i0 ei
    obtain ⟨res, hb, h4⟩ := Post.ofSome h3
    unfold slBo at hb
    split at hb
    · rename_i i j q2 q3
      have e : (B1 ++ B2) ++ (B3 ++ A2) = B1 ++ ((B2 ++ B3) ++ A2) := by simp [List.append_assoc]
      rw [e] at h4 g3
      have e3 : i0 = i := by
        have := v2.int q2
        rw [ei] at this
        exact V.int.inj this
      subst e3
      exact ⟨j, v3.int q3, slop_ok h4 g3 rs3 v1 hb⟩
    · cases hb
theorem three_mono {K : PySem.W.Frag} {mg : MG} {W : WX} {q : Bool} {σ : L2.St} {H : Hp} {f : Sl → R Ev} {Q Q' : VK} (h : tE K mg W q f σ H Q) (hq : ∀ v H', Q v H' → Q' v H') : tE K mg W q f σ H Q' := by
  obtain ⟨F, G, A, rs, gd, h⟩ := h
  refine ⟨F, G, A, rs, gd, ?_⟩
  cases hh : f G with
  | no => rw [hh] at h; exact h
  | exc c p G' => rw [hh] at h; exact h
  | ok e G' => rw [hh] at h; exact fun v F' H' A' B a b c d => hq _ _ (h v F' H' A' B a b c d)
theorem sub3 {F H : Hp} {B1 B2 B3 A : List Addr} (g : Good F H ((B1 ++ B2) ++ (B3 ++ A))) : Sub A ((B1 ++ B2) ++ (B3 ++ A)) := sub_right g
theorem se_chn (op op' : Cop) (hu : X.A.units + 65 < cLine) (hm : lastMarks [op.py, op'.py] [b, c] = false) (ha : SE X a qa fa) (hb : SE X b qb fb) (hc : SE X c qc fc) : SE X (.Compare a [op.py, op'.py] [b, c] pos) (qa && (qb && qc))
    (fun G => (fa G).bd fun x G1 => (fb G1).bd fun y G2 => if (x.firm || qb) = true then (match cmpop op x y with
    | some true => (fc G2).bd fun z G3 => if ((x.firm || qc) && y.firm) = true then R.of G3 ((cmpop op' y z).map fun k => .own (.bl k)) else .no
    | some false => .ok (.own (.bl false)) G2
    | none => .no) else .no) := by
  intro W tk
  refine peImp (fun σ H Q ⟨F, G, A, rs, gd, h⟩ => ?_) (pe_chain (rCmp_ok hu op) (rCmp_ok hu op') (ha W tk) (hb W tk) (hc W tk) hm)
  refine three_ (qa := qa) (qb := qb) (qc := qc) (rel := relE X.K σ) (Q := Q) (k1 := cmpop op) (l := fc) (k0 := fun _ _ G2 => .ok (Ev.own (T.bl false)) G2) (k := fun x y z G3 => R.of G3 ((cmpop op' y z).map fun k => Ev.own (T.bl k))) (Rv := fun x y z H3 => rCmp X.K op' y z H3 Q) rs gd h (fun z => ⟨⟨(and2 z).1, (and2 (and2 z).2).1⟩, (and2 (and2 z).2).2⟩) ?_ ?_
  · intro e1 e2 x y F2 H2 A2 B1 B2 G2 kk ek g2 rs2 v1 v2 h1 h2
    refine cmpop_ok g2.sub v1 v2 ek ⟨kk, rfl, ?_⟩
    cases kk with
    | true => rw [if_pos rfl]; exact h2 rfl
    | false => rw [if_neg Bool.false_ne_true]; exact PoE.sc (h1 rfl) g2 rs2 (.bl false)
  · intro e1 e2 e3 x y z F2 H2 A2 B1 B2 B3 G3 h3 g3 rs3 v1 v2 v3
    obtain ⟨res, hb, h4⟩ := Post.ofSome h3
    cases ek : cmpop op' e2 e3 with
    | none => rw [ek] at hb; cases hb
    | some k =>
      rw [ek] at hb
      cases hb
      exact cmpop_ok g3.sub v2 v3 ek (PoE.here (B := []) h4 g3 rs3 (.bl k) (sub3 g3))
theorem st_chn (op op' : Cop) (hu : X.A.units + 65 < cLine) (hm : lastMarks [op.py, op'.py] [b, c] = false) (ha : SE X a qa fa) (hb : SE X b qb fb) (hc : SE X c qc fc) : ST X (.Compare a [op.py, op'.py] [b, c] pos) (qa && (qb && qc))
    (fun G => (fa G).bd fun x G1 => (fb G1).bd fun y G2 => if (x.firm || qb) = true then (match cmpop op x y with
    | some true => (fc G2).bd fun z G3 => if ((x.firm || qc) && y.firm) = true then R.of G3 (cmpop op' y z) else .no
    | some false => .ok false G2
    | none => .no) else .no) := by
  intro W tk
  refine ptImp (fun σ H Q ⟨F, G, A, rs, gd, h⟩ => ?_) (pt_chain (rCmp_ok hu op) (rCmp_ok hu op') (ha W tk) (hb W tk) (hc W tk) hm)
  refine three_ (qa := qa) (qb := qb) (qc := qc) (rel := relB) (Q := Q) (k1 := cmpop op) (l := fc) (k0 := fun _ _ G2 => .ok false G2) (k := fun x y z G3 => R.of G3 (cmpop op' y z)) (Rv := fun x y z H3 => rCmp X.K op' y z H3 fun x H' => ∃ k, x = .bl k ∧ Q k H') rs gd h (fun z => ⟨⟨(and2 z).1, (and2 (and2 z).2).1⟩, (and2 (and2 z).2).2⟩) ?_ ?_
  · intro e1 e2 x y F2 H2 A2 B1 B2 G2 kk ek g2 rs2 v1 v2 h1 h2
    refine cmpop_ok g2.sub v1 v2 ek ⟨kk, rfl, ?_⟩
    cases kk with
    | true => rw [if_pos rfl]; exact h2 rfl
    | false => rw [if_neg Bool.false_ne_true]; exact ⟨false, rfl, Post.fin (h1 rfl) rs2 ⟨rfl, rfl⟩ (g2.refl.drop (sub_right g2).mem (sub_right g2).nd) fun _ => Same.refl _⟩
  · intro e1 e2 e3 x y z F2 H2 A2 B1 B2 B3 G3 h3 g3 rs3 v1 v2 v3
    obtain ⟨res, hb, h4⟩ := Post.ofSome h3
    exact cmpop_ok g3.sub v2 v3 hb ⟨res, rfl, Post.fin h4 rs3 ⟨rfl, rfl⟩ (g3.refl.drop (sub_right g3).mem (sub_right g3).nd) fun _ => Same.refl _⟩

/-! ### truth -/
def trT (f : Sl → R Ev) : Sl → R Bool := fun G => (f G).bd fun v G1 => R.of G1 v.truth
theorem st_of (he : ∀ whole, isTrue a X.env whole = (do let v ← whole; standAt a.pos; holding [v] (truthy v))) (ha : SE X a qa fa) : ST X a qa (trT fa) := by
  intro W tk
  refine ptImp (fun σ H Q ⟨F, G, A, rs, gd, h⟩ => ?_) (pt_truth (ha W tk) he)
  refine one_ rs gd h id fun e1 x F1 H1 A1 B1 G1 h1 g1 rs1 v1 => ?_
  obtain ⟨k, hb, h3⟩ := Post.ofSome h1
  exact ⟨k, truth_ok g1.sub v1 hb, Post.fin h3 rs1 ⟨rfl, rfl⟩ (g1.refl.drop (fun _ m => List.mem_append_right _ m) g1.right.nd) fun _ => Same.refl _⟩
theorem st_eq {e : Expr} {q : Bool} {f g : Sl → R Bool} (h : ST X e q f) (e' : ∀ G, f G = g G) : ST X e q g := (funext e' : f = g) ▸ h
theorem se_eq {e : Expr} {q : Bool} {f g : Sl → R Ev} (h : SE X e q f) (e' : ∀ G, f G = g G) : SE X e q g := (funext e' : f = g) ▸ h
theorem st_B {W' : WX} {t : WX → TE} {q : Bool} {f : Sl → R Ev} (hq : ∀ W, Takes X W → PT X e (fun σ H Q => t W σ H fun x H1 => ∃ c, x = .bl c ∧ Q c H1)) (hse : ∀ W σ H Q, tE X.K X.mg W q f σ H Q → t W σ H Q) (hb : ∀ G v G1, f G = .ok v G1 → ∃ k, v = .own (.bl k)) : ST X e q (trT f) := by
  intro W tk
  refine ptImp (fun σ H Q ⟨F, G, A, rs, gd, h⟩ => hse W σ H _ ⟨F, G, A, rs, gd, ?_⟩) (hq W tk)
  unfold trT at h
  cases ef : f G with
  | no => rw [ef] at h; exact h
  | exc c p G' => rw [ef] at h; exact h
  | ok v G1 =>
    rw [ef] at h
    obtain ⟨k, rfl⟩ := hb G v G1 ef
    intro x F1 H1 A1 B1 rs1 v1 st1 sm1
    cases v1 with
    | own r =>
      cases r
      exact ⟨k, rfl, Post.fin h rs1 ⟨rfl, rfl⟩ st1 sm1⟩
theorem st_not (ha : ST X a qa ta) : ST X (.UnaryOp .Not a pos) qa (fun G => (ta G).bd fun k G1 => .ok (!k) G1) := by
  intro W tk
  refine ptImp (fun σ H Q ⟨F, G, A, rs, gd, h⟩ => ?_) (pt_not (ha W tk))
  refine ⟨F, G, A, rs, gd, Post.bind (B0 := []) (rel' := relB) (q2 := qa) h gd (by simp) (fun z => ⟨z, z⟩) fun k G1 x F1 H1 A1 B1 _ rs1 v1 _ _ _ g1 h1 => ?_⟩
  obtain ⟨rfl, rfl⟩ := v1
  exact Post.fin h1 rs1 ⟨rfl, rfl⟩ g1.refl fun _ => Same.refl _
theorem se_not (ha : SE X a qa fa) : SE X (.UnaryOp .Not a pos) qa (fun G => (fa G).bd fun x G1 => match x.truth with
    | some k => .ok (.own (.bl (!k))) G1
    | none => .no) := by
  intro W tk
  refine peImp (fun σ H Q ⟨F, G, A, rs, gd, h⟩ => ?_) (pe_notT (ha W tk))
  refine one_ rs gd h id fun e1 x F1 H1 A1 B1 G1 h1 g1 rs1 v1 => ?_
  cases et : e1.truth with
  | none => simp only [et] at h1; exact h1.elim
  | some k =>
    simp only [et] at h1
    exact ⟨k, truth_ok g1.sub v1 et, PoE.sc' h1 g1 rs1 (.bl _)⟩
theorem se_and2 (ha : SE X a qa fa) (hb : SE X (.BoolOp .And (b :: es) pos) qb fb) : SE X (.BoolOp .And (a :: b :: es) pos) (qa && qb) (logic true fa fb) := by
  intro W tk
  refine peImp (fun σ H Q ⟨F, G, A, rs, gd, h⟩ => ?_) (pe_andT (ha W tk) (hb W tk))
  refine one_ rs gd h (fun z => (and2 z).1) fun e1 x F1 H1 A1 B1 G1 h1 g1 rs1 v1 => ?_
  cases et : e1.truth with
  | none => simp only [et] at h1; exact h1.elim
  | some k =>
    simp only [et] at h1
    refine ⟨k, truth_ok g1.sub v1 et, ?_⟩
    cases k with
    | true => rw [if_pos rfl]; exact goE g1 rs1 h1 fun z => (and2 z).2
    | false => rw [if_neg Bool.false_ne_true]; exact Post.fin h1 rs1 v1 g1.refl fun _ => Same.refl _
theorem se_or2 (ha : SE X a qa fa) (hb : SE X (.BoolOp .Or (b :: es) pos) qb fb) : SE X (.BoolOp .Or (a :: b :: es) pos) (qa && qb) (logic false fa fb) := by
  intro W tk
  refine peImp (fun σ H Q ⟨F, G, A, rs, gd, h⟩ => ?_) (pe_orT (ha W tk) (hb W tk))
  refine one_ rs gd h (fun z => (and2 z).1) fun e1 x F1 H1 A1 B1 G1 h1 g1 rs1 v1 => ?_
  cases et : e1.truth with
  | none => simp only [et] at h1; exact h1.elim
  | some k =>
    simp only [et] at h1
    refine ⟨k, truth_ok g1.sub v1 et, ?_⟩
    cases k with
    | true => rw [if_pos rfl]; exact Post.fin h1 rs1 v1 g1.refl fun _ => Same.refl _
    | false => rw [if_neg Bool.false_ne_true]; exact goE g1 rs1 h1 fun z => (and2 z).2
theorem se_bo1 {op : BoolOp} (ha : SE X a qa fa) : SE X (.BoolOp op [a] pos) qa fa := fun W tk => pe_one (ha W tk)
/-- a chain of tests -/
def logT (andq : Bool) (m : Sl → R Bool) (rest : Sl → R Bool) : Sl → R Bool := fun G => (m G).bd fun k G1 => if k = andq then rest G1 else .ok k G1
def SW (X : Cx) (e : Expr) (q : Bool) (f : Sl → R Bool) : Prop := ∀ W, Takes X W → PW X e (tTs X.K X.mg W q f)
theorem SW.st {f : Sl → R Bool} (h : SW X e qa f) : ST X e qa f := fun W tk => (h W tk).pt
theorem pwImp {t t' : TT} (h : ∀ σ H Q, t' σ H Q → t σ H Q) (p : PW X e t) : PW X e t' := ⟨fun wh pins s σ H Q I w => p.run wh pins s σ H Q I (h _ _ _ w)⟩
theorem sw_and2 (ha : ST X a qa ta) (hb : SW X (.BoolOp .And (b :: es) pos) qb tb) : SW X (.BoolOp .And (a :: b :: es) pos) (qa && qb) (logT true ta tb) := by
  intro W tk
  refine pwImp (fun σ H Q ⟨F, G, A, rs, gd, h⟩ => ?_) (pw_and (ha W tk) (hb W tk))
  refine ⟨F, G, A, rs, gd, Post.bind (B0 := []) (rel' := relB) (q2 := qa && qb) h gd (by simp) (fun z => ⟨(and2 z).1, z⟩) fun k G1 x F1 H1 A1 B1 _ rs1 v1 _ _ _ g1 h1 => ?_⟩
  obtain ⟨rfl, rfl⟩ := v1
  cases x with
  | true => rw [if_pos rfl] at h1 ⊢; exact goT (B := []) g1 rs1 h1 fun z => (and2 z).2
  | false => rw [if_neg Bool.false_ne_true] at h1 ⊢; exact Post.fin h1 rs1 ⟨rfl, rfl⟩ g1.refl fun _ => Same.refl _
theorem sw_or2 (ha : ST X a qa ta) (hb : SW X (.BoolOp .Or (b :: es) pos) qb tb) : SW X (.BoolOp .Or (a :: b :: es) pos) (qa && qb) (logT false ta tb) := by
  intro W tk
  refine pwImp (fun σ H Q ⟨F, G, A, rs, gd, h⟩ => ?_) (pw_or (ha W tk) (hb W tk))
  refine ⟨F, G, A, rs, gd, Post.bind (B0 := []) (rel' := relB) (q2 := qa && qb) h gd (by simp) (fun z => ⟨(and2 z).1, z⟩) fun k G1 x F1 H1 A1 B1 _ rs1 v1 _ _ _ g1 h1 => ?_⟩
  obtain ⟨rfl, rfl⟩ := v1
  cases x with
  | true => rw [if_neg (by decide)] at h1; rw [if_pos rfl]; exact Post.fin h1 rs1 ⟨rfl, rfl⟩ g1.refl fun _ => Same.refl _
  | false => rw [if_pos rfl] at h1; rw [if_neg Bool.false_ne_true]; exact goT (B := []) g1 rs1 h1 fun z => (and2 z).2
theorem sw_and1 (ha : ST X a qa ta) : SW X (.BoolOp .And [a] pos) qa ta := fun W tk => pw_and1 (ha W tk)
theorem sw_or1 (ha : ST X a qa ta) : SW X (.BoolOp .Or [a] pos) qa ta := fun W tk => pw_or1 (ha W tk)
theorem se_ite (hc : ST X c qc ta) (ha : SE X a qa fa) (hb : SE X b qb fb) : SE X (.IfExp c a b pos) (qc && (qa && qb)) (fun G => (ta G).bd fun k G1 => if k = true then fa G1 else fb G1) := by
  intro W tk
  refine peImp (fun σ H Q ⟨F, G, A, rs, gd, h⟩ => ?_) (pe_ifExp (hc W tk) (ha W tk) (hb W tk))
  refine ⟨F, G, A, rs, gd, Post.bind (B0 := []) (rel' := relB) (q2 := qc && (qa && qb)) h gd (by simp) (fun z => ⟨(and2 z).1, z⟩) fun k G1 x F1 H1 A1 B1 _ rs1 v1 _ _ _ g1 h1 => ?_⟩
  obtain ⟨rfl, rfl⟩ := v1
  cases x with
  | true => rw [if_pos rfl] at h1 ⊢; exact goE (B := []) g1 rs1 h1 fun z => (and2 (and2 z).2).1
  | false => rw [if_neg Bool.false_ne_true] at h1 ⊢; exact goE (B := []) g1 rs1 h1 fun z => (and2 (and2 z).2).2

/-! ### lists -/
theorem VrL.length {K : PySem.W.Frag} {F H : Hp} {σ : L2.St} : ∀ {vs : List V} {es : List Ev} {B : List Addr}, VrL K F H σ vs es B → vs.length = es.length
  | _, _, _, .nil => rfl
  | _, _, _, .cons _ r => by rw [List.length_cons, List.length_cons, VrL.length r]
theorem allTr_ok {K : PySem.W.Frag} {σ : L2.St} {F H : Hp} : ∀ {vs : List V} {es : List Ev} {ts : List T} {B : List Addr}, VrL K F H σ vs es B → allTr es = some ts → ∃ C, RpL K F H vs ts C
  | _, [], _, _, .nil, e => by simp only [allTr, Option.some.injEq] at e; subst e; exact ⟨_, .nil⟩
  | _, .own t :: es, _, _, .cons h r, e => by
    cases q : allTr es with
    | none => simp [allTr, q] at e
    | some us =>
      simp only [allTr, q, Option.map_some, Option.some.injEq] at e
      subst e
      obtain ⟨C, r'⟩ := allTr_ok r q
      cases h with
      | own h => exact ⟨_, .cons h r'⟩
  | _, .vw t :: es, _, _, .cons h r, e => by
    cases q : allTr es with
    | none => simp [allTr, q] at e
    | some us =>
      simp only [allTr, q, Option.map_some, Option.some.injEq] at e
      subst e
      obtain ⟨C, r'⟩ := allTr_ok r q
      cases h with
      | vw h => exact ⟨_, .cons h r'⟩
  | _, .rf _ :: _, _, _, _, e => by simp [allTr] at e
theorem se_lst (hl : SL X es qa fl) : SE X (.List es pos) qa (fun G => (fl G).bd fun vs G1 => if vs.length ≤ sizeLine then (match allOwn vs with
    | some ts => .ok (.own (.lst true ts)) G1
    | none => R.of G1 ((allTr vs).map fun ts => .vw (.lst true ts))) else .no) := by
  intro W tk
  refine peImp (fun σ H Q ⟨F, G, A, rs, gd, h⟩ => ?_) (pe_lst (hl W tk))
  refine args_ rs gd h id fun e1 x F1 H1 A1 B1 G1 h1 g1 rs1 v1 _ => ?_
  by_cases hz : e1.length ≤ sizeLine
  · rw [if_pos hz] at h1
    refine ⟨by rw [v1.length]; exact hz, fun p hp => ?_⟩
    cases eo : allOwn e1 with
    | some ts =>
      simp only [eo] at h1
      exact PoE.newL h1 g1 rs1 (allOwn_ok v1 eo) (sub_one' g1 (fun _ m => m) id) hp
    | none =>
      simp only [eo] at h1
      obtain ⟨res, hb, h3⟩ := Post.ofSome h1
      cases et : allTr e1 with
      | none => rw [et] at hb; cases hb
      | some ts =>
        rw [et] at hb
        cases hb
        obtain ⟨C, r⟩ := allTr_ok v1 et
        have sm : Same H1 (upd H1 p (.lst x)) := fun b o e => by rw [upd_ne (ne_of_none e hp)]; exact e
        have kp : ∀ a o, H1 a = some o → (upd H1 p (.lst x)) a = H1 a := fun a o e => upd_ne (ne_of_none e hp)
        have st : Step F1 H1 (B1 ++ A1) F1 (upd H1 p (.lst x)) A1 := (g1.newT hp).drop (fun _ m => List.mem_append_right _ m) g1.right.nd
        exact Post.fin h3 (rs1.mono (Same.refl _) (Same.tupS sm) fun a m => let ⟨o, e, _⟩ := rs1.at a m; kp a o e)
          (.vw (.lstO upd_same (r.mono (Same.refl _) (Same.tupS sm) fun a m => let ⟨o, e, _⟩ := r.at a m; kp a o e))) (B := []) st fun _ => sm
  · rw [if_neg hz] at h1
    exact h1.elim
end
end QX

set_option Elab.async false
set_option linter.all false
set_option maxRecDepth 100000
/-! calls of built-in functions and methods -/
namespace QX
open PySem PySem.Spec L2

/-! ### argument lists without a star -/
def noStar : Expr → Bool
  | .Starred _ _ => false
  | _ => true
theorem starEach_cons {e : Expr} {es : List Expr} {env : Env} (h : noStar e = true) : starEach (e :: es) env = (false, eval e env) :: starEach es env := by
  cases e <;> first | rfl | (simp [noStar] at h)
theorem starEach_map {env : Env} : ∀ {es : List Expr}, es.all noStar = true → starEach es env = es.map fun e => (false, eval e env)
  | [], _ => rfl
  | e :: es, h => by
    simp only [List.all_cons, Bool.and_eq_true] at h
    rw [starEach_cons h.1, starEach_map h.2]; rfl
theorem backTo_any {pos : Pos} {env : Env} {es : List Expr} (h : es.all noStar = true) : (backTo pos (starEach es env)).any (·.1) = false := by
  rw [starEach_map h]
  unfold backTo
  simp
theorem few {pos : Pos} {env : Env} {e : Expr} {es : List Expr} (h : (e :: es).all noStar = true) (n : (e :: es).length < 30) :
    ((backTo pos (starEach (e :: es) env)).all (fun x => !x.1) && (backToKw pos (keywordEach [] env)).all (fun x => x.1.isSome)
      && decide ((e :: es).length + ([] : List Keyword).length + (if ([] : List Keyword).isEmpty then 0 else 1) < 30)) = true := by
  rw [starEach_map h]
  have e1 : (backToKw pos (keywordEach [] env)).all (fun x => x.1.isSome) = true := by rfl
  rw [e1]
  unfold backTo
  simp only [List.all_map, List.length_cons, List.length_nil, List.isEmpty_nil, if_true, Nat.add_zero, Bool.and_true, Bool.and_eq_true, decide_eq_true_eq]
  refine ⟨?_, by simpa using n⟩
  rw [List.all_eq_true]
  intro x _
  rfl

section
variable {X : Cx} {a b c e o : Expr} {es : List Expr} {qa qb qc : Bool} {fa fb fo : Sl → R Ev} {fl : Sl → R (List Ev)} {pos p p2 apos cpos : Pos}

/-! ### built-in functions -/
def Bfn.sup : Bfn → Bool
  | .str => false | .repr => false | .sorted => false | .lenSet => false
  | _ => true
theorem bfn_sup {f : Bfn} (h : f.sup = false) (hf : (f matches .lenSet) = false) (vs : List Ev) : bfnop f vs = none := by
  cases f <;> first | (cases h; done) | (cases hf; done) | (unfold bfnop; split <;> first | rfl | (rename_i h; cases h) | contradiction)
theorem se_never {e : Expr} {q : Bool} {f : Sl → R Ev} (h : ∀ G, f G = .no) : SE X e q f := fun W _ =>
  ⟨fun pins s σ H Q I ⟨F, G, A, rs, gd, w⟩ => by rw [h G] at w; exact w.elim⟩
theorem boot_ok : ∀ {f : Bfn}, f.sup = true → bootBuiltins f.nm = some f.val := by
  intro f h
  cases f <;> first | (cases h; done) | decide +kernel
theorem nm_ok : ∀ f : Bfn, f.nm ≠ "__name__" ∧ (f.nm == ("__debug__" : Str)) = false := by
  intro f
  cases f <;> exact ⟨by decide, by decide⟩
theorem se_bfn (f : Bfn) (hc : X.calm = true) (hg : Gl X f.nm) (hm : X.mg f.nm = none) (hf : f.sup = true) (hs : (e :: es).all noStar = true) (hl : SL X (e :: es) qa fl) :
    SE X (.Call (.Name f.nm p) (e :: es) [] pos) qa (fun G => (fl G).bd fun vs G1 => R.of G1 (bfnop f vs)) := by
  have hs2 : noStar e = true ∧ es.all noStar = true := by simpa [List.all_cons] using hs
  intro W tk
  obtain ⟨n1, n2⟩ := nm_ok f
  have cr : CallR X f.val (rB X.K f) := by
    cases f <;> first | (cases hf; done) | exact call_len_seq.or call_len_str | exact call_abs | exact (call_max2 hc).or (cr_max hc) | exact (call_min2 hc).or (cr_min hc) | exact cr_sum hc | exact cr_all hc | exact cr_any hc | exact call_list_of | exact call_tuple_of | exact call_int1
  have pe : PE X (.Call (.Name f.nm p) (e :: es) [] pos) (tCB (rB X.K f) (tLs X.K X.mg W qa fl)) := by
    have hb := boot_ok hf
    have hle : (f matches .lenSet) = false := by cases f <;> first | rfl | (cases hf; done)
    cases hv : f.val with
    | builtin id =>
      rw [hv] at cr hb
      exact pe_callB cr hg hm hb (hl W tk) n1 n2 (starEach_cons hs2.1) (backTo_any hs2.2)
    | type T =>
      rw [hv] at cr hb
      exact pe_callTy cr hg hm hb (hl W tk) n1 n2 (starEach_cons hs2.1) (backTo_any hs2.2)
    | _ => exfalso; cases f <;> first | (cases hf; done) | (cases hv; done)
  refine peImp (fun σ H Q ⟨F, G, A, rs, gd, h⟩ => ?_) pe
  refine args_ rs gd h id fun e1 x F1 H1 A1 B1 G1 h1 g1 rs1 v1 _ => ?_
  obtain ⟨res, hb, h3⟩ := Post.ofSome h1
  exact bfnop_ok (by cases f <;> first | rfl | (cases hf; done)) h3 g1 rs1 v1 hb

/-! ### isinstance -/
theorem isiAny_ok {K : PySem.W.Frag} {a : String} {k : Bool} : ∀ {bs : List String}, isiAny a bs = some k → PySem.W.kitAny K (.type a) (bs.map Value.type) = some k
  | [], h => h
  | b :: bs, h => by
    unfold isiAny at h
    cases hb : kitB a b with
    | none => rw [hb] at h; cases h
    | some r =>
      rw [hb] at h
      cases r with
      | true => cases h; exact kitAny_cons (kit_ty hb) (fun z => by cases z) fun _ => rfl
      | false => exact kitAny_cons (kit_ty hb) (fun _ => isiAny_ok h) fun z => by cases z
theorem isiAny_one {a b : String} {k : Bool} (h : isiAny a [b] = some k) : kitB a b = some k := by
  unfold isiAny at h
  cases hb : kitB a b with
  | none => rw [hb] at h; cases h
  | some r =>
    rw [hb] at h
    cases r with
    | true => cases h; rfl
    | false => cases h; rfl
/-- the name of a built-in class -/
structure TyName (X : Cx) (e : Expr) (b : String) : Prop where
  pe : PE X e (tC (.ty b))
  ns : noStar e = true
theorem se_isi1 {b : String} {t : Expr} (hg : Gl X "isinstance") (hm : X.mg "isinstance" = none) (hs : noStar a = true) (ht : TyName X t b) (ha : SE X a qa fa) :
    SE X (.Call (.Name "isinstance" p) [a, t] [] pos) qa (fun G => (fa G).bd fun x G1 => R.of G1 ((isiop x [b]).map fun k => .own (.bl k))) := by
  intro W tk
  have s1 : starEach [a, t] X.env = (false, eval a X.env) :: starEach [t] X.env := starEach_cons hs
  have s2 : starEach [t] X.env = (false, eval t X.env) :: starEach [] X.env := starEach_cons ht.ns
  refine peImp (fun σ H Q ⟨F, G, A, rs, gd, h⟩ => ?_) (pe_callB call_isi hg hm (by decide +kernel) (pa_cons (ha W tk) (pa_cons ht.pe pa_nil s2) s1) (by decide) (by decide) s1 (backTo_any (by simp [ht.ns])))
  refine one_ rs gd h id fun e1 x F1 H1 A1 B1 G1 h1 g1 rs1 v1 => ?_
  obtain ⟨res, hb, h3⟩ := Post.ofSome h1
  cases ek : isiop e1 [b] with
  | none => rw [ek] at hb; cases hb
  | some k =>
    rw [ek] at hb
    cases hb
    unfold isiop at ek
    cases et : e1.tr with
    | none => rw [et] at ek; cases ek
    | some t =>
      rw [et] at ek
      cases ety : t.ty with
      | none => simp only [Option.bind_some, ety] at ek; cases ek
      | some n =>
        simp only [Option.bind_some, ety] at ek
        obtain ⟨C, r⟩ := v1.look et
        exact ⟨x, .ty b, .type n, .type b, k, rfl, .ty b, r.tyx g1.sub ety, kit_ty (isiAny_one ek), PoE.sc' h3 g1 rs1 (.bl k)⟩
theorem tyNames_pa {bs : List String} : ∀ {ts : List Expr}, Paired (fun b t => TyName X t b) bs ts → PA X ts (fun _ H Q => Q (bs.map V.ty) H) := by
  induction bs with
  | nil => intro ts h; cases h; exact pa_nil
  | cons b bs ih =>
    intro ts h
    cases h with
    | cons h r => exact paImp (fun σ H Q w => w) (pa_cons h.pe (ih r) (starEach_cons h.ns))
theorem clsV_all : ∀ bs : List String, Paired ClsV (bs.map V.ty) (bs.map Value.type)
  | [] => .nil
  | b :: bs => .cons (.ty b) (clsV_all bs)
theorem se_isiT {bs : List String} {ts : List Expr} {k : Nat} (hz : bs.length ≤ 30) (hg : Gl X "isinstance") (hm : X.mg "isinstance" = none) (hs : noStar a = true) (ht : Paired (fun b t => TyName X t b) bs ts) (ha : SE X a qa fa) :
    SE X (.Call (.Name "isinstance" p) [a, .Tuple ts k p2] [] pos) qa (fun G => (fa G).bd fun x G1 => R.of G1 ((isiop x bs).map fun k => .own (.bl k))) := by
  intro W tk
  have s1 : starEach [a, .Tuple ts k p2] X.env = (false, eval a X.env) :: starEach [.Tuple ts k p2] X.env := starEach_cons hs
  refine peImp (fun σ H Q ⟨F, G, A, rs, gd, h⟩ => ?_) (pe_callB call_isiT hg hm (by decide +kernel) (pa_cons (ha W tk) (pa_cons (pe_tup (tyNames_pa ht)) pa_nil rfl) s1) (by decide) (by decide) s1 (backTo_any rfl))
  refine one_ rs gd h id fun e1 x F1 H1 A1 B1 G1 h1 g1 rs1 v1 => ?_
  obtain ⟨res, hb, h3⟩ := Post.ofSome h1
  cases ek : isiop e1 bs with
  | none => rw [ek] at hb; cases hb
  | some k =>
    rw [ek] at hb
    cases hb
    unfold isiop at ek
    cases et : e1.tr with
    | none => rw [et] at ek; cases ek
    | some t =>
      rw [et] at ek
      cases ety : t.ty with
      | none => simp only [Option.bind_some, ety] at ek; cases ek
      | some n =>
        simp only [Option.bind_some, ety] at ek
        obtain ⟨C, r⟩ := v1.look et
        refine ⟨by rw [List.length_map]; exact Nat.le_trans hz (by rw [sizeLine_eq]; omega), fun tp hp => ?_⟩
        have sm : Same H1 (upd H1 tp (.tup (bs.map V.ty))) := fun b o e => by rw [upd_ne (ne_of_none e hp)]; exact e
        have kp : ∀ a o, H1 a = some o → (upd H1 tp (.tup (bs.map V.ty))) a = H1 a := fun a o e => upd_ne (ne_of_none e hp)
        have st : Step F1 H1 (B1 ++ A1) F1 (upd H1 tp (.tup (bs.map V.ty))) A1 := (g1.newT hp).drop (fun _ m => List.mem_append_right _ m) g1.right.nd
        have r2 : Rp X.K F1 (upd H1 tp (.tup (bs.map V.ty))) x t C := r.same (Same.refl _) sm
        refine ⟨x, tp, bs.map V.ty, .type n, bs.map Value.type, k, rfl, upd_same, clsV_all bs, r2.tyx st.good.sub ety, isiAny_ok ek, ?_⟩
        exact Post.fin h3 (rs1.mono (Same.refl _) (Same.tupS sm) fun a m => let ⟨o, e, _⟩ := rs1.at a m; kp a o e) (.own (.bl k)) (B := []) st fun _ => sm

/-! ### methods that read -/
theorem idxS_ok {K : PySem.W.Frag} {F H : Hp} {w : V} {u : T} {C : List Addr} (k : Rp K F H w u C) (s : scalT u = true) : ∀ {ts : List T} {vs : List V} {B : List Addr} {n : Nat}, RpL K F H vs ts B → ts.all scalT = true → idxS u ts = some n →
    ∃ z, vs[n]? = some z ∧ eqV z w = true ∧ ∀ (m : Nat) (z' : V), m < n → vs[m]? = some z' → eqV z' w = false
  | [], _, _, _, .nil, _, e => by cases e
  | t :: ts, _, _, n, .cons (v := v) h r, e, hi => by
    simp only [List.all_cons, Bool.and_eq_true] at e
    unfold idxS at hi
    by_cases hq : QX.eqS t u = true
    · rw [if_pos hq] at hi
      cases hi
      exact ⟨v, rfl, by rw [h.eqS k e.1 s]; exact hq, fun m z' hm => absurd hm (Nat.not_lt_zero m)⟩
    · rw [if_neg hq] at hi
      cases hj : idxS u ts with
      | none => rw [hj] at hi; cases hi
      | some j =>
        rw [hj] at hi
        have hi : n = j + 1 := (Option.some.inj hi).symm
        subst hi
        obtain ⟨z, e1, e2, e3⟩ := idxS_ok k s r e.2 hj
        refine ⟨z, by simpa using e1, e2, fun m z' hm hz => ?_⟩
        cases m with
        | zero =>
          simp only [List.getElem?_cons_zero, Option.some.injEq] at hz
          subst hz
          rw [h.eqS k e.1 s]
          simpa using hq
        | succ m => exact e3 m z' (by omega) (by simpa using hz)
def plainRecv : Expr → Bool
  | .Name _ _ => true
  | .Subscript _ _ _ => true
  | .Constant _ _ _ => true
  | .Attribute _ _ _ => true
  | _ => false
theorem recv_ok {o : Expr} {m : Str} (h : plainRecv o = true) : attributeBase o m X.env (eval o X.env) = eval o X.env := by
  cases o <;> first | rfl | (simp [plainRecv] at h)
theorem oneM_ {K : PySem.W.Frag} {mg : MG} {W : WX} {q : Bool} {σ : L2.St} {F H : Hp} {A : List Addr} {G : Sl} {α β : Type} {rel : Hp → Hp → β → α → List Addr → Prop} {P : Ev → Bool} {f : Sl → R Ev} {g : Sl → R (List Ev)} {k : Ev → List Ev → Sl → R α} {Q : β → Hp → Prop} {M : V → Hp → Prop} {Rv : V → List V → Hp → Prop} (rs : RS K F H σ G A) (gd : Good F H A)
    (h : Post rel K mg W q σ F H A ((f G).bd fun e1 G1 => if P e1 = true then (g G1).bd fun e2 G2 => if (e1.firm || qb) = true then k e1 e2 G2 else .no else .no) Q) (hq : q = true → qa = true ∧ qb = true)
    (mid : ∀ e1 x F1 H1 A1 B1 G1, P e1 = true → Good F1 H1 (B1 ++ A1) → RS K F1 H1 σ G1 A1 → Vr K F1 H1 σ x e1 B1 → M x H1)
    (fin : ∀ e1 e2 x y F2 H2 A2 B1 B2 G2, Post rel K mg W q σ F2 H2 (B1 ++ (B2 ++ A2)) (k e1 e2 G2) Q → Good F2 H2 (B1 ++ (B2 ++ A2)) → RS K F2 H2 σ G2 A2 → Vr K F2 H2 σ x e1 B1 → VrL K F2 H2 σ y e2 B2 → Rv x y H2) :
    tE K mg W qa f σ H fun x H1 => M x H1 ∧ tLs K mg W qb g σ H1 fun y H2 => Rv x y H2 := by
  refine ⟨F, G, A, rs, gd, Post.bind (B0 := []) (rel' := relE K σ) (q2 := q) h gd (by simp) (fun z => ⟨(hq z).1, z⟩) fun e1 G1 x F1 H1 A1 B1 _ rs1 v1 _ _ _ g1 h1 => ?_⟩
  by_cases hp : P e1 = true
  · rw [if_pos hp] at h1
    refine ⟨mid e1 x F1 H1 A1 B1 G1 hp g1 rs1 v1, F1, G1, A1, rs1, (show Good F1 H1 (B1 ++ A1) from g1).right, Post.bind (B0 := B1) (rel' := relL K σ) (q2 := q) h1 g1 v1.at (fun z => ⟨(hq z).2, z⟩) fun e2 G2 y F2 H2 A2 B2 _ rs2 v2 st2 sm2 hk g2 h2 => ?_⟩
    by_cases hc : (e1.firm || qb) = true
    · rw [if_pos hc] at h2
      have v1' : Vr K F2 H2 σ x e1 B1 := v1.keep st2.ff st2.tupS hk (by
        cases z : e1.firm with
        | true => exact .inl rfl
        | false => rw [z, Bool.false_or] at hc; exact .inr (sm2 hc))
      exact fin e1 e2 x y F2 H2 A2 B1 B2 G2 h2 g2 rs2 v1' v2
    · rw [if_neg hc] at h2
      exact h2.elim
  · rw [if_neg hp] at h1
    exact h1.elim
theorem se_index (hr : plainRecv o = true) (hln : (apos.endLine == cpos.line) = true) (hn : (e :: es).length < 30) (hs : (e :: es).all noStar = true) (ho : SE X o qa fo) (hl : SL X (e :: es) qb fl) :
    SE X (.Call (.Attribute o "index" apos) (e :: es) [] cpos) (qa && qb) (fun G => (fo G).bd fun x G1 => if Mth.on .index x = true then (fl G1).bd fun vs G2 => if (x.firm || qb) = true then R.of G2 (metop .index x vs) else .no else .no) := by
  intro W tk
  have hs2 : noStar e = true ∧ es.all noStar = true := by simpa [List.all_cons] using hs
  refine peImp (fun σ H Q ⟨F, G, A, rs, gd, h⟩ => ?_) (pe_bm PySem.F.plainAttrs_list PySem.F.slot_list_index PySem.F.type_list_index mt_index (ho W tk) (hl W tk) (recv_ok hr) (few hs hn) hln (starEach_cons hs2.1) (backTo_any hs2.2))
  refine oneM_ rs gd h and2 (fun e1 x F1 H1 A1 B1 G1 hp g1 rs1 v1 => ?_) fun e1 e2 x y F2 H2 A2 B1 B2 G2 h2 g2 rs2 v1 v2 => ?_
  · unfold Mth.on at hp
    split at hp
    · rename_i ts q1
      obtain ⟨C, r⟩ := v1.look q1
      obtain ⟨a, vs, D, rfl, hr, _⟩ := r.lst g1.sub
      exact .inl ⟨rfl, vs, hr⟩
    · cases hp
  · obtain ⟨res, hb, h3⟩ := Post.ofSome h2
    unfold metop at hb
    split at hb
    · rename_i o ts e _ q1
      obtain ⟨y, rfl, w1⟩ := v2.one
      split at hb
      · rename_i u q2
        split at hb
        · rename_i hsc
          simp only [Bool.and_eq_true] at hsc
          split at hb
          · rename_i n hn
            cases hb
            obtain ⟨C, r⟩ := v1.look q1
            obtain ⟨a, vs, D, rfl, hr, r2, _, _⟩ := r.lst g2.sub
            obtain ⟨C2, ru⟩ := w1.look q2
            obtain ⟨z, z1, z2, z3⟩ := idxS_ok ru hsc.1 r2 hsc.2 hn
            exact ⟨a, vs, y, n, z, rfl, rfl, hr, ru.flat hsc.1, r2.flat hsc.2, z1, z2, z3, PoE.sc h3 g2 rs2 (.int _)⟩
          · cases hb
        · cases hb
      · cases hb
    · cases hb

/-! ### methods that change a list of ours -/
theorem tyV_slot {K : PySem.W.Frag} {F H : Hp} {σ : L2.St} {G : Sl} {A : List Addr} {i : Nat} {ts : List T} (rs : RS K F H σ G A) (h : slotT G i = some (.lst true ts)) : ∃ p, σ[i]? = some (some (.ref p)) ∧ tyV K "list" (.ref p) H := by
  obtain ⟨p, vs, D, C, hσ, hp, _⟩ := slotL rs (slotT_some h)
  exact ⟨p, hσ, .inl ⟨rfl, vs, SqL.of hp⟩⟩
def mutE (m : Mut) (i : Nat) (fl : Sl → R (List Ev)) : Sl → R Ev := fun G => match slotT G i with
  | some (.lst true _) => (fl G).bd fun vs G1 => (match slotT G1 i with
    | some (.lst true ts) => (match mutop m ts vs with
      | some (t, us) => .ok (.own t) (G1.set i (some (.lst true us)))
      | none => .no)
    | _ => .no)
  | _ => .no
theorem mut_args {m : Mut} {i : Nat} {n : Nat} {K : PySem.W.Frag} {mg : MG} {W : WX} {σ : L2.St} {H : Hp} {Q : VK} (hn : ∀ G vs G1, fl G = .ok vs G1 → vs.length = n) (h : tE K mg W false (mutE m i fl) σ H Q) :
    ∃ v, σ[i]? = some (some v) ∧ tyV K "list" v H ∧ tLs K mg W qa fl σ H fun xs H2 => rM m n v xs H2 Q := by
  obtain ⟨F, G, A, rs, gd, h⟩ := h
  unfold mutE at h
  split at h
  · rename_i ts0 hs0
    obtain ⟨p, hσ, hty⟩ := tyV_slot rs hs0
    refine ⟨_, hσ, hty, args_ rs gd h (fun z => by cases z) fun e1 x F1 H1 A1 B1 G1 h1 g1 rs1 v1 ef => ?_⟩
    split at h1
    · rename_i ts hs1
      split at h1
      · rename_i t us hb
        obtain ⟨p', hσ', hr⟩ := mutop_ok (q := false) h1 g1 rfl rs1 (slotT_some hs1) v1 hb
        rw [hσ] at hσ'
        cases hσ'
        rw [hn _ _ _ ef] at hr
        exact hr
      · exact h1.elim
    · exact h1.elim
  · exact h.elim
theorem mtM_R {id : String} {r : V → List V → Hp → VK → Prop} (h : MtM X id r) : MtR X id r := h
theorem se_mut1 (m : Mut) {i : Nat} {y : Str} (hm : m = .append ∨ m = .pop ∨ m = .appendO) (hv : PE X (.Name y p) (tVar i)) (hln : (apos.endLine == cpos.line) = true) (hs : noStar e = true) (hl : SL X [e] qa fl) (hn : ∀ G vs G1, fl G = .ok vs G1 → vs.length = 1) :
    SE X (.Call (.Attribute (.Name y p) m.nm apos) [e] [] cpos) false (mutE m i fl) := by
  intro W tk
  have hs1 : ([e] : List Expr).all noStar = true := by simp [hs]
  rcases hm with rfl | rfl | rfl
  · exact peImp (fun σ H Q h => mut_args (qa := qa) hn h) (pe_bm PySem.F.plainAttrs_list PySem.F.slot_list_append PySem.F.type_list_append mt_append hv (hl W tk) rfl (few hs1 (by simp)) hln (starEach_cons hs) rfl)
  · exact peImp (fun σ H Q h => mut_args (qa := qa) hn h) (pe_bm PySem.F.plainAttrs_list PySem.F.slot_list_pop PySem.F.type_list_pop mt_popAt hv (hl W tk) rfl (few hs1 (by simp)) hln (starEach_cons hs) rfl)
  · exact peImp (fun σ H Q h => mut_args (qa := qa) hn h) (pe_bm PySem.F.plainAttrs_list PySem.F.slot_list_append PySem.F.type_list_append mt_append hv (hl W tk) rfl (few hs1 (by simp)) hln (starEach_cons hs) rfl)
theorem se_mut0 (m : Mut) {i : Nat} {y : Str} (hm : m = .pop ∨ m = .clear ∨ m = .reverse) (hv : PE X (.Name y p) (tVar i)) (hln : (apos.endLine == cpos.line) = true) :
    SE X (.Call (.Attribute (.Name y p) m.nm apos) [] [] cpos) false (mutE m i (fun G => .ok [] G)) := by
  intro W tk
  have fin : ∀ (m : Mut) {σ : L2.St} {H : Hp} {Q : VK}, tE X.K X.mg W false (mutE m i (fun G => .ok [] G)) σ H Q → tBM0 X.K "list" (rM m 0) (tVar i) σ H Q := fun m σ H Q h => by
    obtain ⟨F, G, A, rs, gd, h⟩ := h
    unfold mutE at h
    split at h
    · rename_i ts0 hs0
      obtain ⟨p, hσ, hty⟩ := tyV_slot rs hs0
      refine ⟨_, hσ, hty, ?_⟩
      simp only [R.bd_ok, hs0] at h
      split at h
      · rename_i t us hb
        obtain ⟨p', hσ', hr⟩ := mutop_ok (q := false) (B := []) (A := A) h gd rfl rs (slotT_some hs0) .nil hb
        rw [hσ] at hσ'
        cases hσ'
        exact hr
      · exact h.elim
    · exact h.elim
  rcases hm with rfl | rfl | rfl
  · exact peImp (fun σ H Q h => fin .pop h) (pe_bm0 PySem.F.plainAttrs_list PySem.F.slot_list_pop PySem.F.type_list_pop mt_pop hv rfl hln)
  · exact peImp (fun σ H Q h => fin .clear h) (pe_bm0 PySem.F.plainAttrs_list PySem.F.slot_list_clear PySem.F.type_list_clear mt_clear hv rfl hln)
  · exact peImp (fun σ H Q h => fin .reverse h) (pe_bm0 PySem.F.plainAttrs_list PySem.F.slot_list_reverse PySem.F.type_list_reverse mt_reverse hv rfl hln)
end

section
variable {X : Cx} {a : Expr} {qa : Bool} {fa : Sl → R Ev} {pos p p2 pos2 : Pos}
theorem rpl_ints {K : PySem.W.Frag} {F H : Hp} {α : Type} (f : α → Int) : ∀ ns : List α, RpL K F H (ns.map fun i => V.int (f i)) (ns.map fun i => T.int (f i)) []
  | [] => .nil
  | n :: ns => .cons (A := []) (B := []) (.int _) (rpl_ints f ns)
theorem se_lrg (hc : X.calm = true) (hg1 : Gl X "list") (hm1 : X.mg "list" = none) (hg2 : Gl X "range") (hm2 : X.mg "range" = none) (hs : noStar a = true) (ha : SE X a qa fa) :
    SE X (.Call (.Name "list" p) [.Call (.Name "range" p2) [a] [] pos2] [] pos) qa (fun G => (fa G).bd fun x G1 => R.of G1 (lrgop x)) := by
  intro W tk
  refine peImp (fun σ H Q ⟨F, G, A, rs, gd, h⟩ => ?_) (pe_listRg hc hg1 hm1 (prg_1 hg2 hm2 (ha W tk) (starEach_cons hs)))
  refine one_ rs gd h id fun e1 x F1 H1 A1 B1 G1 h1 g1 rs1 v1 => ?_
  obtain ⟨r, hb, h3⟩ := Post.ofSome h1
  unfold lrgop at hb
  split at hb
  · rename_i n hn
    split at hb
    · rename_i hz
      simp only [Bool.and_eq_true, decide_eq_true_eq] at hz
      cases hb
      have := v1.int hn
      subst this
      refine ⟨n, rfl, ⟨by omega, by omega, by omega, by omega, by omega⟩, fun q hq => ?_⟩
      have rr : RpL X.K F1 H1 (rgV 0 n) ((List.range n.toNat).map fun (i : Nat) => T.int (i : Int)) [] := by
        have z := rpl_ints (K := X.K) (F := F1) (H := H1) (fun i : Nat => (i : Int)) (List.range n.toNat)
        have e : rgV 0 n = (List.range n.toNat).map fun (i : Nat) => V.int (i : Int) := by
          unfold rgV
          rw [Int.sub_zero]
          congr 1
          funext i
          rw [Int.zero_add]
        rw [e]; exact z
      exact PoE.newL h3 g1 rs1 rr ⟨fun a m => List.mem_append_right _ (by simpa using m), g1.right.nd⟩ hq
    · cases hb
  · cases hb
end

/-! ### calls of the program's own defs -/
def spF (K : PySem.W.Frag) (mg : MG) (phi : List T → FR) : Sp := fun vs H Q E => ∃ F ts A, RpL K F H vs ts A ∧ Good F H A ∧ match phi ts with
  | .ret t us => ∀ v F' H' A' B, RpL K F' H' vs us A' → Rp K F' H' v t B → Step F H A F' H' (B ++ A') → Q v H'
  | .exc c p => isFL ts = true ∧ ∀ F' H' C d, Step F H [] F' H' [] → mg c = some (.ref C) → Pay H' p d → E (.ref C) d H'
  | .no => False

section
variable {K : PySem.W.Frag} {mg : MG} {W : WX} {q : Bool} {σ : L2.St} {F F' H H' : Hp} {A A2 B B1 B2 : List Addr} {G : Sl} {Q : VK}
theorem allVw_own : ∀ {es : List Ev} {ts us : List T}, allVw es = some ts → allOwn es = some us → ts = fzL us
  | [], _, _, e1, e2 => by
    simp only [allVw, allOwn, Option.some.injEq] at e1 e2
    subst e1 e2; rfl
  | .own t :: es, _, _, e1, e2 => by
    cases q1 : allVw es with
    | none => simp [allVw, q1] at e1
    | some ts' =>
      cases q2 : allOwn es with
      | none => simp [allOwn, q2] at e2
      | some us' =>
        simp only [allVw, q1, allOwn, q2, Option.map_some, Option.some.injEq] at e1 e2
        subst e1 e2
        rw [fzL, allVw_own q1 q2]
  | .vw _ :: _, _, _, _, e2 => by simp [allOwn] at e2
  | .rf _ :: _, _, _, _, e2 => by simp [allOwn] at e2
theorem allVw_ok (sm : Same F H) : ∀ {vs : List V} {es : List Ev} {ts : List T} {B : List Addr}, VrL K F H σ vs es B → allVw es = some ts → RpL K H H vs ts []
  | _, [], _, _, .nil, e => by simp only [allVw, Option.some.injEq] at e; subst e; exact .nil
  | _, .own t :: es, _, _, .cons h r, e => by
    cases q : allVw es with
    | none => simp [allVw, q] at e
    | some us =>
      simp only [allVw, q, Option.map_some, Option.some.injEq] at e
      subst e
      cases h with
      | own h => exact .cons (A := []) (B := []) (h.toF sm (fun _ _ z => z) fun _ _ => rfl) (allVw_ok sm r q)
  | _, .vw t :: es, _, _, .cons h r, e => by
    cases q : allVw es with
    | none => simp [allVw, q] at e
    | some us =>
      simp only [allVw, q, Option.map_some, Option.some.injEq] at e
      subst e
      cases h with
      | vw h => exact .cons (A := []) (B := []) (h.toF sm (fun _ _ z => z) fun _ _ => rfl) (allVw_ok sm r q)
  | _, .rf _ :: _, _, _, _, e => by simp [allVw] at e
theorem allVw_F : ∀ {es : List Ev} {ts : List T}, allVw es = some ts → isFL ts = true
  | [], _, e => by simp only [allVw, Option.some.injEq] at e; subst e; rfl
  | .own t :: es, _, e => by
    cases q : allVw es with
    | none => simp [allVw, q] at e
    | some us =>
      simp only [allVw, q, Option.map_some, Option.some.injEq] at e
      subst e
      rw [isFL, T.isF_fz, allVw_F q]; rfl
  | .vw t :: es, _, e => by
    cases q : allVw es with
    | none => simp [allVw, q] at e
    | some us =>
      simp only [allVw, q, Option.map_some, Option.some.injEq] at e
      subst e
      rw [isFL, T.isF_fz, allVw_F q]; rfl
  | .rf _ :: _, _, e => by simp [allVw] at e
theorem Good.all (H : Hp) : Good H H [] := ⟨Same.refl _, .nil, fun _ m => by simp at m⟩
theorem Step.same0 {A' : List Addr} (s : Step F H [] F' H' A') : Same H H' := fun b o e => s.hh b o e (by simp)
/-- behind a call that only looked -/
theorem Step.overView {B : List Addr} {F2 H2 : Hp} (g : Good F H (B1 ++ A)) (at' : ∀ a ∈ A, ∃ o, H a = some o ∧ Cell o) (s : Step H H [] F2 H2 B) : Step F H (B1 ++ A) F H2 (B ++ A) := by
  have sm := s.same0
  refine ⟨Same.refl _, fun b o e _ => sm b o e, fun b m => ?_, fun b e n => absurd e n, s.tup, ⟨g.sub.trans sm, ?_, fun a m => ?_⟩⟩
  · rcases List.mem_append.mp m with m | m
    · exact .inr ((s.new b m).resolve_left (by simp))
    · exact .inl (List.mem_append_right _ m)
  · refine List.nodup_append.mpr ⟨s.good.nd, g.right.nd, fun a ha b hb e => ?_⟩
    subst e
    have z := (s.new a ha).resolve_left (by simp)
    obtain ⟨o, e, _⟩ := at' a hb
    rw [z] at e; cases e
  · rcases List.mem_append.mp m with m | m
    · have z := (s.new a m).resolve_left (by simp)
      cases q : F a with
      | none => rfl
      | some o => rw [g.sub a o q] at z; cases z
    · exact g.right.out a m
/-- .. where the arguments were given away -/
theorem Step.overGive {F2 H2 : Hp} {Bn : List Addr} (g : Good F H (B1 ++ A)) (at' : ∀ a ∈ A, ∃ o, H a = some o ∧ Cell o) (s : Step (join F H B1) H [] F2 H2 Bn) : Step F H (B1 ++ A) F2 H2 (Bn ++ A) := by
  have s1 : Step F H (B1 ++ A) (join F H B1) H A := g.give (fun a m => List.mem_append_left _ m) (fun a m => ⟨List.mem_append_right _ m, fun z => g.apart z m⟩) g.right.nd
  have s2 := (s.beside (B := A) (by simpa using s1.good) fun b m => let ⟨o, e, _⟩ := at' b m; ⟨o, e⟩).1
  exact s1.trans s2

theorem callE_view {phi : List T → FR} {es : List Ev} {vs : List V} {ts : List T} (h : Post (relE K σ) K mg W q σ F H (B ++ A) (callE phi es G) Q) (g : Good F H (B ++ A)) (rs : RS K F H σ G A) (vr : VrL K F H σ vs es B) (ev : allVw es = some ts) :
    spF K mg phi vs H Q (WE W σ) := by
  unfold callE at h
  simp only [ev] at h
  have atA := rs.at
  have atB := vr.at
  have keepA : ∀ {F2 H2 : Hp} {Bn : List Addr} {F0 : Hp}, Step F0 H [] F2 H2 Bn → ∀ a ∈ A, H2 a = H a := fun s a m => by
    obtain ⟨o, e, _⟩ := atA a m
    rw [e]; exact s.same0 a o e
  cases eo : allOwn es with
  | some us =>
    have et := allVw_own ev eo
    subst et
    have r := allOwn_ok vr eo
    have smj : Same F (join F H B) := fun b o e => by
      rw [join_out fun z => ?_]
      · exact e
      · rw [g.out b (List.mem_append_left _ z)] at e; cases e
    have r2 : RpL K (join F H B) H vs (fzL us) [] := r.toF smj (fun _ _ z => z) fun a m => join_in m
    have g2 : Good (join F H B) H [] := ⟨fun b o e => by
      by_cases m : b ∈ B
      · rw [join_in m] at e; exact e
      · rw [join_out m] at e; exact g.sub b o e, .nil, fun _ m => by simp at m⟩
    refine ⟨join F H B, fzL us, [], r2, g2, ?_⟩
    cases ep : phi (fzL us) with
    | no => simp only [ep] at h; exact h.elim
    | ret t ws =>
      simp only [ep, eo, Option.isSome_some, Bool.true_or, if_true] at h
      intro v F2 H2 A' Bn _ rv st
      have st1 : Step (join F H B) H [] F2 H2 Bn := st.drop (fun a m => List.mem_append_left _ m) (List.nodup_append.mp st.good.nd).1
      have st2 := Step.overGive g atA st1
      exact Post.fin h (rs.mono st2.ff st2.tupS (keepA st1)) (.own rv) st2 fun _ => st1.same0
    | exc c p =>
      simp only [ep] at h
      refine ⟨isFL_fz us, fun F2 H2 C d st mgc py => ?_⟩
      have st2 := Step.overGive g atA (F2 := F2) (H2 := H2) (Bn := []) (by
        refine ⟨?_, st.hh, st.new, st.fnew, st.tup, st.good⟩
        exact st.ff)
      exact h F2 H2 A C d (rs.mono st2.ff st2.tupS (keepA st)) st2 (fun _ => st.same0) mgc py
  | none =>
    have r := allVw_ok g.sub vr ev
    refine ⟨H, ts, [], r, Good.all H, ?_⟩
    cases ep : phi ts with
    | no => simp only [ep] at h; exact h.elim
    | ret t ws =>
      simp only [ep, eo, Option.isSome_none, Bool.false_or] at h
      by_cases hf : t.noF = true
      · rw [if_pos hf] at h
        intro v F2 H2 A' Bn _ rv st
        have st1 : Step H H [] F2 H2 Bn := st.drop (fun a m => List.mem_append_left _ m) (List.nodup_append.mp st.good.nd).1
        have st2 := Step.overView g atA st1
        exact Post.fin h (rs.mono st2.ff st2.tupS (keepA st1)) (.own (rv.noF_any hf)) st2 fun _ => st1.same0
      · rw [if_neg hf] at h; exact h.elim
    | exc c p =>
      simp only [ep] at h
      refine ⟨allVw_F ev, fun F2 H2 C d st mgc py => ?_⟩
      have st2 := Step.overView g atA (B := []) st
      exact h F H2 A C d (rs.mono st2.ff st2.tupS (keepA st)) st2 (fun _ => st.same0) mgc py
end
end QX

set_option Elab.async false
set_option linter.all false
set_option maxRecDepth 100000
/-! calls that hand on slots by name -/
namespace QX
open PySem PySem.Spec L2

/-- the slots handed on, taken out -/
def holes (G : Sl) : List Ev → Sl
  | [] => G
  | .rf i :: es => holes (G.set i none) es
  | .own _ :: es => holes G es
  | .vw _ :: es => holes G es
def refsOf : List Ev → List Nat
  | [] => []
  | .rf i :: es => i :: refsOf es
  | .own _ :: es => refsOf es
  | .vw _ :: es => refsOf es
theorem holes_len : ∀ {es : List Ev} {G : Sl}, (holes G es).length = G.length
  | [], _ => rfl
  | .rf i :: es, G => by rw [holes, holes_len, List.length_set]
  | .own _ :: es, G => by rw [holes, holes_len]
  | .vw _ :: es, G => by rw [holes, holes_len]
theorem holes_at : ∀ {es : List Ev} {G : Sl} {i : Nat}, G[i]? = some none → (holes G es)[i]? = some none
  | [], _, _, h => h
  | .rf j :: es, G, i, h => by
    rw [holes]
    refine holes_at ?_
    by_cases e : j = i
    · subst e
      have : j < G.length := (List.getElem?_eq_some_iff.mp h).1
      exact List.getElem?_set_self this
    · rw [List.getElem?_set_ne e]; exact h
  | .own _ :: es, G, i, h => by rw [holes]; exact holes_at h
  | .vw _ :: es, G, i, h => by rw [holes]; exact holes_at h
theorem holes_set : ∀ {es : List Ev} {G : Sl} {i : Nat} (o : Option T), i ∉ refsOf es → holes (G.set i o) es = (holes G es).set i o
  | [], _, _, _, _ => rfl
  | .rf j :: es, G, i, o, h => by
    simp only [refsOf, List.mem_cons, not_or] at h
    rw [holes, holes, List.set_comm _ _ h.1, holes_set o h.2]
  | .own _ :: es, G, i, o, h => by rw [holes, holes]; exact holes_set o h
  | .vw _ :: es, G, i, o, h => by rw [holes, holes]; exact holes_set o h
theorem allRf_out : ∀ {es : List Ev} {G : Sl} {ts : List T} {i : Nat}, allRf G es = some ts → G[i]? = some none → i ∉ refsOf es
  | [], _, _, _, _, _ => by simp [refsOf]
  | .rf j :: es, G, ts, i, h, hi => by
    unfold allRf at h
    cases e : slotT G j with
    | none => rw [e] at h; cases h
    | some t =>
      simp only [e] at h
      cases q : allRf (G.set j none) es with
      | none => rw [q] at h; cases h
      | some us =>
        simp only [refsOf, List.mem_cons, not_or]
        refine ⟨fun z => ?_, allRf_out q ?_⟩
        · subst z
          rw [slotT_some e] at hi
          cases hi
        · by_cases z : j = i
          · subst z
            exact List.getElem?_set_self (List.getElem?_eq_some_iff.mp hi).1
          · rw [List.getElem?_set_ne z]; exact hi
  | .own _ :: es, G, ts, i, h, hi => by
    unfold allRf at h
    cases q : allRf G es with
    | none => rw [q] at h; cases h
    | some us => exact allRf_out (es := es) q hi
  | .vw _ :: es, G, ts, i, h, hi => by cases h

section
variable {K : PySem.W.Frag} {mg : MG} {W : WX} {q : Bool} {σ : L2.St} {F F' H H' : Hp} {A A2 B B1 B2 : List Addr} {Q : VK}
theorem allRf_ok : ∀ {vs : List V} {es : List Ev} {ts : List T} {B A : List Addr} {G : Sl}, VrL K F H σ vs es B → RS K F H σ G A → allRf G es = some ts → Same F F' → (∀ a ∈ B, F' a = H a) →
    ∃ Ar C, RpL K F' H vs ts Ar ∧ RS K F H σ (holes G es) C ∧ A.Perm (Ar ++ C)
  | _, [], _, _, A, _, .nil, rs, e, _, _ => by
    simp only [allRf, Option.some.injEq] at e
    subst e
    exact ⟨[], A, .nil, rs, .refl _⟩
  | _, .own t :: es, _, _, A, G, .cons (A := B1) (B := B2) h r, rs, e, ff, hj => by
    unfold allRf at e
    cases q : allRf G es with
    | none => rw [q] at e; cases e
    | some us =>
      rw [q] at e
      simp only [Option.map_some, Option.some.injEq] at e
      subst e
      obtain ⟨Ar, C, r1, rs1, pm⟩ := allRf_ok r rs q ff fun a m => hj a (List.mem_append_right _ m)
      cases h with
      | own h => exact ⟨Ar, C, .cons (A := []) (h.toF ff (fun _ _ z => z) fun a m => hj a (List.mem_append_left _ m)) r1, rs1, pm⟩
  | _, .vw _ :: _, _, _, _, _, _, _, e, _, _ => by cases e
  | _, .rf i :: es, _, _, A, G, .cons (A := B1) (B := B2) h r, rs, e, ff, hj => by
    unfold allRf at e
    cases es' : slotT G i with
    | none => rw [es'] at e; cases e
    | some t =>
      simp only [es'] at e
      cases q : allRf (G.set i none) es with
      | none => rw [q] at e; cases e
      | some us =>
        rw [q] at e
        simp only [Option.map_some, Option.some.injEq] at e
        subst e
        obtain ⟨v, Bi, C0, hσ, rv, rs0, pm0⟩ := rs.opn (slotT_some es')
        obtain ⟨Ar, C, r1, rs1, pm⟩ := allRf_ok r rs0 q ff fun a m => hj a (List.mem_append_right _ m)
        cases h with
        | rf hx =>
          rw [hσ] at hx
          cases hx
          refine ⟨Bi ++ Ar, C, .cons (rv.mono ff (fun _ _ z => z) fun _ _ => rfl) r1, rs1, pm0.trans ?_⟩
          rw [List.append_assoc]
          exact List.Perm.append_left _ pm
theorem allRf_nd : ∀ {es : List Ev} {ts : List T} {G : Sl}, allRf G es = some ts → (refsOf es).Nodup ∧ ∀ i ∈ refsOf es, i < G.length
  | [], _, _, _ => ⟨.nil, fun _ m => by simp [refsOf] at m⟩
  | .own t :: es, _, G, e => by
    unfold allRf at e
    cases q : allRf G es with
    | none => rw [q] at e; cases e
    | some us => exact allRf_nd (es := es) q
  | .vw _ :: _, _, _, e => by cases e
  | .rf i :: es, _, G, e => by
    unfold allRf at e
    cases es' : slotT G i with
    | none => rw [es'] at e; cases e
    | some t =>
      simp only [es'] at e
      cases q : allRf (G.set i none) es with
      | none => rw [q] at e; cases e
      | some us =>
        have hlt : i < G.length := (List.getElem?_eq_some_iff.mp (slotT_some es')).1
        obtain ⟨n1, n2⟩ := allRf_nd q
        refine ⟨List.nodup_cons.mpr ⟨allRf_out q (List.getElem?_set_self hlt), n1⟩, fun j m => ?_⟩
        rcases List.mem_cons.mp m with z | z
        · rw [z]; exact hlt
        · have := n2 j z
          rw [List.length_set] at this
          exact this
theorem setRf_ok : ∀ {vs : List V} {es : List Ev} {us : List T} {B C Ar : List Addr} {G G' : Sl} {F0 H0 : Hp}, VrL K F0 H0 σ vs es B → (refsOf es).Nodup → RS K F H σ (holes G es) C → RpL K F H vs us Ar → setRf G es us = some G' →
    ∃ D E, RS K F H σ G' D ∧ D.Perm (E ++ C) ∧ E.Sublist Ar
  | _, [], _, _, C, _, _, _, _, _, .nil, _, rs, .nil, e => by
    simp only [setRf, Option.some.injEq] at e
    subst e
    exact ⟨C, [], rs, .refl _, .refl _⟩
  | _, .own t :: es, _, _, C, _, G, G', _, _, .cons h r, nd, rs, .cons (A := A1) h2 r2, e => by
    obtain ⟨D, E, rs1, pm, sl⟩ := setRf_ok r nd rs r2 e
    exact ⟨D, E, rs1, pm, sl.trans (List.sublist_append_right _ _)⟩
  | _, .vw _ :: _, _, _, _, _, _, _, _, _, .cons h r, _, _, .cons _ _, e => by cases e
  | _, .rf i :: es, _, _, C, _, G, G', _, _, .cons h r, nd, rs, .cons (A := A1) (B := A2) h2 r2, e => by
    obtain ⟨nin, nd'⟩ := List.nodup_cons.mp nd
    rw [holes] at rs
    unfold setRf at e
    by_cases hlt : i < G.length
    · rw [if_pos hlt] at e
      cases h with
      | rf hx =>
        obtain ⟨D, rs1, pm⟩ := rs.cls (i := i) (holes_at (List.getElem?_set_self hlt)) hx h2
        rw [← holes_set _ nin, List.set_set] at rs1
        obtain ⟨D', E, rs2, pm2, sl⟩ := setRf_ok r nd' rs1 r2 e
        refine ⟨D', A1 ++ E, rs2, ?_, List.Sublist.append (.refl _) sl⟩
        refine pm2.trans ((List.Perm.append_left E pm).trans ?_)
        rw [← List.append_assoc]
        exact List.Perm.append_right C List.perm_append_comm
    · rw [if_neg hlt] at e; cases e
theorem callE_ref {phi : List T → FR} {es : List Ev} {vs : List V} {G : Sl} (h : Post (relE K σ) K mg W q σ F H (B ++ A) (callE phi es G) Q) (hq : q = false) (g : Good F H (B ++ A)) (rs : RS K F H σ G A) (vr : VrL K F H σ vs es B) (ev : allVw es = none) :
    spF K mg phi vs H Q (WE W σ) := by
  unfold callE at h
  simp only [ev] at h
  cases er : allRf G es with
  | none => simp only [er] at h; exact h.elim
  | some ts =>
    simp only [er] at h
    have smj : Same F (join F H B) := fun b o e => by
      rw [join_out fun z => ?_]
      · exact e
      · rw [g.out b (List.mem_append_left _ z)] at e; cases e
    obtain ⟨Ar, C, r, rsC, pm⟩ := allRf_ok vr rs er smj fun a m => join_in m
    have s1 : Step F H (B ++ A) (join F H B) H A := g.give (fun a m => List.mem_append_left _ m) (fun a m => ⟨List.mem_append_right _ m, fun z => g.apart z m⟩) g.right.nd
    have g1 : Good (join F H B) H (Ar ++ C) := s1.good.perm pm
    refine ⟨join F H B, ts, Ar, r, g1.left, ?_⟩
    cases ep : phi ts with
    | no => simp only [ep] at h; exact h.elim
    | exc c p => simp only [ep] at h; exact h.elim
    | ret t us =>
      simp only [ep] at h
      cases es' : setRf G es us with
      | none => simp only [es'] at h; exact h.elim
      | some G' =>
        simp only [es'] at h
        intro v F2 H2 A' Bn ru rv st
        have atC : ∀ c ∈ C, ∃ o, H c = some o := fun c m => let ⟨o, e, _⟩ := rsC.at c m; ⟨o, e⟩
        obtain ⟨st2, hk⟩ := st.beside g1 atC
        have rsC2 : RS K F2 H2 σ (holes G es) C := rsC.mono (smj.trans st.ff) st.tupS hk
        obtain ⟨D, E, rs2, pm2, sl⟩ := setRf_ok vr (allRf_nd er).1 rsC2 ru es'
        have st3 : Step F H (B ++ A) F2 H2 ((Bn ++ A') ++ C) := s1.trans (st2.permL pm.symm)
        refine Post.fin h rs2 (.own rv) (st3.drop (fun a m => ?_) ?_) fun z => by rw [hq] at z; cases z
        · rcases List.mem_append.mp m with m | m
          · exact List.mem_append_left _ (List.mem_append_left _ m)
          · rcases List.mem_append.mp (pm2.mem_iff.mp m) with m | m
            · exact List.mem_append_left _ (List.mem_append_right _ (sl.subset m))
            · exact List.mem_append_right _ m
        · have nd := st3.good.nd
          rw [List.append_assoc] at nd
          have : (Bn ++ (E ++ C)).Sublist (Bn ++ (A' ++ C)) := List.Sublist.append (.refl _) (List.Sublist.append sl (.refl _))
          have nd2 := nd.sublist this
          exact (List.Perm.append_left Bn pm2).nodup_iff.mpr nd2
end

section
variable {X : Cx} {e : Expr} {es : List Expr} {qa : Bool} {fl : Sl → R (List Ev)} {p pos : Pos}
/-- whether slots may be handed on -/
def noRf : List Ev → Bool
  | [] => true
  | .rf _ :: _ => false
  | .own _ :: es => noRf es
  | .vw _ :: es => noRf es
theorem noRf_vw : ∀ {es : List Ev}, noRf es = true → ∃ ts, allVw es = some ts
  | [], _ => ⟨_, rfl⟩
  | .own t :: es, h => by
    obtain ⟨ts, e⟩ := noRf_vw (es := es) h
    exact ⟨_, by rw [allVw, e]; rfl⟩
  | .vw t :: es, h => by
    obtain ⟨ts, e⟩ := noRf_vw (es := es) h
    exact ⟨_, by rw [allVw, e]; rfl⟩
  | .rf _ :: _, h => by cases h
theorem se_cal {f : Str} {a : Addr} {fd : FuncData} {ps : List Str} {phi : List T → FR} {n : Nat} (Fo : FnOk X.prog X.w X.K X.mg X.base (L2.CX X.prog X.w) n a fd ps (spF X.K X.mg phi)) (hr : Room n X.A) (hg : Gl X f) (hm : X.mg f = some (.ref a)) (hk : PySem.W.keepIn X.K (.ref a) = true)
    (hb : Binds X.K fd ps []) (hd : (f == ("__debug__" : Str)) = false) (hs : (e :: es).all noStar = true) (hl : SL X (e :: es) qa fl) (hq : qa = true → ∀ G vs G1, fl G = .ok vs G1 → noRf vs = true) :
    SE X (.Call (.Name f p) (e :: es) [] pos) qa (fun G => (fl G).bd fun vs G1 => callE phi vs G1) := by
  intro W tk
  have hs2 : noStar e = true ∧ es.all noStar = true := by simpa [List.all_cons] using hs
  refine peImp (fun σ H Q ⟨F, G, A, rs, gd, h⟩ => ?_) (pe_callS (E := WE W) Fo hr hg hm hk hb (fun σ => passAt tk σ) (hl W tk) hd (starEach_cons hs2.1) (backTo_any hs2.2))
  refine args_ rs gd h id fun e1 x F1 H1 A1 B1 G1 h1 g1 rs1 v1 ef => ?_
  cases ev : allVw e1 with
  | some ts => exact callE_view h1 g1 rs1 v1 ev
  | none =>
    have hqf : qa = false := by
      cases z : qa with
      | false => rfl
      | true =>
        obtain ⟨ts, e⟩ := noRf_vw (hq z _ _ _ ef)
        rw [e] at ev; cases ev
    exact callE_ref h1 hqf g1 rs1 v1 ev
end
end QX

set_option Elab.async false
set_option linter.all false
set_option maxRecDepth 100000
/-! what is gone through, and comprehensions -/
namespace QX
open PySem PySem.Spec L2

section
variable {K : PySem.W.Frag} {mg : MG} {W : WX} {q : Bool} {σ : L2.St} {F F' H H' : Hp} {A A2 B B1 B2 : List Addr} {G : Sl}

def NewT (H H' : Hp) : Prop := H' = H ∨ ∃ p vs, H p = none ∧ H' = upd H p (.tup vs)
theorem NewT.same (h : NewT H H') : Same H H' := by
  rcases h with rfl | ⟨p, vs, hp, rfl⟩
  · exact Same.refl _
  · exact fun b o e => by rw [upd_ne (ne_of_none e hp)]; exact e
theorem NewT.step (h : NewT H H') (g : Good F H A) : Step F H A F H' A := by
  rcases h with rfl | ⟨p, vs, hp, rfl⟩
  · exact g.refl
  · exact g.newT hp
/-- the walk J goes through the items ts, whatever happens behind (the truth: even if lists change) -/
structure IterOk (K : PySem.W.Frag) (F1 H1 : Hp) (J : It) (ts : List T) (st : Bool) : Prop where
  stop : ∀ F' H', Same F1 F' → TupS K H1 H' → Same F' H' → (st = true ∨ Same H1 H') → J.stop ts.length H'
  go : ∀ F' H', Same F1 F' → TupS K H1 H' → Same F' H' → (st = true ∨ Same H1 H') → ∀ (i : Nat) (t : T), ts[i]? = some t → J.go i H' ∧ ∀ x H'', J.yld i H' x H'' → NewT H' H'' ∧ Rp K F' H'' x t []
theorem RpL.get0 {vs : List V} {ts : List T} {i : Nat} {t : T} (r : RpL K F H vs ts []) (h : ts[i]? = some t) : ∃ v, vs[i]? = some v ∧ Rp K F H v t [] := by
  obtain ⟨v, C, e, h1, s, _⟩ := r.get h
  have z : C = [] := by
    cases C with
    | nil => rfl
    | cons a _ => exact absurd (s a List.mem_cons_self) (by simp)
  subst z
  exact ⟨v, e, h1⟩
theorem iterOk_list {a : Addr} {vs : List V} {ts : List T} (h : SqL K F a vs) (r : RpL K F H vs ts []) : IterOk K F H (Itl K a) ts true := by
  refine ⟨fun F' H' ff _ sm _ => ⟨vs, sm.seq (ff.seq h), by rw [r.len]; exact Nat.le_refl _⟩, fun F' H' ff ht sm _ i t hi => ?_⟩
  obtain ⟨v, e, rv⟩ := r.get0 hi
  have sq : SqL K H' a vs := sm.seq (ff.seq h)
  refine ⟨⟨vs, v, sq, e⟩, fun x H'' ⟨e1, e2⟩ => ?_⟩
  subst e1
  have := e2 vs sq
  rw [e] at this
  cases this
  exact ⟨.inl rfl, rv.mono ff ht fun _ m => by simp at m⟩
theorem iterOk_view {a : Addr} {vs : List V} {ts : List T} (h : SqL K H a vs) (r : RpL K F H vs ts []) : IterOk K F H (Itl K a) ts false := by
  refine ⟨fun F' H' ff _ sm s => ⟨vs, (s.resolve_left (by decide)).seq h, by rw [r.len]; exact Nat.le_refl _⟩, fun F' H' ff ht sm s i t hi => ?_⟩
  obtain ⟨v, e, rv⟩ := r.get0 hi
  have sq : SqL K H' a vs := (s.resolve_left (by decide)).seq h
  refine ⟨⟨vs, v, sq, e⟩, fun x H'' ⟨e1, e2⟩ => ?_⟩
  subst e1
  have := e2 vs sq
  rw [e] at this
  cases this
  exact ⟨.inl rfl, rv.mono ff ht fun _ m => by simp at m⟩
theorem iterOk_tup {a : Addr} {vs : List V} {ts : List T} (h : SqT K H a vs) (r : RpL K F H vs ts []) : IterOk K F H (Itt K a) ts true := by
  refine ⟨fun F' H' ff ht sm _ => ⟨vs, ht a vs h, by rw [r.len]; exact Nat.le_refl _⟩, fun F' H' ff ht sm _ i t hi => ?_⟩
  obtain ⟨v, e, rv⟩ := r.get0 hi
  refine ⟨⟨vs, v, ht a vs h, e⟩, fun x H'' ⟨e1, e2⟩ => ?_⟩
  subst e1
  have := e2 vs (ht a vs h)
  rw [e] at this
  cases this
  exact ⟨.inl rfl, rv.mono ff ht fun _ m => by simp at m⟩
theorem iterOk_str {x : Str} : IterOk K F H (Its x) (x.cps.toList.map fun c => .str ⟨#[c]⟩) true := by
  refine ⟨fun F' H' _ _ _ _ => ?_, fun F' H' _ _ _ _ i t hi => ?_⟩
  · show x.cps.size ≤ _
    rw [List.length_map, Array.length_toList]
    exact Nat.le_refl _
  · rw [List.getElem?_map] at hi
    cases e : x.cps.toList[i]? with
    | none => rw [e] at hi; cases hi
    | some c =>
      rw [e] at hi
      cases hi
      have e' : x.cps[i]? = some c := by rw [Array.getElem?_toList] at e; exact e
      refine ⟨(Array.getElem?_eq_some_iff.mp e').1, fun v H'' ⟨e1, c', e2, e3⟩ => ?_⟩
      subst e1 e3
      rw [e'] at e2
      cases e2
      exact ⟨.inl rfl, .str _⟩
theorem iterOk_rng {a : Int} {n : Nat} : IterOk K F H (Itr a n) ((List.range n).map fun (i : Nat) => .int (a + (i : Int))) true := by
  refine ⟨fun F' H' _ _ _ _ => ?_, fun F' H' _ _ _ _ i t hi => ?_⟩
  · show n ≤ _
    rw [List.length_map, List.length_range]
    exact Nat.le_refl _
  · rw [List.getElem?_map] at hi
    by_cases hlt : i < n
    · rw [List.getElem?_range hlt] at hi
      cases hi
      refine ⟨hlt, fun v H'' ⟨e1, e2⟩ => ?_⟩
      subst e1 e2
      exact ⟨.inl rfl, .int _⟩
    · rw [List.getElem?_eq_none (by simpa using hlt)] at hi
      cases hi

abbrev relI (K : PySem.W.Frag) : Hp → Hp → It → (List T × Bool) → List Addr → Prop := fun F H J r B => IterOk K F H J r.1 r.2 ∧ B = []
def tI (K : PySem.W.Frag) (mg : MG) (W : WX) (q : Bool) (f : Sl → R (List T × Bool)) : TI := fun σ H Rk => ∃ F G A, RS K F H σ G A ∧ Good F H A ∧ Post (relI K) K mg W q σ F H A (f G) Rk
end
def SI (X : Cx) (tg e : Expr) (q : Bool) (f : Sl → R (List T × Bool)) : Prop := ∀ W, Takes X W → PI X tg e (tI X.K X.mg W q f)

section
variable {X : Cx} {tg a : Expr} {es : List Expr} {qa : Bool} {fa : Sl → R Ev} {fl : Sl → R (List Ev)} {pos p : Pos}
/-- what was ours is given away, the slots stay -/
theorem give_temp {K : PySem.W.Frag} {F H : Hp} {σ : L2.St} {A B : List Addr} {G : Sl} (g : Good F H (B ++ A)) (rs : RS K F H σ G A) : Step F H (B ++ A) (join F H B) H A ∧ RS K (join F H B) H σ G A ∧ Same F (join F H B) := by
  have s1 : Step F H (B ++ A) (join F H B) H A := g.give (fun a m => List.mem_append_left _ m) (fun a m => ⟨List.mem_append_right _ m, fun z => g.apart z m⟩) g.right.nd
  exact ⟨s1, rs.mono s1.ff s1.tupS fun _ _ => rfl, s1.ff⟩
theorem si_val (ha : SE X a qa fa) : SI X tg a qa (fun G => (fa G).bd fun v G1 => R.of G1 ((itemsOf v).map (·, stableOf v))) := by
  intro W tk
  refine ⟨fun pins s σ H Rk I ⟨F, G, A, rs, gd, h⟩ => ?_⟩
  cases ef : fa G with
  | no => simp only [ef, R.bd_no] at h; exact h.elim
  | exc c p G' =>
    simp only [ef, R.bd_exc] at h
    exact (pi_list (ha W tk)).run pins s σ H Rk I ⟨F, G, A, rs, gd, by rw [ef]; exact h⟩
  | ok v G1 =>
    simp only [ef, R.bd_ok] at h
    obtain ⟨r, hb, h3⟩ := Post.ofSome h
    cases v with
    | own t =>
      cases t with
      | lst o ts =>
        cases hb
        refine (pi_list (ha W tk)).run pins s σ H Rk I ⟨F, G, A, rs, gd, ?_⟩
        rw [ef]
        intro x F1 H1 A1 B1 rs1 v1 st sm
        cases v1 with
        | own r1 =>
          obtain ⟨s1, rs2, ff⟩ := give_temp st.good rs1
          have r2 := r1.toF ff (fun _ _ z => z) fun a m => join_in m
          cases r2 with
          | lstF hd rr => exact ⟨_, rfl, ⟨_, s1.good.sub.seq hd⟩, h3 _ _ H1 A1 [] rs2 ⟨iterOk_list hd rr, rfl⟩ (st.trans s1) sm⟩
      | tup ts =>
        cases hb
        refine (pi_tup (ha W tk)).run pins s σ H Rk I ⟨F, G, A, rs, gd, ?_⟩
        rw [ef]
        intro x F1 H1 A1 B1 rs1 v1 st sm
        cases v1 with
        | own r1 =>
          obtain ⟨s1, rs2, ff⟩ := give_temp st.good rs1
          have r2 := r1.toF ff (fun _ _ z => z) fun a m => join_in m
          cases r2 with
          | tup hd rr => exact ⟨_, rfl, ⟨_, hd⟩, h3 _ _ H1 A1 [] rs2 ⟨iterOk_tup hd rr, rfl⟩ (st.trans s1) sm⟩
      | str z =>
        cases hb
        refine (pi_str (ha W tk)).run pins s σ H Rk I ⟨F, G, A, rs, gd, ?_⟩
        rw [ef]
        intro x F1 H1 A1 B1 rs1 v1 st sm
        cases v1 with
        | own r1 =>
          cases r1
          exact ⟨_, rfl, h3 _ _ H1 A1 [] rs1 ⟨iterOk_str, rfl⟩ st sm⟩
      | _ => cases hb
    | vw t =>
      cases t with
      | lst o ts =>
        simp only [itemsOf] at hb
        by_cases hf : isFL ts = true
        · rw [if_pos hf] at hb
          cases hb
          refine (pi_list (ha W tk)).run pins s σ H Rk I ⟨F, G, A, rs, gd, ?_⟩
          rw [ef]
          intro x F1 H1 A1 B1 rs1 v1 st sm
          cases v1 with
          | vw r1 =>
            obtain ⟨a, vs, D, rfl, hr, r2, _, _⟩ := r1.lst st.good.sub
            exact ⟨a, rfl, ⟨vs, hr⟩, h3 _ _ H1 A1 [] rs1 ⟨iterOk_view hr (r2.isF_zero hf), rfl⟩ st sm⟩
        · rw [if_neg hf] at hb; cases hb
      | tup ts =>
        simp only [itemsOf] at hb
        by_cases hf : isFL ts = true
        · rw [if_pos hf] at hb
          cases hb
          refine (pi_tup (ha W tk)).run pins s σ H Rk I ⟨F, G, A, rs, gd, ?_⟩
          rw [ef]
          intro x F1 H1 A1 B1 rs1 v1 st sm
          cases v1 with
          | vw r1 =>
            obtain ⟨a, vs, rfl, hr, r2⟩ := r1.tupl
            exact ⟨a, rfl, ⟨vs, hr⟩, h3 _ _ H1 A1 [] rs1 ⟨iterOk_tup hr (r2.isF_zero hf), rfl⟩ st sm⟩
        · rw [if_neg hf] at hb; cases hb
      | _ => cases hb
    | rf i => cases hb
theorem rngOf1 {e : Ev} {ts : List T} (h : rngOf [e] = some ts) : ∃ n, e.tr = some (.int n) ∧ -(2 ^ 62) ≤ n ∧ n < 2 ^ 62 ∧ ts = (List.range n.toNat).map fun (i : Nat) => .int (0 + (i : Int)) := by
  unfold rngOf at h
  split at h
  · rename_i n hn
    split at h
    · rename_i hz
      simp only [Bool.and_eq_true, decide_eq_true_eq] at hz
      cases h
      simp only [List.map_cons, List.map_nil, List.cons.injEq, and_true] at hn
      exact ⟨n, hn, hz.1, hz.2, by simp⟩
    · cases h
  · rename_i hn
    simp at hn
  · cases h
theorem rngOf2 {e e' : Ev} {ts : List T} (h : rngOf [e, e'] = some ts) : ∃ a b, e.tr = some (.int a) ∧ e'.tr = some (.int b) ∧ (-(2 ^ 62) ≤ a ∧ a < 2 ^ 62 ∧ -(2 ^ 62) ≤ b ∧ b < 2 ^ 62) ∧ ts = (List.range (b - a).toNat).map fun (i : Nat) => .int (a + (i : Int)) := by
  unfold rngOf at h
  split at h
  · rename_i hn
    simp at hn
  · rename_i a b hn
    split at h
    · rename_i hz
      simp only [Bool.and_eq_true, decide_eq_true_eq] at hz
      cases h
      simp only [List.map_cons, List.map_nil, List.cons.injEq, and_true] at hn
      exact ⟨a, b, hn.1, hn.2, ⟨hz.1.1.1, hz.1.1.2, hz.1.2, hz.2⟩, rfl⟩
    · cases h
  · cases h
theorem si_rng1 (hg : Gl X "range") (hm : X.mg "range" = none) (hs : noStar a = true) (hl : SL X [a] qa fl) (hn : ∀ G vs G1, fl G = .ok vs G1 → vs.length = 1) :
    SI X tg (.Call (.Name "range" p) [a] [] pos) qa (fun G => (fl G).bd fun vs G1 => R.of G1 ((rngOf vs).map (·, true))) := by
  intro W tk
  refine ⟨fun pins s σ H Rk I ⟨F, G, A, rs, gd, h⟩ => (pi_range1 hg hm (hl W tk) (starEach_cons hs)).run pins s σ H Rk I ?_⟩
  refine args_ rs gd h id fun e1 x F1 H1 A1 B1 G1 h1 g1 rs1 v1 ef => ?_
  obtain ⟨r, hb, h3⟩ := Post.ofSome h1
  have hl := hn _ _ _ ef
  match e1, hl, v1, hb with
  | [e], _, v1, hb =>
    obtain ⟨y, rfl, w1⟩ := v1.one
    cases er : rngOf [e] with
    | none => rw [er] at hb; cases hb
    | some ts =>
      rw [er] at hb
      cases hb
      obtain ⟨n, q1, z1, z2, rfl⟩ := rngOf1 er
      exact ⟨n, by rw [w1.int q1], z1, z2, h3 _ F1 H1 A1 [] rs1 ⟨iterOk_rng, rfl⟩ (g1.refl.drop (fun _ m => List.mem_append_right _ m) g1.right.nd) fun _ => Same.refl _⟩
theorem si_rng2 {b : Expr} (hg : Gl X "range") (hm : X.mg "range" = none) (hs : noStar a = true) (hs2 : noStar b = true) (hl : SL X [a, b] qa fl) (hn : ∀ G vs G1, fl G = .ok vs G1 → vs.length = 2) :
    SI X tg (.Call (.Name "range" p) [a, b] [] pos) qa (fun G => (fl G).bd fun vs G1 => R.of G1 ((rngOf vs).map (·, true))) := by
  intro W tk
  refine ⟨fun pins s σ H Rk I ⟨F, G, A, rs, gd, h⟩ => (pi_range2 hg hm (hl W tk) (by rw [starEach_cons hs, starEach_cons hs2]; rfl) (starEach_cons hs2)).run pins s σ H Rk I ?_⟩
  refine args_ rs gd h id fun e1 x F1 H1 A1 B1 G1 h1 g1 rs1 v1 ef => ?_
  obtain ⟨r, hb, h3⟩ := Post.ofSome h1
  have hl := hn _ _ _ ef
  match e1, hl, v1, hb with
  | [e, e'], _, v1, hb =>
    obtain ⟨y, y', C1, C2, rfl, w1, w2, _⟩ := v1.two
    cases er : rngOf [e, e'] with
    | none => rw [er] at hb; cases hb
    | some ts =>
      rw [er] at hb
      cases hb
      obtain ⟨i, j, q1, q2, z1, rfl⟩ := rngOf2 er
      exact ⟨i, j, by rw [w1.int q1, w2.int q2], z1, h3 _ F1 H1 A1 [] rs1 ⟨iterOk_rng, rfl⟩ (g1.refl.drop (fun _ m => List.mem_append_right _ m) g1.right.nd) fun _ => Same.refl _⟩

/-! ### enumerate, zip, reversed, range with a step of -1 -/
theorem li_ok {K : PySem.W.Frag} {σ : L2.St} {F F' H : Hp} {B : List Addr} {v : V} {e : Ev} {ts : List T} {st : Bool} (h : Vr K F H σ v e B) (he : liT e = some (ts, st)) (sm : Same F H) (ff : Same F F') (hj : ∀ a ∈ B, F' a = H a) (sm' : Same F' H) :
    ∃ a vs, v = .ref a ∧ SqL K H a vs ∧ RpL K F' H vs ts [] ∧ (st = true → SqL K F' a vs) := by
  cases h with
  | own r =>
    rename_i t
    cases t with
    | lst o us =>
      simp only [liT, Option.some.injEq, Prod.mk.injEq] at he
      obtain ⟨rfl, rfl⟩ := he
      have r2 := r.toF ff (fun _ _ z => z) hj
      cases r2 with
      | lstF hd rr => exact ⟨_, _, rfl, sm'.seq hd, rr, fun _ => hd⟩
    | _ => cases he
  | vw r =>
    rename_i t C
    cases t with
    | lst o us =>
      simp only [liT] at he
      by_cases hf : isFL us = true
      · rw [if_pos hf] at he
        simp only [Option.some.injEq, Prod.mk.injEq] at he
        obtain ⟨rfl, rfl⟩ := he
        obtain ⟨a, vs, D, rfl, hr, r2, _, _⟩ := r.lst sm
        exact ⟨a, vs, rfl, hr, (r2.isF_zero hf).mono ff (fun _ _ z => z) (fun _ m => by simp at m), fun z => by cases z⟩
      · rw [if_neg hf] at he; cases he
    | _ => cases he
  | rf h => cases he
theorem VrL.un {K : PySem.W.Frag} {F H : Hp} {σ : L2.St} {vs : List V} {e : Ev} {es : List Ev} {B : List Addr} (h : VrL K F H σ vs (e :: es) B) : ∃ v ws C D, vs = v :: ws ∧ B = C ++ D ∧ Vr K F H σ v e C ∧ VrL K F H σ ws es D := by
  cases h with
  | cons a b => exact ⟨_, _, _, _, rfl, rfl, a, b⟩
theorem VrL.nl {K : PySem.W.Frag} {F H : Hp} {σ : L2.St} {vs : List V} {B : List Addr} (h : VrL K F H σ vs [] B) : vs = [] ∧ B = [] := by
  cases h
  exact ⟨rfl, rfl⟩
theorem seqAt {K : PySem.W.Frag} {F H F' H' : Hp} {a : Addr} {vs : List V} {st : Bool} (hq : SqL K H a vs) (hst : st = true → SqL K F a vs) (ff : Same F F') (sm : Same F' H') (s : st = true ∨ Same H H') : SqL K H' a vs :=
  s.elim (fun e => sm.seq (ff.seq (hst e))) fun z => z.seq hq
theorem RpL.getN {K : PySem.W.Frag} {F H : Hp} {vs : List V} {ts : List T} {i : Nat} (r : RpL K F H vs ts []) (h : i < ts.length) : ∃ v, vs[i]? = some v ∧ Rp K F H v ts[i] [] := r.get0 (List.getElem?_eq_getElem h)
theorem iterOk_enm {K : PySem.W.Frag} {F H : Hp} {a : Addr} {vs : List V} {ts : List T} {st : Bool} (hq : SqL K H a vs) (hst : st = true → SqL K F a vs) (r : RpL K F H vs ts []) : IterOk K F H (Ite K a) (enT ts) st := by
  have hl : (enT ts).length = ts.length := by simp [enT]
  refine ⟨fun F' H' ff _ sm s => ⟨vs, seqAt hq hst ff sm s, by rw [r.len, hl]; exact Nat.le_refl _⟩, fun F' H' ff ht sm s i t hi => ?_⟩
  have hlt : i < ts.length := by rw [← hl]; exact (List.getElem?_eq_some_iff.mp hi).1
  obtain ⟨v, e, rv⟩ := r.getN hlt
  have et : t = .tup [.int (i : Nat), ts[i]] := by
    have : (enT ts)[i]? = some (.tup [.int (i : Nat), ts[i]]) := by simp [enT, hlt]
    rw [this] at hi; cases hi; rfl
  subst et
  have sq := seqAt hq hst ff sm s
  refine ⟨⟨vs, v, sq, e⟩, fun x H'' ⟨Tn, y, e1, hT, e2, e3⟩ => ?_⟩
  subst e1 e2
  have := e3 vs sq
  rw [e] at this
  cases this
  have smT : Same H' (upd H' Tn (.tup [.int (i : Nat), v])) := fun b o q => by rw [upd_ne (ne_of_none q hT)]; exact q
  have rv' := rv.mono ff (fun p ws q => Same.tupS smT p ws (ht p ws q)) (H' := upd H' Tn (.tup [.int (i : Nat), v])) fun _ m => by simp at m
  exact ⟨.inr ⟨Tn, _, hT, rfl⟩, .tup (.inl (.inl upd_same)) (.cons (A := []) (B := []) (.int _) (.cons (A := []) (B := []) rv' .nil))⟩
theorem iterOk_zip {K : PySem.W.Frag} {F H : Hp} {a b : Addr} {vs ws : List V} {ts us : List T} {st st' : Bool} (hq : SqL K H a vs) (hst : st = true → SqL K F a vs) (r : RpL K F H vs ts []) (hq' : SqL K H b ws) (hst' : st' = true → SqL K F b ws) (r' : RpL K F H ws us []) :
    IterOk K F H (Itz K a b) (ziT ts us) (st && st') := by
  have hl : (ziT ts us).length = min ts.length us.length := by simp [ziT]
  have s1 : ∀ {H' : Hp}, ((st && st') = true ∨ Same H H') → st = true ∨ Same H H' := fun s => s.imp (fun z => (Bool.and_eq_true _ _ ▸ z : _ ∧ _).1) id
  have s2 : ∀ {H' : Hp}, ((st && st') = true ∨ Same H H') → st' = true ∨ Same H H' := fun s => s.imp (fun z => (Bool.and_eq_true _ _ ▸ z : _ ∧ _).2) id
  refine ⟨fun F' H' ff _ sm s => ⟨vs, ws, seqAt hq hst ff sm (s1 s), seqAt hq' hst' ff sm (s2 s), by rw [hl, r.len, r'.len]; omega⟩, fun F' H' ff ht sm s i t hi => ?_⟩
  have hlt : i < min ts.length us.length := by rw [← hl]; exact (List.getElem?_eq_some_iff.mp hi).1
  have h1 : i < ts.length := by omega
  have h2 : i < us.length := by omega
  obtain ⟨v, e, rv⟩ := r.getN h1
  obtain ⟨w, e', rw'⟩ := r'.getN h2
  have et : t = .tup [ts[i], us[i]] := by
    have : (ziT ts us)[i]? = some (.tup [ts[i], us[i]]) := by simp [ziT, h1, h2, List.getElem?_zip_eq_some]
    rw [this] at hi; cases hi; rfl
  subst et
  have sq := seqAt hq hst ff sm (s1 s)
  have sq' := seqAt hq' hst' ff sm (s2 s)
  refine ⟨⟨vs, ws, v, w, sq, sq', e, e'⟩, fun x H'' ⟨Tn, y, z, e1, hT, e2, e3, e4⟩ => ?_⟩
  subst e1 e2
  have y1 := e3 vs sq
  have y2 := e4 ws sq'
  rw [e] at y1
  rw [e'] at y2
  cases y1
  cases y2
  have smT : Same H' (upd H' Tn (.tup [v, w])) := fun b o q => by rw [upd_ne (ne_of_none q hT)]; exact q
  have rv' := rv.mono ff (fun p ws q => Same.tupS smT p ws (ht p ws q)) (H' := upd H' Tn (.tup [v, w])) fun _ m => by simp at m
  have rw2 := rw'.mono ff (fun p ws q => Same.tupS smT p ws (ht p ws q)) (H' := upd H' Tn (.tup [v, w])) fun _ m => by simp at m
  exact ⟨.inr ⟨Tn, _, hT, rfl⟩, .tup (.inl (.inl upd_same)) (.cons (A := []) (B := []) rv' (.cons (A := []) (B := []) rw2 .nil))⟩
theorem iterOk_rvd {K : PySem.W.Frag} {F H : Hp} {a : Addr} {vs : List V} {ts : List T} {st : Bool} (hq : SqL K H a vs) (hst : st = true → SqL K F a vs) (r : RpL K F H vs ts []) : IterOk K F H (Itv K a vs.length) ts.reverse st := by
  refine ⟨fun F' H' ff _ sm s => ?_, fun F' H' ff ht sm s i t hi => ?_⟩
  · show vs.length ≤ _
    rw [List.length_reverse, r.len]; exact Nat.le_refl _
  have hlt : i < ts.length := by have := (List.getElem?_eq_some_iff.mp hi).1; rwa [List.length_reverse] at this
  have hi' : ts[vs.length - 1 - i]? = some t := by
    rw [r.len]
    rw [List.getElem?_reverse hlt] at hi
    exact hi
  obtain ⟨v, e, rv⟩ := r.get0 hi'
  have sq := seqAt hq hst ff sm s
  refine ⟨⟨by rw [r.len]; exact hlt, vs, v, sq, e⟩, fun x H'' ⟨e1, e2⟩ => ?_⟩
  subst e1
  have := e2 vs sq
  rw [e] at this
  cases this
  exact ⟨.inl rfl, rv.mono ff ht fun _ m => by simp at m⟩
theorem iterOk_rng3 {K : PySem.W.Frag} {F H : Hp} {a c : Int} {n : Nat} : IterOk K F H (Itc a c n) ((List.range n).map fun (i : Nat) => .int (a + (i : Int) * c)) true := by
  refine ⟨fun F' H' _ _ _ _ => ?_, fun F' H' _ _ _ _ i t hi => ?_⟩
  · show n ≤ _
    rw [List.length_map, List.length_range]
    exact Nat.le_refl _
  · rw [List.getElem?_map] at hi
    by_cases hlt : i < n
    · rw [List.getElem?_range hlt] at hi
      cases hi
      refine ⟨hlt, fun v H'' ⟨e1, e2⟩ => ?_⟩
      subst e1 e2
      exact ⟨.inl rfl, .int _⟩
    · rw [List.getElem?_eq_none (by simpa using hlt)] at hi
      cases hi
section
variable {elts : List Expr} {kk : Nat} {tpos : Pos}
theorem si_enm (hg : Gl X "enumerate") (hm : X.mg "enumerate" = none) (hs : noStar a = true) (hl : SL X [a] qa fl) (hn : ∀ G vs G1, fl G = .ok vs G1 → vs.length = 1) :
    SI X (.Tuple elts kk tpos) (.Call (.Name "enumerate" p) [a] [] pos) qa (fun G => (fl G).bd fun vs G1 => R.of G1 (iterOf .enm vs)) := by
  intro W tk
  refine ⟨fun pins s σ H Rk I ⟨F, G, A, rs, gd, h⟩ => (pi_enum hg hm (hl W tk) (starEach_cons hs)).run pins s σ H Rk I ?_⟩
  refine args_ rs gd h id fun e1 x F1 H1 A1 B1 G1 h1 g1 rs1 v1 ef => ?_
  obtain ⟨r, hb, h3⟩ := Post.ofSome h1
  have hl := hn _ _ _ ef
  match e1, hl, v1, hb with
  | [e], _, v1, hb =>
    obtain ⟨y1, ws1, C1, D1, rfl, rfl, w1, v2⟩ := v1.un
    obtain ⟨rfl, rfl⟩ := v2.nl
    simp only [iterOf, Option.map_eq_some_iff] at hb
    obtain ⟨⟨ts, st⟩, h4, rfl⟩ := hb
    obtain ⟨s1, rs2, ff⟩ := give_temp g1 rs1
    obtain ⟨a, vs, rfl, hq, rr, hst⟩ := li_ok w1 h4 g1.sub ff (fun a m => join_in (List.mem_append_left _ m)) s1.good.sub
    exact ⟨a, vs, rfl, hq, h3 _ _ H1 A1 [] rs2 ⟨iterOk_enm hq hst rr, rfl⟩ s1 fun _ => Same.refl _⟩
theorem si_rvd {tg : Expr} (hg : Gl X "reversed") (hm : X.mg "reversed" = none) (hs : noStar a = true) (hl : SL X [a] qa fl) (hn : ∀ G vs G1, fl G = .ok vs G1 → vs.length = 1) :
    SI X tg (.Call (.Name "reversed" p) [a] [] pos) qa (fun G => (fl G).bd fun vs G1 => R.of G1 (iterOf .rvd vs)) := by
  intro W tk
  refine ⟨fun pins s σ H Rk I ⟨F, G, A, rs, gd, h⟩ => (pi_reversed hg hm (hl W tk) (starEach_cons hs)).run pins s σ H Rk I ?_⟩
  refine args_ rs gd h id fun e1 x F1 H1 A1 B1 G1 h1 g1 rs1 v1 ef => ?_
  obtain ⟨r, hb, h3⟩ := Post.ofSome h1
  have hl := hn _ _ _ ef
  match e1, hl, v1, hb with
  | [e], _, v1, hb =>
    obtain ⟨y1, ws1, C1, D1, rfl, rfl, w1, v2⟩ := v1.un
    obtain ⟨rfl, rfl⟩ := v2.nl
    simp only [iterOf, Option.map_eq_some_iff] at hb
    obtain ⟨⟨ts, st⟩, h4, rfl⟩ := hb
    obtain ⟨s1, rs2, ff⟩ := give_temp g1 rs1
    obtain ⟨a, vs, rfl, hq, rr, hst⟩ := li_ok w1 h4 g1.sub ff (fun a m => join_in (List.mem_append_left _ m)) s1.good.sub
    exact ⟨a, vs, rfl, hq, h3 _ _ H1 A1 [] rs2 ⟨iterOk_rvd hq hst rr, rfl⟩ s1 fun _ => Same.refl _⟩
theorem si_zip {b : Expr} (hg : Gl X "zip") (hm : X.mg "zip" = none) (hs : noStar a = true) (hs2 : noStar b = true) (hl : SL X [a, b] qa fl) (hn : ∀ G vs G1, fl G = .ok vs G1 → vs.length = 2) :
    SI X (.Tuple elts kk tpos) (.Call (.Name "zip" p) [a, b] [] pos) qa (fun G => (fl G).bd fun vs G1 => R.of G1 (iterOf .zip vs)) := by
  intro W tk
  refine ⟨fun pins s σ H Rk I ⟨F, G, A, rs, gd, h⟩ => (pi_zip hg hm (hl W tk) (starEach_cons hs) (backTo_any (by simp [hs2]))).run pins s σ H Rk I ?_⟩
  refine args_ rs gd h id fun e1 x F1 H1 A1 B1 G1 h1 g1 rs1 v1 ef => ?_
  obtain ⟨r, hb, h3⟩ := Post.ofSome h1
  have hl := hn _ _ _ ef
  match e1, hl, v1, hb with
  | [e, e'], _, v1, hb =>
    obtain ⟨y1, ws1, C1, D1, rfl, rfl, w1, v2⟩ := v1.un
    obtain ⟨y2, ws2, C2, D2, rfl, rfl, w2, v3⟩ := v2.un
    obtain ⟨rfl, rfl⟩ := v3.nl
    simp only [iterOf] at hb
    cases q1 : liT e with
    | none => rw [q1] at hb; cases hb
    | some r1 =>
    cases q2 : liT e' with
    | none => rw [q1, q2] at hb; cases hb
    | some r2 =>
    rw [q1, q2] at hb
    simp only [Option.bind_some, Option.map_some, Option.some.injEq] at hb
    subst hb
    obtain ⟨s1, rs2, ff⟩ := give_temp g1 rs1
    obtain ⟨a, vs, rfl, hq, rr, hst⟩ := li_ok w1 q1 g1.sub ff (fun a m => join_in (List.mem_append_left _ m)) s1.good.sub
    obtain ⟨b, ws, rfl, hq', rr', hst'⟩ := li_ok w2 q2 g1.sub ff (fun a m => join_in (List.mem_append_right _ (List.mem_append_left _ m))) s1.good.sub
    exact ⟨a, b, vs, ws, rfl, hq, hq', h3 _ _ H1 A1 [] rs2 ⟨iterOk_zip hq hst rr hq' hst' rr', rfl⟩ s1 fun _ => Same.refl _⟩
theorem rng3_inv {e e' e'' : Ev} {ts : List T} (h : rng3 [e, e', e''] = some ts) : ∃ a b, e.tr = some (.int a) ∧ e'.tr = some (.int b) ∧ e''.tr = some (.int (-1)) ∧ (-(2 ^ 62) ≤ a ∧ a < 2 ^ 62 ∧ -(2 ^ 62) ≤ b ∧ b < 2 ^ 62) ∧ ts = (List.range (a - b).toNat).map fun (i : Nat) => .int (a + (i : Int) * -1) := by
  unfold rng3 at h
  split at h
  · rename_i a b c hn
    split at h
    · rename_i hz
      cases h
      simp only [List.map_cons, List.map_nil, List.cons.injEq, and_true] at hn
      obtain ⟨rfl, hz⟩ := hz
      exact ⟨a, b, hn.1, hn.2.1, hn.2.2, hz, rfl⟩
    · cases h
  · cases h
theorem si_rng3 {tg b d : Expr} (hg : Gl X "range") (hm : X.mg "range" = none) (hs : noStar a = true) (hs2 : noStar b = true) (hs3 : noStar d = true) (hl : SL X [a, b, d] qa fl) (hn : ∀ G vs G1, fl G = .ok vs G1 → vs.length = 3) :
    SI X tg (.Call (.Name "range" p) [a, b, d] [] pos) qa (fun G => (fl G).bd fun vs G1 => R.of G1 (iterOf .rng vs)) := by
  have hall : ([b, d] : List Expr).all noStar = true := by simp [hs2, hs3]
  intro W tk
  refine ⟨fun pins s σ H Rk I ⟨F, G, A, rs, gd, h⟩ => (pi_range3 hg hm (hl W tk) (starEach_cons hs) (backTo_any hall)).run pins s σ H Rk I ?_⟩
  refine args_ rs gd h id fun e1 x F1 H1 A1 B1 G1 h1 g1 rs1 v1 ef => ?_
  obtain ⟨r, hb, h3⟩ := Post.ofSome h1
  have hl := hn _ _ _ ef
  match e1, hl, v1, hb with
  | [e, e', e''], _, v1, hb =>
    obtain ⟨y1, ws1, C1, D1, rfl, rfl, w1, v2⟩ := v1.un
    obtain ⟨y2, ws2, C2, D2, rfl, rfl, w2, v3⟩ := v2.un
    obtain ⟨y3, ws3, C3, D3, rfl, rfl, w3, v4⟩ := v3.un
    obtain ⟨rfl, rfl⟩ := v4.nl
    have hb : (rng3 [e, e', e'']).map (·, true) = some r := by
      simpa [iterOf] using hb
    cases er : rng3 [e, e', e''] with
    | none => rw [er] at hb; cases hb
    | some ts =>
      rw [er] at hb
      cases hb
      obtain ⟨i, j, q1, q2, q3, z1, rfl⟩ := rng3_inv er
      have := w1.int q1
      have := w2.int q2
      have := w3.int q3
      subst_vars
      exact ⟨i, j, -1, _, rfl, RgC.neg z1.1 z1.2.1 z1.2.2.1 z1.2.2.2, h3 _ F1 H1 A1 [] rs1 ⟨iterOk_rng3, rfl⟩ (g1.refl.drop (fun _ m => List.mem_append_right _ m) g1.right.nd) fun _ => Same.refl _⟩
end
end
def isTupE : Expr → Bool
  | .Tuple _ _ _ => true
  | _ => false
def ikOk (k : Ik) (n : Nat) (tg : Expr) : Bool := match k with
  | .rng => n == 1 || n == 2 || n == 3
  | .enm => n == 1 && isTupE tg
  | .zip => n == 2 && isTupE tg
  | .rvd => n == 1
  | _ => false
theorem SI.eq {X : Cx} {tg e : Expr} {q : Bool} {f g : Sl → R (List T × Bool)} (h : SI X tg e q f) (e' : ∀ G, f G = g G) : SI X tg e q g := (funext e' : f = g) ▸ h
theorem si_call {X : Cx} {tg : Expr} {es : List Expr} {qa : Bool} {fl : Sl → R (List Ev)} {pos p : Pos} (k : Ik) (hk : ikOk k es.length tg = true) (hg : Gl X k.nm) (hm : X.mg k.nm = none) (hs : es.all noStar = true) (hl : SL X es qa fl) (hn : ∀ G vs G1, fl G = .ok vs G1 → vs.length = es.length) :
    SI X tg (.Call (.Name k.nm p) es [] pos) qa (fun G => (fl G).bd fun vs G1 => R.of G1 (iterOf k vs)) := by
  have rngE : es.length ≠ 3 → ∀ G, ((fl G).bd fun vs G1 => R.of G1 ((rngOf vs).map (·, true))) = ((fl G).bd fun vs G1 => R.of G1 (iterOf .rng vs)) := fun h3 G => by
    cases e : fl G with
    | no => rfl
    | exc _ _ _ => rfl
    | ok vs G1 =>
      rw [R.bd_ok, R.bd_ok]
      have := hn G vs G1 e
      show _ = R.of G1 (if vs.length = 3 then _ else _)
      rw [if_neg (by rw [this]; exact h3)]
  cases k with
  | val => cases hk
  | itm => cases hk
  | rng =>
    simp only [ikOk, Bool.or_eq_true, beq_iff_eq] at hk
    rcases hk with (hk | hk) | hk
    · match es, hk, hs, hl, hn, rngE with
      | [a], _, hs, hl, hn, rngE => exact SI.eq (si_rng1 hg hm (by simpa using hs) hl hn) (rngE (by simp))
    · match es, hk, hs, hl, hn, rngE with
      | [a, b], _, hs, hl, hn, rngE =>
        have z : noStar a = true ∧ noStar b = true := by simpa using hs
        exact SI.eq (si_rng2 hg hm z.1 z.2 hl hn) (rngE (by simp))
    · match es, hk, hs, hl, hn with
      | [a, b, d], _, hs, hl, hn =>
        have z : noStar a = true ∧ noStar b = true ∧ noStar d = true := by simpa using hs
        exact si_rng3 hg hm z.1 z.2.1 z.2.2 hl hn
  | rvd =>
    simp only [ikOk, beq_iff_eq] at hk
    match es, hk, hs, hl, hn with
    | [a], _, hs, hl, hn => exact si_rvd hg hm (by simpa using hs) hl hn
  | enm =>
    simp only [ikOk, beq_iff_eq, Bool.and_eq_true] at hk
    match es, tg, hk, hs, hl, hn with
    | [a], .Tuple _ _ _, _, hs, hl, hn => exact si_enm hg hm (by simpa using hs) hl hn
  | zip =>
    simp only [ikOk, beq_iff_eq, Bool.and_eq_true] at hk
    match es, tg, hk, hs, hl, hn with
    | [a, b], .Tuple _ _ _, _, hs, hl, hn =>
      have z : noStar a = true ∧ noStar b = true := by simpa using hs
      exact si_zip hg hm z.1 z.2 hl hn
end QX

set_option Elab.async false
set_option linter.all false
set_option maxRecDepth 100000
/-! names given; comprehensions -/
namespace QX
open PySem PySem.Spec L2

mutual
def Tg.names : Tg → List Nat
  | .nm i => [i]
  | .tp ts => namesL ts
def namesL : List Tg → List Nat
  | [] => []
  | t :: ts => Tg.names t ++ namesL ts
end

section
variable {K : PySem.W.Frag} {F H : Hp}
def gB (K : PySem.W.Frag) (tg : Tg) : TG := fun v σ H Q => ∃ F G A t B, RS K F H σ G A ∧ Rp K F H v t B ∧ Good F H (B ++ A) ∧ match bindT tg t G with
  | some G' => ∀ σ' D, RS K F H σ' G' D → (∀ a ∈ D, a ∈ B ++ A) → D.Nodup → σ'.length = σ.length → (∀ j, j ∉ tg.names → σ'[j]? = σ[j]?) → Q σ' H
  | none => False
def gBs (K : PySem.W.Frag) (gs : List Tg) : TGs := fun vs σ H Q => ∃ F G A ts B, RS K F H σ G A ∧ RpL K F H vs ts B ∧ Good F H (B ++ A) ∧ match bindL gs ts G with
  | some G' => ∀ σ' D, RS K F H σ' G' D → (∀ a ∈ D, a ∈ B ++ A) → D.Nodup → σ'.length = σ.length → (∀ j, j ∉ namesL gs → σ'[j]? = σ[j]?) → Q σ' H
  | none => False
end

theorem pgImp {X : Cx} {e : Expr} {t t' : TG} (h : ∀ v σ H Q, t' v σ H Q → t v σ H Q) (p : PG X e t) : PG X e t' := ⟨fun pins s σ H v u Q I r w => p.run pins s σ H v u Q I r (h _ _ _ _ w)⟩
theorem pgsImp {X : Cx} {e : List Expr} {t t' : TGs} (h : ∀ v σ H Q, t' v σ H Q → t v σ H Q) (p : PGs X e t) : PGs X e t' := ⟨fun pins s σ H v u Q I r w => p.run pins s σ H v u Q I r (h _ _ _ _ w)⟩

/-- may a name be stored -/
def locOk (N : List Str) (sc : Scope) (fn : Str → Bool) (i : Nat) (x : Str) : Bool :=
  (N[i]? == some x) && ((sc.names.lookup x == some .local) || ((sc.names.lookup x == some .cell) && fn x))
mutual
def chkTg (N : List Str) (sc : Scope) (fn : Str → Bool) : Tg → Expr → Bool
  | .nm i, .Name x _ => locOk N sc fn i x
  | .tp gs, .Tuple es _ _ => chkTgs N sc fn gs es
  | _, _ => false
def chkTgs (N : List Str) (sc : Scope) (fn : Str → Bool) : List Tg → List Expr → Bool
  | [], [] => true
  | g :: gs, e :: es => chkTg N sc fn g e && chkTgs N sc fn gs es
  | _, _ => false
end

section
variable {X : Cx} {N : List Str} {sc : Scope} {fn : Str → Bool}
theorem chkTg_star {tg : Tg} {e : Expr} (h : chkTg N sc fn tg e = true) : ∀ es env, assignEach (e :: es) env = (false, assign e env) :: assignEach es env := by
  intro es env
  cases tg <;> cases e <;> first | rfl | (simp [chkTg] at h)
theorem chkTgs_len : ∀ {gs : List Tg} {es : List Expr}, chkTgs N sc fn gs es = true → ∀ env, (assignEach es env).length = gs.length ∧ (assignEach es env).findIdx? (·.1) = none
  | [], [], _, _ => ⟨rfl, rfl⟩
  | g :: gs, e :: es, h, env => by
    unfold chkTgs at h
    simp only [Bool.and_eq_true] at h
    obtain ⟨h1, h2⟩ := chkTgs_len h.2 env
    rw [chkTg_star h.1]
    refine ⟨by rw [List.length_cons, h1, List.length_cons], ?_⟩
    rw [List.findIdx?_cons]
    simp [h2]
  | [], _ :: _, h, _ => by simp [chkTgs] at h
  | _ :: _, [], h, _ => by simp [chkTgs] at h
theorem bindL_len : ∀ {gs : List Tg} {ts : List T} {G G' : Sl}, bindL gs ts G = some G' → gs.length = ts.length
  | [], [], _, _, _ => rfl
  | g :: gs, t :: ts, G, G', h => by
    unfold bindL at h
    cases e : bindT g t G with
    | none => rw [e] at h; cases h
    | some G1 =>
      rw [e] at h
      rw [List.length_cons, List.length_cons, bindL_len (gs := gs) h]
  | [], _ :: _, _, _, h => by cases h
  | _ :: _, [], _, _, h => by cases h
mutual
theorem pg_ok (hN : X.N = N) (nd : X.N.Nodup) (hsc : X.env.scope = sc) (hfn : X.fn = fn) (hc : X.calm = true) : ∀ (tg : Tg) (e : Expr), chkTg N sc fn tg e = true → PG X e (gB X.K tg)
  | .nm i, .Name x p, h => by
    unfold chkTg locOk at h
    simp only [Bool.and_eq_true, Bool.or_eq_true, beq_iff_eq] at h
    obtain ⟨h1, h2⟩ := h
    refine pgImp (fun v σ H Q ⟨F, G, A, t, B, rs, r, g, w⟩ => ?_) (pg_name (i := i) nd (by rw [hN]; exact h1) (hsc ▸ h2.imp id fun z => z.1) (h2.elim (fun z => .inr (hsc ▸ z)) fun z => .inl (by rw [hfn]; exact z.2)))
    unfold bindT at w
    by_cases hi : i < G.length
    · rw [if_pos hi] at w
      obtain ⟨D, rsD, sD, nD⟩ := rs.put hi r
      refine w _ D rsD sD (nD g.nd) (List.length_set ..) fun j hj => ?_
      rw [List.getElem?_set_ne (fun z => hj (by simp [Tg.names, z]))]
    · rw [if_neg hi] at w; exact w.elim
  | .tp gs, .Tuple es k p, h => by
    unfold chkTg at h
    have ih := pgs_ok hN nd hsc hfn hc gs es h
    obtain ⟨l1, l2⟩ := chkTgs_len h X.env
    refine pgImp (fun v σ H Q ⟨F, G, A, t, B, rs, r, g, w⟩ => ?_) (pg_tup hc ih l1 l2)
    cases t with
    | tup ts =>
      obtain ⟨a, vs, rfl, hr, r2⟩ := r.tupl
      have w' : match bindL gs ts G with
        | some G' => ∀ σ' D, RS X.K F H σ' G' D → (∀ a ∈ D, a ∈ B ++ A) → D.Nodup → σ'.length = σ.length → (∀ j, j ∉ namesL gs → σ'[j]? = σ[j]?) → Q σ' H
        | none => False := w
      have hl : ts.length = gs.length := by
        cases e : bindL gs ts G with
        | none => rw [e] at w'; exact w'.elim
        | some G' => exact (bindL_len e).symm
      exact ⟨a, vs, rfl, hr, by rw [r2.len]; exact hl, F, G, A, ts, B, rs, r2, g, w'⟩
    | _ => exact w.elim
  | .nm _, .Tuple _ _ _, h => by simp [chkTg] at h
  | .tp _, .Name _ _, h => by simp [chkTg] at h
theorem pgs_ok (hN : X.N = N) (nd : X.N.Nodup) (hsc : X.env.scope = sc) (hfn : X.fn = fn) (hc : X.calm = true) : ∀ (gs : List Tg) (es : List Expr), chkTgs N sc fn gs es = true → PGs X es (gBs X.K gs)
  | [], [], _ => pgsImp (fun vs σ H Q ⟨F, G, A, ts, B, rs, r, g, w⟩ => by
      cases ts with
      | nil =>
        cases r
        exact ⟨rfl, w σ A rs (fun a m => by simpa using m) g.right.nd rfl fun _ _ => rfl⟩
      | cons _ _ => exact w.elim) pgs_nil
  | g :: gs, e :: es, h => by
    unfold chkTgs at h
    simp only [Bool.and_eq_true] at h
    have p1 := pg_ok hN nd hsc hfn hc g e h.1
    have p2 := pgs_ok hN nd hsc hfn hc gs es h.2
    refine pgsImp (fun vs σ H Q ⟨F, G, A, ts, B, rs, r, gd, w⟩ => ?_) (pgs_cons p1 p2 (by rw [chkTg_star h.1]; rfl))
    cases ts with
    | nil => exact w.elim
    | cons t ts =>
      match vs, B, r, gd, w with
      | _, _, .cons (v := v) (vs := vs) (A := A1) (B := B1) r1 r2, gd, w =>
        refine ⟨v, vs, rfl, F, G, A, t, A1, rs, r1, gd.less (fun a m => (List.mem_append.mp m).elim (fun m => List.mem_append_left _ (List.mem_append_left _ m)) fun m => List.mem_append_right _ m) ?_, ?_⟩
        · have nd := gd.nd
          exact nd.sublist (List.Sublist.append (List.sublist_append_left _ _) (.refl _))
        · unfold bindL at w
          cases eb : bindT g t G with
          | none => rw [eb] at w; exact w.elim
          | some G1 =>
            rw [eb] at w
            intro σ1 D rsD sD nD lD kD
            obtain ⟨n1, n2, n3⟩ := List.nodup_append.mp gd.nd
            obtain ⟨m1, m2, m3⟩ := List.nodup_append.mp n1
            have gd2 : Good F H (B1 ++ D) := gd.less (fun a m => (List.mem_append.mp m).elim (fun m => List.mem_append_left _ (List.mem_append_right _ m)) fun m => (List.mem_append.mp (sD a m)).elim (fun m => List.mem_append_left _ (List.mem_append_left _ m)) fun m => List.mem_append_right _ m)
              (List.nodup_append.mpr ⟨m2, nD, fun a ha b hb e => (List.mem_append.mp (sD b hb)).elim (fun m => m3 b m a ha e.symm) fun m => n3 a (List.mem_append_right _ ha) b m e⟩)
            refine ⟨F, G1, D, ts, B1, rsD, r2, gd2, ?_⟩
            simp only [Option.bind_some] at w
            cases ew : bindL gs ts G1 with
            | none => rw [ew] at w; exact w.elim
            | some G2 =>
              rw [ew] at w
              intro σ2 E rsE sE nE lE kE
              refine w σ2 E rsE (fun a m => ?_) nE (lE.trans lD) fun j hj => ?_
              · rcases List.mem_append.mp (sE a m) with m | m
                · exact List.mem_append_left _ (List.mem_append_right _ m)
                · rcases List.mem_append.mp (sD a m) with m | m
                  · exact List.mem_append_left _ (List.mem_append_left _ m)
                  · exact List.mem_append_right _ m
              · simp only [namesL, List.mem_append, not_or] at hj
                exact (kE j hj.2).trans (kD j hj.1)
  | [], _ :: _, h => by simp [chkTgs] at h
  | _ :: _, [], h => by simp [chkTgs] at h
end
end
end QX

set_option Elab.async false
set_option linter.all false
set_option maxRecDepth 100000
/-! comprehensions -/
namespace QX
open PySem PySem.Spec L2

section
variable {K : PySem.W.Frag} {mg : MG} {W : WX} {q : Bool} {σ : L2.St} {F F' H H' : Hp} {A A2 B B1 B2 : List Addr} {G : Sl}
theorem rsOuts : ∀ (own : List Nat) {σ : L2.St} {G : Sl} {A : List Addr}, RS K F H σ G A → (∀ i ∈ own, i < G.length) → ∃ C, RS K F H (wipe σ own) (outS G own) C ∧ (∀ a ∈ C, a ∈ A) ∧ (A.Nodup → C.Nodup) ∧ (outS G own).length = G.length
  | [], _, _, A, rs, _ => ⟨A, rs, fun _ m => m, id, rfl⟩
  | i :: own, σ, G, A, rs, hl => by
    obtain ⟨C, rs1, s1, n1, l1⟩ := rsOuts own rs fun j m => hl j (List.mem_cons_of_mem _ m)
    obtain ⟨C2, rs2, s2, n2⟩ := rs1.out i
    have hi : i < (outS G own).length := by rw [l1]; exact hl i List.mem_cons_self
    exact ⟨C2, rs2.any none (List.getElem?_set_self hi), fun a m => s1 a (s2 a m), fun n => n2 (n1 n), by rw [outS, List.length_set, l1]⟩
theorem outS_at : ∀ {own : List Nat} {G : Sl} {i : Nat}, i ∈ own → (∀ j ∈ own, j < G.length) → (outS G own)[i]? = some none
  | j :: own, G, i, m, hl => by
    have ll : ∀ own : List Nat, (outS G own).length = G.length := fun own => by
      induction own with
      | nil => rfl
      | cons a r ih => rw [outS, List.length_set, ih]
    rw [outS]
    by_cases e : j = i
    · subst e
      exact List.getElem?_set_self (by rw [ll]; exact hl j List.mem_cons_self)
    · rw [List.getElem?_set_ne e]
      exact outS_at ((List.mem_cons.mp m).resolve_left fun z => e z.symm) fun k hk => hl k (List.mem_cons_of_mem _ hk)
/-- a slot is put back -/
theorem rsPutF {σ : L2.St} {G : Sl} {A : List Addr} {i : Nat} {v : V} {t : T} (rs : RS K F H σ G A) (hi : i < G.length) (hσ : σ[i]? = some (some v)) (r : Rp K F H v t []) :
    ∃ C, RS K F H σ (G.set i (some t)) C ∧ (∀ a ∈ C, a ∈ A) ∧ (A.Nodup → C.Nodup) := by
  obtain ⟨C, rs1, s1, n1⟩ := rs.out i
  obtain ⟨D, rs2, pm⟩ := rs1.cls (List.getElem?_set_self hi) hσ r
  rw [List.set_set] at rs2
  rw [List.nil_append] at pm
  exact ⟨D, rs2, fun a m => s1 a (pm.mem_iff.mp m), fun n => pm.nodup_iff.mpr (n1 n)⟩
theorem backS_len : ∀ (own : List Nat) (G G0 : Sl), (backS G G0 own).length = G.length
  | [], _, _ => rfl
  | i :: own, G, G0 => by rw [backS, List.length_set, backS_len own]
theorem wipe_at {σ : L2.St} {i : Nat} : ∀ {own : List Nat}, i ∉ own → (wipe σ own)[i]? = σ[i]?
  | [], _ => rfl
  | j :: own, h => by
    simp only [List.mem_cons, not_or] at h
    rw [wipe, List.getElem?_set_ne (Ne.symm h.1), wipe_at h.2]
theorem rsBack {G0 : Sl} : ∀ (own : List Nat) {σ : L2.St} {G : Sl} {A : List Addr}, RS K F H (wipe σ own) G A → (∀ i ∈ own, G[i]? = some none) →
    (∀ i ∈ own, ∀ t, G0[i]? = some (some t) → ∃ v, σ[i]? = some (some v) ∧ Rp K F H v t []) → ∃ C, RS K F H σ (backS G G0 own) C ∧ (∀ a ∈ C, a ∈ A) ∧ (A.Nodup → C.Nodup)
  | [], _, _, A, rs, _, _ => ⟨A, rs, fun _ m => m, id⟩
  | i :: own, σ, G, A, rs, h0, hh => by
    have hG := h0 i List.mem_cons_self
    have hlt : i < G.length := (List.getElem?_eq_some_iff.mp hG).1
    have hσl : i < (wipe σ own).length := by
      have := rs.len
      rw [wipe_length] at this
      rw [wipe_length]; omega
    -- slot i of σ is put back
    have rs1 : RS K F H (wipe σ own) G A := by
      have z := rs.any ((wipe σ own)[i]) hG
      rw [wipe, List.set_set, List.set_getElem_self hσl] at z
      exact z
    obtain ⟨C, rs2, s2, n2⟩ := rsBack own rs1 (fun j m => h0 j (List.mem_cons_of_mem _ m)) fun j m => hh j (List.mem_cons_of_mem _ m)
    have hl2 : i < (backS G G0 own).length := by rw [backS_len]; exact hlt
    rw [backS]
    cases e : G0[i]? with
    | none =>
      obtain ⟨C2, rs3, s3, n3⟩ := rs2.out i
      exact ⟨C2, rs3, fun a m => s2 a (s3 a m), fun n => n3 (n2 n)⟩
    | some o => cases o with
      | none =>
        obtain ⟨C2, rs3, s3, n3⟩ := rs2.out i
        exact ⟨C2, rs3, fun a m => s2 a (s3 a m), fun n => n3 (n2 n)⟩
      | some t =>
        obtain ⟨v, hσ, r⟩ := hh i List.mem_cons_self t e
        obtain ⟨C2, rs3, s3, n3⟩ := rsPutF rs2 hl2 hσ r
        exact ⟨C2, rs3, fun a m => s2 a (s3 a m), fun n => n3 (n2 n)⟩
theorem wipe_eq {σ σ' : L2.St} : ∀ {own : List Nat}, σ'.length = σ.length → (∀ j, j ∉ own → σ'[j]? = σ[j]?) → wipe σ' own = wipe σ own := by
  intro own hl h
  refine List.ext_getElem? fun j => ?_
  by_cases m : j ∈ own
  · have no : ∀ τ : L2.St, ∀ own : List Nat, j ∈ own → (wipe τ own)[j]? = if j < τ.length then some none else none := by
      intro τ own
      induction own with
      | nil => intro m; simp at m
      | cons a r ih =>
        intro m
        rw [wipe]
        by_cases e : a = j
        · subst e
          by_cases hl : a < τ.length
          · rw [if_pos hl, List.getElem?_set_self (by rw [wipe_length]; exact hl)]
          · rw [if_neg hl, List.getElem?_eq_none (by rw [List.length_set, wipe_length]; omega)]
        · rw [List.getElem?_set_ne e, ih ((List.mem_cons.mp m).resolve_left fun z => e z.symm)]
    rw [no σ' own m, no σ own m, hl]
  · rw [wipe_at m, wipe_at m, h j m]
theorem R.nx_ok {α : Type} {r : R α} {a : α} {G : Sl} (h : r.nx = .ok a G) : r = .ok a G := by
  cases r <;> first | exact h | cases h
theorem R.nx_exc {α : Type} {r : R α} {c : Str} {p : List (Str × T)} {G : Sl} : r.nx ≠ .exc c p G := by
  cases r <;> intro h <;> cases h
theorem bd_ok_inv {α β : Type} {r : R α} {k : α → Sl → R β} {b : β} {G : Sl} (h : r.bd k = .ok b G) : ∃ a G1, r = .ok a G1 ∧ k a G1 = .ok b G := by
  cases r with
  | ok a G1 => exact ⟨a, G1, rfl, h⟩
  | exc _ _ _ => cases h
  | no => cases h
theorem turnC_exc {tg : Tg} {ft : Sl → R Bool} {fe : Sl → R Ev} {own : List Nat} {t : T} {G : Sl} {c : Str} {p : List (Str × T)} {G' : Sl} : turnC tg ft fe own t G ≠ .exc c p G' := by
  intro h
  unfold turnC at h
  cases e : bindT tg t G with
  | none => rw [e] at h; cases h
  | some G1 =>
    simp only [e] at h
    cases e1 : (ft G1).nx with
    | no => rw [e1] at h; cases h
    | exc c p G => exact R.nx_exc e1
    | ok b G2 =>
      rw [e1, R.bd_ok] at h
      cases b with
      | false => rw [if_neg Bool.false_ne_true] at h; cases h
      | true =>
        rw [if_pos rfl] at h
        cases e2 : (fe G2).nx with
        | no => rw [e2] at h; cases h
        | exc c p G => exact R.nx_exc e2
        | ok v G3 =>
          rw [e2, R.bd_ok] at h
          cases e3 : v.fm with
          | none => simp only [e3] at h; cases h
          | some u => simp only [e3] at h; cases h
theorem loopC_exc {k : T → Sl → R (Option T)} (hk : ∀ t G c p G', k t G ≠ .exc c p G') : ∀ {ts : List T} {G : Sl} {c : Str} {p : List (Str × T)} {G' : Sl}, loopC k ts G ≠ .exc c p G'
  | [], _, _, _, _, h => by cases h
  | t :: ts, G, c, p, G', h => by
    unfold loopC at h
    cases e : k t G with
    | no => rw [e] at h; cases h
    | exc c p G' => exact hk _ _ _ _ _ e
    | ok o G1 =>
      rw [e, R.bd_ok] at h
      cases e2 : loopC k ts G1 with
      | no => rw [e2] at h; cases h
      | exc c p G' => exact loopC_exc hk e2
      | ok us G2 => rw [e2, R.bd_ok] at h; cases h
end

section
variable {X : Cx} {elt tgE iter : Expr} {ifs : List Expr} {scope : Scope} {own : List (Str × Nat)} {pos : Pos} {tg : Tg} {fi : Sl → R (List T × Bool)} {ft : Sl → R Bool} {fe : Sl → R Ev} {qi qt qe : Bool}
abbrev W0 : WX := fun _ _ _ _ => False
theorem lc_imp (hn : ∀ j ∈ tg.names, j ∈ own.map (·.2)) (W : WX) (σ : L2.St) (H : Hp) (Q : VK) (h : tE X.K X.mg W (qi && (qe && qt)) (fun G => (fi G).bd fun r G1 => if ((r.2 || (qe && qt)) && freeS G1 (own.map (·.2))) = true then
      (loopC (turnC tg ft fe (own.map (·.2))) r.1 (outS G1 (own.map (·.2)))).bd fun ts G6 => if ts.length ≤ sizeLine then .ok (.own (.lst true ts)) (backS G6 G1 (own.map (·.2))) else .no
      else .no) σ H Q) : tLc (tI X.K X.mg W qi fi) (gB X.K tg) (tTs X.K X.mg W0 qt ft) (tE X.K X.mg W0 qe fe) (own.map (·.2)) σ H Q := by
  obtain ⟨F, G, A, rs, gd, h⟩ := h
  generalize hvs : own.map (·.2) = vs at *
  refine ⟨F, G, A, rs, gd, Post.bind (B0 := []) (rel' := relI X.K) (q2 := qi && (qe && qt)) h gd (by simp) (fun z => ⟨(and2 z).1, z⟩) fun r G1 J F1 H1 A1 B1 _ rs1 v1 _ _ _ g1 h1 => ?_⟩
  obtain ⟨iok, rfl⟩ := v1
  have g1 : Good F1 H1 A1 := g1
  have h1 : Post (relE X.K σ) X.K X.mg W (qi && (qe && qt)) σ F1 H1 A1 _ Q := h1
  by_cases hcd : ((r.2 || (qe && qt)) && freeS G1 vs) = true
  case neg => rw [if_neg hcd] at h1; exact h1.elim
  rw [if_pos hcd] at h1
  obtain ⟨hst, hfr⟩ := and2 hcd
  have hrange : ∀ i ∈ vs, i < G1.length := fun i m => by
    unfold freeS at hfr
    have z := List.all_eq_true.mp hfr i m
    cases e : G1[i]? with
    | none => rw [e] at z; cases z
    | some o => exact (List.getElem?_eq_some_iff.mp e).1
  -- the whole loop
  cases el : loopC (turnC tg ft fe vs) r.1 (outS G1 vs) with
  | no => rw [el, R.bd_no] at h1; exact h1.elim
  | exc c p G' => exact absurd el (loopC_exc fun _ _ _ _ _ => turnC_exc)
  | ok ts G6 =>
  rw [el, R.bd_ok] at h1
  by_cases hz : ts.length ≤ sizeLine
  case neg => rw [if_neg hz] at h1; exact h1.elim
  rw [if_pos hz] at h1
  intro D hD
  obtain ⟨C, rsC, sC, nC, lC⟩ := rsOuts vs rs1 hrange
  have atC := rsC.at
  have gC : Good F1 H1 C := g1.less sC (nC g1.nd)
  have st0 : Step F1 H1 A1 F1 (upd H1 D (.lst [])) (D :: C) := (gC.newO hD fun a m => let ⟨o, e, _⟩ := atC a m; ⟨o, e⟩).more sC
  have sm0 : Same H1 (upd H1 D (.lst [])) := fun b o e => by rw [upd_ne (ne_of_none e hD)]; exact e
  have rs0 : RS X.K F1 (upd H1 D (.lst [])) (wipe σ vs) (outS G1 vs) C := rsC.mono (Same.refl _) (Same.tupS sm0) fun a m => by
    obtain ⟨o, e, _⟩ := atC a m
    exact upd_ne (ne_of_none e hD)
  -- what was in the slots
  have hid : ∀ i ∈ vs, ∀ t, G1[i]? = some (some t) → ∃ v, σ[i]? = some (some v) ∧ Rp X.K F1 H1 v t [] := fun i m t e => by
    obtain ⟨v, Bi, _, hσ, rv, _, _⟩ := rs1.opn e
    unfold freeS at hfr
    have z := List.all_eq_true.mp hfr i m
    rw [e] at z
    have e0 := rv.isF_nil z
    subst e0
    exact ⟨v, hσ, rv⟩
  -- the invariant
  let Iv : Nat → Hp → Prop := fun i H => ∃ F G A acc us us', RS X.K F H (wipe σ vs) G A ∧ G.length = G1.length ∧ (∀ j ∈ vs, G[j]? = some none) ∧ H D = some (.lst acc) ∧ RpL X.K F H acc us [] ∧ Step F1 H1 A1 F H (D :: A) ∧ ((qe && qt) = true → Same H1 H) ∧
    loopC (turnC tg ft fe vs) (r.1.drop i) G = .ok us' G6 ∧ us ++ us' = ts
  refine ⟨fun i m H => m = r.1.length - i ∧ i ≤ r.1.length ∧ Iv i H, ⟨r.1.length, by simp, Nat.zero_le _, F1, outS G1 vs, C, [], [], ts, rs0, lC, fun j m => outS_at m hrange, upd_same, .nil, st0, fun _ => sm0, el, rfl⟩, ?_⟩
  rintro i m H2 ⟨rfl, hile, F2, G2, A2, acc, us, us', rs2, l2, hnone, hacc, racc, st2, sm2, el2, eus⟩
  have stq : r.2 = true ∨ Same H1 H2 := by
    cases z : r.2 with
    | true => exact .inl rfl
    | false => rw [z, Bool.false_or] at hst; exact .inr (sm2 hst)
  by_cases hlt : i < r.1.length
  · -- a turn
    have hti : r.1[i]? = some r.1[i] := List.getElem?_eq_getElem hlt
    obtain ⟨jgo, jy⟩ := iok.go F2 H2 st2.ff st2.tupS st2.good.sub stq i _ hti
    refine .inr ⟨jgo, Iv (i + 1), fun H' p' => ⟨r.1.length - (i + 1), by omega, rfl, hlt, p'⟩, fun x H3 hy => ?_⟩
    obtain ⟨nw, rx⟩ := jy x H3 hy
    rw [List.drop_eq_getElem_cons hlt] at el2
    unfold loopC at el2
    obtain ⟨o, G5, et, el3⟩ := bd_ok_inv el2
    obtain ⟨us2, G6', el4, e5⟩ := bd_ok_inv el3
    simp only [R.ok.injEq] at e5
    obtain ⟨e5, e6⟩ := e5
    subst e6
    -- the state with the item
    have g2 : Good F2 H2 (D :: A2) := st2.good
    have st3 : Step F2 H2 (D :: A2) F2 H3 (D :: A2) := nw.step g2
    have sm3 := nw.same
    have rs3 : RS X.K F2 H3 (wipe σ vs) G2 A2 := rs2.mono (Same.refl _) (Same.tupS sm3) fun a m => by
      obtain ⟨o, e, _⟩ := rs2.at a m
      rw [e]; exact sm3 a o e
    have hacc3 : H3 D = some (.lst acc) := sm3 D _ hacc
    have racc3 : RpL X.K F2 H3 acc us [] := racc.mono (Same.refl _) (Same.tupS sm3) fun _ m => by simp at m
    have gA3 : Good F2 H3 A2 := st3.good.less (fun a m => List.mem_cons_of_mem _ m) (List.nodup_cons.mp st3.good.nd).2
    unfold turnC at et
    cases eb : bindT tg r.1[i] G2 with
    | none => rw [eb] at et; cases et
    | some Gb =>
    simp only [eb] at et
    refine ⟨F2, G2, A2, r.1[i], [], rs3, rx, gA3, ?_⟩
    simp only [eb]
    intro σ2 D2 rsb sb nb lb kb
    have hw : wipe σ2 vs = wipe (wipe σ vs) vs := wipe_eq lb fun j hj => kb j fun z => hj (hn j z)
    have hww : wipe (wipe σ vs) vs = wipe σ vs := wipe_eq (wipe_length _ _) fun j hj => by rw [wipe_at hj]
    have hwe : wipe σ2 vs = wipe σ vs := hw.trans hww
    refine ⟨hwe, ?_⟩
    obtain ⟨okb, G7, et1, et2⟩ := bd_ok_inv et
    have eft := R.nx_ok et1
    -- D stands aside
    have gD : Good F2 H3 (D2 ++ [D]) := by
      refine st3.good.less (fun a m => ?_) ?_
      · rcases List.mem_append.mp m with m | m
        · exact List.mem_cons_of_mem _ (by simpa using sb a m)
        · rw [List.mem_singleton] at m; rw [m]; exact List.mem_cons_self
      · refine List.nodup_append.mpr ⟨nb, by simp, fun a ha b hb e => ?_⟩
        rw [List.mem_singleton] at hb
        subst hb e
        exact (List.nodup_cons.mp st3.good.nd).1 (by simpa using sb a ha)
    have stb : Step F2 H3 (D :: A2) F2 H3 (D2 ++ [D]) := st3.good.refl.drop (fun a m => by
      rcases List.mem_append.mp m with m | m
      · exact List.mem_cons_of_mem _ (by simpa using sb a m)
      · rw [List.mem_singleton] at m; rw [m]; exact List.mem_cons_self) gD.nd
    refine ⟨F2, Gb, D2, rsb, gD.left, ?_⟩
    rw [eft]
    intro kb' F4 H4 A4 B4 rs4 rl4 st4 sm4
    obtain ⟨rfl, rfl⟩ := rl4
    obtain ⟨st4', hk4⟩ := st4.beside gD fun b m => by
      rw [List.mem_singleton] at m; rw [m]; exact ⟨_, hacc3⟩
    have hacc4 : H4 D = some (.lst acc) := (hk4 D (by simp)).trans hacc3
    have racc4 : RpL X.K F4 H4 acc us [] := racc3.mono st4.ff st4.tupS fun _ m => by simp at m
    have stT4 : Step F1 H1 A1 F4 H4 (A4 ++ [D]) := (st2.trans st3).trans (stb.trans (by simpa using st4'))
    cases kb' with
    | false =>
      rw [if_neg Bool.false_ne_true]
      rw [if_neg Bool.false_ne_true] at et2
      simp only [R.ok.injEq] at et2
      obtain ⟨eo, e7⟩ := et2
      subst eo e7
      have lr : ∀ j ∈ vs, j < G7.length := fun j m => by
        have z := rs4.len
        have z2 := hrange j m
        have z3 : σ2.length = G7.length := z
        have z4 : σ2.length = G1.length := by rw [lb, wipe_length]; exact rs1.len
        omega
      obtain ⟨C4, rsO, sO, nO, lO⟩ := rsOuts vs rs4 lr
      rw [hwe] at rsO
      refine ⟨F4, outS G7 vs, C4, acc, us, us', rsO, ?_, fun j m => outS_at m lr, hacc4, racc4, stT4.drop (fun a m => ?_) ?_, fun z => ((sm2 z).trans sm3).trans (sm4 (and2 z).2), ?_, eus⟩
      · rw [lO]
        have z := rs4.len
        have z4 : σ2.length = G1.length := by rw [lb, wipe_length]; exact rs1.len
        omega
      · rcases List.mem_cons.mp m with m | m
        · rw [m]; simp
        · exact List.mem_append_left _ (sO a m)
      · obtain ⟨n1, n2, n3⟩ := List.nodup_append.mp stT4.good.nd
        exact List.nodup_cons.mpr ⟨fun m => n3 D (sO D m) D (by simp) rfl, nO n1⟩
      · have e8 : us2 = us' := e5
        rw [el4, e8]
    | true =>
      rw [if_pos rfl]
      rw [if_pos rfl] at et2
      obtain ⟨v, G8, et3, et4⟩ := bd_ok_inv et2
      have efe := R.nx_ok et3
      cases efm : v.fm with
      | none => simp only [efm] at et4; cases et4
      | some u =>
      simp only [efm, R.ok.injEq] at et4
      obtain ⟨eo, e7⟩ := et4
      subst eo e7
      refine ⟨F4, G7, A4, rs4, stT4.good.left, ?_⟩
      rw [efe]
      intro y F5 H5 A5 B5 rs5 v5 st5 sm5
      have g4D : Good F4 H4 (A4 ++ [D]) := stT4.good
      obtain ⟨st5', hk5⟩ := st5.beside g4D fun b m => by
        rw [List.mem_singleton] at m; rw [m]; exact ⟨_, hacc4⟩
      have hacc5 : H5 D = some (.lst acc) := (hk5 D (by simp)).trans hacc4
      have racc5 : RpL X.K F5 H5 acc us [] := racc4.mono st5.ff st5.tupS fun _ m => by simp at m
      have stT5 : Step F1 H1 A1 F5 H5 ((B5 ++ A5) ++ [D]) := stT4.trans st5'
      obtain ⟨Cy, ry, sy, ny⟩ := v5.fm efm
      have hlen : acc.length < sizeLine := by
        rw [racc.len]
        have e8 : u.fz :: us2 = us' := e5
        have := congrArg List.length eus
        rw [← e8, List.length_append, List.length_cons] at this
        omega
      refine ⟨acc, hacc5, hlen, ?_⟩
      -- given away, written
      have gF := stT5.good
      have gF' : Good F5 H5 (B5 ++ (A5 ++ [D])) := by rw [← List.append_assoc]; exact gF
      have nDB : ∀ a ∈ Cy, a ≠ D := fun a m z => gF'.apart (sy a m) (by rw [z]; simp)
      have nDA : ∀ a ∈ A5, a ≠ D := fun a m z => (List.nodup_append.mp gF'.right.nd).2.2 a m D (by simp) z
      have s6 : Step F5 H5 ((B5 ++ A5) ++ [D]) (join F5 H5 Cy) H5 (A5 ++ [D]) := gF.give (fun a m => List.mem_append_left _ (List.mem_append_left _ (sy a m))) (fun a m => ⟨by
        rcases List.mem_append.mp m with m | m
        · exact List.mem_append_left _ (List.mem_append_right _ m)
        · exact List.mem_append_right _ m, fun z => gF'.apart (sy a z) m⟩) gF'.right.nd
      have s7 : Step (join F5 H5 Cy) H5 (A5 ++ [D]) (join F5 H5 Cy) (upd H5 D (.lst (acc ++ [y]))) (A5 ++ [D]) := s6.good.write (by simp) hacc5 trivial
      have s67 := s6.trans s7
      have rsW : RS X.K (join F5 H5 Cy) (upd H5 D (.lst (acc ++ [y]))) σ2 G8 A5 := rs5.mono s67.ff s67.tupS fun a m => upd_ne (nDA a m)
      have rA : RpL X.K (join F5 H5 Cy) (upd H5 D (.lst (acc ++ [y]))) acc us [] := racc5.mono s67.ff s67.tupS fun _ m => by simp at m
      have rY : Rp X.K (join F5 H5 Cy) (upd H5 D (.lst (acc ++ [y]))) y u.fz [] := ry.toF s67.ff s67.tupS fun a m => join_in m
      have lr : ∀ j ∈ vs, j < G8.length := fun j m => by
        have z2 := hrange j m
        have z3 : σ2.length = G8.length := rs5.len
        have z4 : σ2.length = G1.length := by rw [lb, wipe_length]; exact rs1.len
        omega
      obtain ⟨C5, rsO, sO, nO, lO⟩ := rsOuts vs rsW lr
      rw [hwe] at rsO
      have stT6 := stT5.trans s67
      refine ⟨join F5 H5 Cy, outS G8 vs, C5, acc ++ [y], us ++ [u.fz], us2, rsO, ?_, fun j m => outS_at m lr, upd_same, RpL.append (B := []) (C := []) rA (.cons (A := []) (B := []) rY .nil), stT6.drop (fun a m => ?_) ?_, fun z => ?_, el4, ?_⟩
      · rw [lO]
        have z3 : σ2.length = G8.length := rs5.len
        have z4 : σ2.length = G1.length := by rw [lb, wipe_length]; exact rs1.len
        omega
      · rcases List.mem_cons.mp m with m | m
        · rw [m]; simp
        · exact List.mem_append_left _ (sO a m)
      · obtain ⟨n1, n2, n3⟩ := List.nodup_append.mp stT6.good.nd
        exact List.nodup_cons.mpr ⟨fun m => n3 D (sO D m) D (by simp) rfl, nO n1⟩
      · have sm := (((sm2 z).trans sm3).trans (sm4 (and2 z).2)).trans (sm5 (and2 z).1)
        intro b o e
        have nb : b ≠ D := ne_of_none e hD
        rw [upd_ne nb]
        exact sm b o e
      · have e8 : u.fz :: us2 = us' := e5
        rw [List.append_assoc, List.singleton_append, e8]
        exact eus
  · -- the end
    have ei : i = r.1.length := by omega
    refine .inl ⟨by rw [ei]; exact iok.stop F2 H2 st2.ff st2.tupS st2.good.sub stq, ?_⟩
    rw [List.drop_of_length_le (by omega)] at el2
    simp only [loopC, R.ok.injEq] at el2
    obtain ⟨e1, e2⟩ := el2
    subst e1 e2
    rw [List.append_nil] at eus
    subst eus
    obtain ⟨C2, rsB, sB, nB⟩ := rsBack vs rs2 hnone fun j m t e => by
      obtain ⟨v, hσ, rv⟩ := hid j m t e
      exact ⟨v, hσ, rv.mono st2.ff st2.tupS fun _ m => by simp at m⟩
    refine Post.fin h1 rsB (.own (.lstO hacc racc)) (st2.drop (fun a m => ?_) ?_) fun z => sm2 (and2 z).2
    · rcases List.mem_append.mp m with m | m
      · rw [List.mem_singleton] at m; rw [m]; exact List.mem_cons_self
      · exact List.mem_cons_of_mem _ (sB a m)
    · obtain ⟨n1, n2⟩ := List.nodup_cons.mp st2.good.nd
      refine List.nodup_append.mpr ⟨by simp, nB n2, fun a ha b hb e => ?_⟩
      rw [List.mem_singleton] at ha
      subst ha e
      exact n1 (sB a hb)
theorem se_lc (hc : X.calm = true) (hN : X.N.Nodup) (hi : SI X tgE iter qi fi) (ok : BlkOk X.N X.env.scope scope own)
    (hg : ∀ (s : Shared) (H : Hp) (C : Addr) (cl : List (Str × Addr)) (fp : List Addr), PG (X.blk s H scope (compEnvC scope cl C X.env) fp) tgE (gB X.K tg))
    (ht : ∀ (s : Shared) (H : Hp) (C : Addr) (cl : List (Str × Addr)) (fp : List Addr), PTs (X.blk s H scope (compEnvC scope cl C X.env) fp) ifs (tTs X.K X.mg W0 qt ft))
    (he : ∀ (s : Shared) (H : Hp) (C : Addr) (cl : List (Str × Addr)) (fp : List Addr), PE (X.blk s H scope (compEnvC scope cl C X.env) fp) elt (tE X.K X.mg W0 qe fe))
    (hs : ∀ x, foldedSetIterable iter X.env x = pure x) (hn : ∀ j ∈ tg.names, j ∈ own.map (·.2)) :
    SE X (.ListComp elt [⟨tgE, iter, ifs, 0⟩] scope pos) (qi && (qe && qt)) (fun G => (fi G).bd fun r G1 => if ((r.2 || (qe && qt)) && freeS G1 (own.map (·.2))) = true then
      (loopC (turnC tg ft fe (own.map (·.2))) r.1 (outS G1 (own.map (·.2)))).bd fun ts G6 => if ts.length ≤ sizeLine then .ok (.own (.lst true ts)) (backS G6 G1 (own.map (·.2))) else .no
      else .no) :=
  fun W tk => peImp (lc_imp hn W) (pe_lc hc hN (hi W tk) ok hg ht he hs)
end
end QX

set_option Elab.async false
set_option linter.all false
set_option maxRecDepth 100000
/-! every expression that passes the check computes as the evaluator says -/
namespace QX
open PySem PySem.Spec L2

/-- what is fixed for a def's body: its names, the calls, the module's constants, the defs' parameters -/
structure Ck where
  N : List Str
  fs : Str → Bool
  ex : Str → Bool
structure Cf extends Ck where
  Φ : Str → List T → FR
  gl : Str → Option T

def bltNames : List Str := ["len", "abs", "max", "min", "sum", "all", "any", "list", "tuple", "int", "str", "repr", "sorted", "set", "isinstance", "range", "zip", "enumerate", "reversed", "dict", "bool", "float", "bytes"]
def tyNames : List String := ["int", "bool", "str", "list", "tuple", "dict", "float", "bytes"]

structure SX (c : Cf) (X : Cx) (sc : Scope) (fn : Str → Bool) : Prop where
  hN : X.N = c.N
  nd : X.N.Nodup
  calm : X.calm = true
  sc : X.env.scope = sc
  fn : X.fn = fn
  blt : ∀ x ∈ bltNames, X.mg x = none
  fun_ : ∀ f, c.fs f = true → ∃ (n : Nat) (a : Addr) (fd : FuncData) (ps : List Str), FnOk X.prog X.w X.K X.mg X.base (L2.CX X.prog X.w) n a fd ps (spF X.K X.mg (c.Φ f)) ∧ Room n X.A ∧ X.mg f = some (.ref a) ∧ PySem.W.keepIn X.K (.ref a) = true ∧ Binds X.K fd ps []
  glo : ∀ x t, c.gl x = some t → ∃ u v, X.mg x = some u ∧ RelV v u ∧ ∀ F H, Rp X.K F H v t []
  un : X.A.units + 65 < cLine
  exc : ∀ x, c.ex x = true → ∃ (C : Addr) (B newId initId : String) (bmB : List Value), X.mg x = some (.ref C) ∧ PySem.W.keepIn X.K (.ref C) = true ∧ ExcBaseFacts B newId initId bmB ∧ PySem.W.excIn X.K C bmB newId = true ∧
    PySem.W.subIn X.K (.ref C) (.type "BaseException") = some true ∧ PySem.W.typeIn X.K (.ref C) = some (.type "type")

/-! ### the check -/
def notDbg (x : Str) : Bool := (x == ("__debug__" : Str)) == false && (x == ("__classdict__" : Str)) == false
def visOk (N : List Str) (sc : Scope) (i : Nat) (x : Str) : Bool := (N[i]? == some x) && ((sc.names.lookup x == some .local) || (sc.names.lookup x == some .cell) || (sc.names.lookup x == some .free)) && notDbg x
def gloOk (sc : Scope) (x : Str) : Bool := (sc.names.lookup x == some .globalImplicit) && notDbg x
def chkTy (sc : Scope) (b : String) : Expr → Bool
  | .Name x _ => x == Str.ofString b && gloOk sc x && tyNames.contains b
  | _ => false
def chkTys (sc : Scope) : List String → List Expr → Bool
  | [], [] => true
  | b :: bs, e :: es => chkTy sc b e && chkTys sc bs es
  | _, _ => false
mutual
/-- may stand as a test -/
def tst : Ex → Bool
  | .ite _ _ _ => false
  | .nev => false
  | .not a => tst a
  | .and es => tstL es
  | .or es => tstL es
  | _ => true
def tstL : List Ex → Bool
  | [] => true
  | e :: es => tst e && tstL es
end
def ownL (N : List Str) (own : List Nat) : List (Str × Nat) := own.filterMap fun i => (N[i]?).map (·, i)
/-- what may be a part of anything -/
def plainE : Expr → Bool
  | .Starred _ _ => false
  | .Set _ _ _ => false
  | .Slice _ _ _ _ => false
  | _ => true
section
variable (c : Ck)
mutual
def chkE (sc : Scope) (fn : Str → Bool) : Ex → Expr → Bool
  | .var i => fun e => match e with
    | .Name x _ => visOk c.N sc i x
    | _ => false
  | .mov i => fun e => match e with
    | .Name x _ => visOk c.N sc i x
    | _ => false
  | .shr i => fun e => match e with
    | .Name x _ => visOk c.N sc i x
    | _ => false
  | .ref i => fun e => match e with
    | .Name x _ => visOk c.N sc i x
    | _ => false
  | .glo x => fun e => match e with
    | .Name y _ => x == y && gloOk sc x
    | _ => false
  | .int i => fun e => match e with
    | .Constant (.int j) _ _ => i == j
    | _ => false
  | .str x => fun e => match e with
    | .Constant (.str y) _ _ => x == y
    | _ => false
  | .bl b => fun e => match e with
    | .Constant (.bool k) _ _ => b == k
    | _ => false
  | .non => fun e => match e with
    | .Constant .none _ _ => true
    | _ => false
  | .bin op a b => fun e => match e with
    | .BinOp a' o b' _ => decide (o = op.py) && chkE sc fn a a' && chkE sc fn b b'
    | _ => false
  | .neg a => fun e => match e with
    | .UnaryOp .USub a' _ => chkE sc fn a a'
    | _ => false
  | .cmp op a b => fun e => match e with
    | .Compare a' [o] [b'] _ => decide (o = op.py) && chkE sc fn a a' && chkE sc fn b b'
    | _ => false
  | .chn op op' a b d => fun e => match e with
    | .Compare a' [o, o'] [b', d'] _ => decide (o = op.py) && decide (o' = op'.py) && chkE sc fn a a' && chkE sc fn b b' && chkE sc fn d d' && (lastMarks [op.py, op'.py] [b', d'] == false)
    | _ => false
  | .isN a => fun e => match e with
    | .Compare a' [.Is] [.Constant .none _ _] _ => chkE sc fn a a'
    | _ => false
  | .noN a => fun e => match e with
    | .Compare a' [.IsNot] [.Constant .none _ _] _ => chkE sc fn a a'
    | _ => false
  | .isB k a => fun e => match e with
    | .Compare a' [.Is] [.Constant (.bool j) _ _] _ => k == j && chkE sc fn a a'
    | _ => false
  | .noB k a => fun e => match e with
    | .Compare a' [.IsNot] [.Constant (.bool j) _ _] _ => k == j && chkE sc fn a a'
    | _ => false
  | .and es => fun e => match e with
    | .BoolOp .And es' _ => !es.isEmpty && chkL sc fn es es'
    | _ => false
  | .or es => fun e => match e with
    | .BoolOp .Or es' _ => !es.isEmpty && chkL sc fn es es'
    | _ => false
  | .not a => fun e => match e with
    | .UnaryOp .Not a' _ => chkE sc fn a a'
    | _ => false
  | .ite d a b => fun e => match e with
    | .IfExp d' a' b' _ => chkE sc fn d d' && tst d && chkE sc fn a a' && chkE sc fn b b'
    | _ => false
  | .tup es => fun e => match e with
    | .Tuple es' _ _ => chkL sc fn es es'
    | _ => false
  | .lst es => fun e => match e with
    | .List es' _ => chkL sc fn es es'
    | _ => false
  | .ix a b => fun e => match e with
    | .Subscript a' b' _ => chkE sc fn a a' && chkE sc fn b b'
    | _ => false
  | .sl0 a => fun e => match e with
    | .Subscript a' (.Slice none none none _) _ => chkE sc fn a a'
    | _ => false
  | .slL a l => fun e => match e with
    | .Subscript a' (.Slice (some l') none none _) _ => chkE sc fn a a' && chkE sc fn l l'
    | _ => false
  | .slH a h => fun e => match e with
    | .Subscript a' (.Slice none (some h') none _) _ => chkE sc fn a a' && chkE sc fn h h'
    | _ => false
  | .slB a l h => fun e => match e with
    | .Subscript a' (.Slice (some l') (some h') none _) _ => chkE sc fn a a' && chkE sc fn l l' && chkE sc fn h h'
    | _ => false
  | .rev a => fun e => match e with
    | .Subscript a' (.Slice none none (some (.UnaryOp .USub (.Constant (.int 1) _ _) _)) _) _ => chkE sc fn a a'
    | _ => false
  | .bfn f es => fun e => match e with
    | .Call (.Name x _) es' [] _ => x == f.nm && gloOk sc x && f.sup && !es.isEmpty && chkL sc fn es es'
    | _ => false
  | .isi a ty => fun e => match e with
    | .Call (.Name x _) [a', t] [] _ => x == ("isinstance" : Str) && gloOk sc x && chkE sc fn a a' && (match ty with
      | [b] => (match t with
        | .Tuple _ _ _ => false
        | _ => chkTy sc b t)
      | bs => decide (bs.length ≤ 30) && (match t with
        | .Tuple ts _ _ => chkTys sc bs ts
        | _ => false))
    | _ => false
  | .cal f es => fun e => match e with
    | .Call (.Name x _) es' [] _ => x == f && gloOk sc x && c.fs f && !es.isEmpty && chkL sc fn es es'
    | _ => false
  | .clk _ _ _ _ => fun _ => false
  | .met m o es => fun e => match e with
    | .Call (.Attribute o' a ap) es' [] cp => (match m with
      | .index => a == ("index" : Str) && plainRecv o' && (ap.endLine == cp.line) && decide (es.length < 30) && !es.isEmpty && chkE sc fn o o' && chkL sc fn es es'
      | _ => false)
    | _ => false
  | .mut m i es => fun e => match e with
    | .Call (.Attribute (.Name x _) a ap) es' [] cp => visOk c.N sc i x && a == m.nm && (ap.endLine == cp.line) && chkL sc fn es es' && (match m, es with
      | .append, [_] => true
      | .appendO, [_] => true
      | .pop, [_] => true
      | .pop, [] => true
      | .clear, [] => true
      | .reverse, [] => true
      | _, _ => false)
    | _ => false
  | .lc elt tg k its ifs own => fun e => match e with
    | .ListComp elt' [⟨tg', it', ifs', 0⟩] scope _ =>
      blkC c.N sc scope (ownL c.N own) && decide ((ownL c.N own).map (·.2) = own) && (tg.names.all fun j => own.contains j) && chkTg c.N (relS scope sc) (fun x => scope.names.lookup x == some .cell) tg tg' &&
      chkE (relS scope sc) (fun x => scope.names.lookup x == some .cell) elt elt' && decide (ifs.length ≤ 1) && tstL ifs && chkL (relS scope sc) (fun x => scope.names.lookup x == some .cell) ifs ifs' &&
      (match k with
        | .val => (match its with
          | [_] => chkL sc fn its [it']
          | _ => false)
        | k => (match it' with
          | .Call (.Name x _) es' [] _ => x == k.nm && gloOk sc x && ikOk k its.length tg' && chkL sc fn its es'
          | _ => false))
    | _ => false
  | .nev => plainE
  | .lrg a => fun e => match e with
    | .Call (.Name x _) [.Call (.Name y _) [a'] [] _] [] _ => x == ("list" : Str) && y == ("range" : Str) && gloOk sc x && gloOk sc y && chkE sc fn a a'
    | _ => false
def chkL (sc : Scope) (fn : Str → Bool) : List Ex → List Expr → Bool
  | [] => fun es => match es with
    | [] => true
    | _ => false
  | e :: es => fun es' => match es' with
    | e' :: r => chkE sc fn e e' && chkL sc fn es r
    | [] => false
end
end

theorem plain_star {e : Expr} (h : plainE e = true) : noStar e = true := by
  cases e <;> first | rfl | (simp [plainE] at h)
theorem plain_ix {e : Expr} (h : plainE e = true) : PlainIx e := by
  cases e <;> first | (intro o i; rfl) | (simp [plainE] at h)
theorem plain_mark {e : Expr} {op : CmpOp} (h : plainE e = true) : behindInMarks op e = false := by
  cases e <;> first | rfl | (simp [plainE] at h)
theorem plain_set {e : Expr} {env : Env} (h : plainE e = true) : ∀ x, foldedSetIterable e env x = pure x := by
  intro x
  cases e <;> first | rfl | (simp [plainE] at h)
/-- its test is its value's truth -/
def plainT : Expr → Bool
  | .UnaryOp .Not _ _ => false
  | .BoolOp _ _ _ => false
  | .IfExp _ _ _ _ => false
  | .Compare _ _ _ _ => false
  | _ => true
theorem plain_test {e : Expr} {env : Env} (h : plainT e = true) : ∀ whole, isTrue e env whole = (do let v ← whole; standAt e.pos; holding [v] (truthy v)) := by
  intro whole
  cases e with
  | UnaryOp op a p => cases op <;> first | rfl | (simp [plainT] at h)
  | BoolOp => simp [plainT] at h
  | IfExp => simp [plainT] at h
  | Compare => simp [plainT] at h
  | _ => rfl
section
variable {c : Ck} {sc : Scope} {fn : Str → Bool}
theorem chk_plain {ex : Ex} {e : Expr} (h : chkE c sc fn ex e = true) : plainE e = true := by
  cases ex <;> (unfold chkE at h; first | exact h | (cases h; done) | (split at h <;> first | rfl | (cases h; done)))
theorem chkL_plain : ∀ {exs : List Ex} {es : List Expr}, chkL c sc fn exs es = true → es.all noStar = true ∧ es.length = exs.length
  | [], [], _ => ⟨rfl, rfl⟩
  | [], _ :: _, h => by simp [chkL] at h
  | _ :: _, [], h => by simp [chkL] at h
  | x :: xs, e :: es, h => by
    unfold chkL at h
    simp only [Bool.and_eq_true] at h
    obtain ⟨h1, h2⟩ := chkL_plain h.2
    rw [List.all_cons, plain_star (chk_plain h.1), h1, List.length_cons, List.length_cons, h2]
    exact ⟨rfl, rfl⟩
end
end QX

set_option Elab.async false
set_option linter.all false
set_option maxRecDepth 100000
set_option maxHeartbeats 8000000
/-! every expression that passes the check computes as the evaluator says: the theorem -/
namespace QX
open PySem PySem.Spec L2

section
variable {c : Cf} {sc : Scope} {fn : Str → Bool} {X : Cx}
theorem evalL_len : ∀ {es : List Ex} {G G1 : Sl} {vs : List Ev}, evalL c.Φ c.gl es G = .ok vs G1 → vs.length = es.length
  | [], G, G1, vs, h => by
    unfold evalL at h
    cases h; rfl
  | e :: es, G, G1, vs, h => by
    unfold evalL at h
    obtain ⟨v, G2, h1, h2⟩ := bd_ok_inv h
    obtain ⟨us, G3, h3, h4⟩ := bd_ok_inv h2
    split at h4
    · split at h4
      · cases h4
        rw [List.length_cons, List.length_cons, evalL_len h3]
      · cases h4
    · cases h4
theorem evalL_noRf : ∀ {es : List Ex} {G G1 : Sl} {vs : List Ev}, quietL es = true → evalL c.Φ c.gl es G = .ok vs G1 → noRf vs = true
  | [], G, G1, vs, _, h => by
    unfold evalL at h
    cases h; rfl
  | e :: es, G, G1, vs, hq, h => by
    unfold quietL at hq
    obtain ⟨q1, q2⟩ := and2 hq
    unfold evalL at h
    obtain ⟨v, G2, h1, h2⟩ := bd_ok_inv h
    obtain ⟨us, G3, h3, h4⟩ := bd_ok_inv h2
    split at h4
    · split at h4
      · rename_i hr
        cases h4
        have ih := evalL_noRf q2 h3
        rw [q1] at hr
        cases v with
        | own t => exact ih
        | vw t => exact ih
        | rf i => simp [Ev.isRf] at hr
      · cases h4
    · cases h4
theorem SE.q {e : Expr} {q q' : Bool} {f : Sl → R Ev} (h : SE X e q f) (e' : q = q') : SE X e q' f := e' ▸ h
theorem ST.q {e : Expr} {q q' : Bool} {f : Sl → R Bool} (h : ST X e q f) (e' : q = q') : ST X e q' f := e' ▸ h
theorem SX.units (s : SX c X sc fn) : X.A.units + 65 < cLine := s.un
theorem SX.vis (s : SX c X sc fn) {i : Nat} {x : Str} {p : Pos} (h : visOk c.N sc i x = true) : PE X (.Name x p) (tVar i) := by
  unfold visOk notDbg at h
  simp only [Bool.and_eq_true, Bool.or_eq_true, beq_iff_eq] at h
  obtain ⟨⟨h1, h2⟩, h3, h4⟩ := h
  refine pe_var (by rw [s.hN]; exact h1) ?_ h3 h4
  rw [s.sc]
  rcases h2 with (h2 | h2) | h2
  · exact .inl h2
  · exact .inr (.inl h2)
  · exact .inr (.inr h2)
theorem SX.gl_ (s : SX c X sc fn) {x : Str} (h : gloOk sc x = true) : Gl X x ∧ (x == ("__debug__" : Str)) = false := by
  unfold gloOk notDbg at h
  simp only [Bool.and_eq_true, beq_iff_eq] at h
  refine ⟨?_, h.2.1⟩
  show X.env.scope.names.lookup x = _
  rw [s.sc]; exact h.1
theorem tyBoot : ∀ b ∈ tyNames, bootBuiltins (Str.ofString b) = some (.type b) ∧ Str.ofString b ∈ bltNames ∧ Str.ofString b ≠ "__name__" := by decide +kernel
theorem SX.ty (s : SX c X sc fn) {b : String} {e : Expr} (h : chkTy sc b e = true) : TyName X e b := by
  unfold chkTy at h
  split at h
  · simp only [Bool.and_eq_true, beq_iff_eq] at h
    obtain ⟨⟨rfl, h2⟩, h3⟩ := h
    obtain ⟨g1, g2⟩ := s.gl_ h2
    obtain ⟨b1, b2, b3⟩ := tyBoot b (by simpa using h3)
    exact ⟨pe_bltn g1 (s.blt _ b2) b1 rfl b3 g2, rfl⟩
  · cases h
theorem SX.tys (s : SX c X sc fn) : ∀ {bs : List String} {es : List Expr}, chkTys sc bs es = true → Paired (fun b t => TyName X t b) bs es
  | [], [], _ => .nil
  | b :: bs, e :: es, h => by
    unfold chkTys at h
    obtain ⟨h1, h2⟩ := and2 h
    exact .cons (s.ty h1) (s.tys h2)
  | [], _ :: _, h => by simp [chkTys] at h
  | _ :: _, [], h => by simp [chkTys] at h
theorem SX.blk (s : SX c X sc fn) (s1 : Shared) (H : Hp) (scope : Scope) (C : Addr) (cl : List (Str × Addr)) (fp : List Addr) :
    SX c (X.blk s1 H scope (compEnvC scope cl C X.env) fp) (relS scope sc) (fun x => scope.names.lookup x == some .cell) := by
  refine ⟨s.hN, s.nd, s.calm, ?_, rfl, s.blt, s.fun_, s.glo, s.un, s.exc⟩
  rw [← s.sc]; rfl
theorem ptsImp {X : Cx} {e : List Expr} {t t' : TT} (h : ∀ σ H Q, t' σ H Q → t σ H Q) (p : PTs X e t) : PTs X e t' := ⟨fun pins s σ H Q I w => p.run pins s σ H Q I (h _ _ _ w)⟩
theorem ownL_ix {N : List Str} : ∀ {own : List Nat}, (ownL N own).map (·.2) = own → ∀ p ∈ ownL N own, N[p.2]? = some p.1 := by
  intro own _ p hp
  unfold ownL at hp
  obtain ⟨i, _, e⟩ := List.mem_filterMap.mp hp
  cases q : N[i]? with
  | none => rw [q] at e; cases e
  | some x =>
    rw [q] at e
    simp only [Option.map_some, Option.some.injEq] at e
    subst e
    exact q
theorem bltMem (f : Bfn) : f.nm ∈ bltNames := by cases f <;> decide +kernel
theorem ikMem {k : Ik} {n : Nat} {tg : Expr} (h : ikOk k n tg = true) : k.nm ∈ bltNames := by cases k <;> first | (cases h; done) | decide +kernel
theorem st_se {e : Expr} {q : Bool} {f : Sl → R Ev} (hp : plainT e = true) (h : SE X e q f) : SE X e q f ∧ ST X e q (trT f) := ⟨h, st_of (plain_test hp) h⟩
theorem bd_assoc {α β γ : Type} (r : R α) (k : α → Sl → R β) (l : β → Sl → R γ) : (r.bd k).bd l = r.bd fun a G => (k a G).bd l := by
  cases r <;> rfl
theorem bd_of {α β : Type} (o : Option α) (G : Sl) (k : α → Sl → R β) : (R.of G o).bd k = match o with
  | some a => k a G
  | none => .no := by cases o <;> rfl
theorem bd_if {α β : Type} (p : Prop) [Decidable p] (r : R α) (k : α → Sl → R β) : (if p then r else R.no).bd k = if p then r.bd k else .no := by
  by_cases h : p
  · rw [if_pos h, if_pos h]
  · rw [if_neg h, if_neg h]; rfl

mutual
theorem sound : ∀ (ex : Ex) {X : Cx} {sc : Scope} {fn : Str → Bool}, SX c X sc fn → ∀ {e : Expr}, chkE c.toCk sc fn ex e = true → SE X e (quiet ex) (evalE c.Φ c.gl ex) ∧ (tst ex = true → ST X e (quiet ex) (trT (evalE c.Φ c.gl ex)))
  | .var i, X, sc, fn, s, e, h => by
    unfold chkE at h
    split at h
    · exact ⟨se_var (s.vis h), fun _ => (st_se rfl (se_var (s.vis h))).2⟩
    · cases h
  | .mov i, X, sc, fn, s, e, h => by
    unfold chkE at h
    split at h
    · exact ⟨se_mov (s.vis h), fun _ => (st_se rfl (se_mov (s.vis h))).2⟩
    · cases h
  | .shr i, X, sc, fn, s, e, h => by
    unfold chkE at h
    split at h
    · exact ⟨se_shr (s.vis h), fun _ => (st_se rfl (se_shr (s.vis h))).2⟩
    · cases h
  | .ref i, X, sc, fn, s, e, h => by
    unfold chkE at h
    split at h
    · exact ⟨se_ref (s.vis h), fun _ => (st_se rfl (se_ref (s.vis h))).2⟩
    · cases h
  | .glo x, X, sc, fn, s, e, h => by
    unfold chkE at h
    split at h
    · rename_i y pos
      obtain ⟨h1, h2⟩ := and2 h
      rw [beq_iff_eq] at h1
      subst h1
      obtain ⟨g1, g2⟩ := s.gl_ h2
      have z : SE X (.Name x pos) true (evalE c.Φ c.gl (.glo x)) := by
        cases eg : c.gl x with
        | none => exact se_never fun G => by unfold evalE; rw [eg]
        | some t =>
          obtain ⟨u, v, m, r, rp⟩ := s.glo x t eg
          by_cases hf : t.isF = true
          · refine se_eq (se_const (pe_glob g1 m r g2) rp) fun G => ?_
            unfold evalE
            rw [eg]
            simp only [if_pos hf]
          · exact se_never fun G => by
              unfold evalE
              rw [eg]
              simp only [if_neg hf]
      exact ⟨z, fun _ => (st_se rfl z).2⟩
    · cases h
  | .int i, X, sc, fn, s, e, h => by
    unfold chkE at h
    split at h
    · rw [beq_iff_eq] at h
      subst h
      exact ⟨se_const pe_int fun F H => .int i, fun _ => (st_se rfl (se_const pe_int fun F H => .int i)).2⟩
    · cases h
  | .str x, X, sc, fn, s, e, h => by
    unfold chkE at h
    split at h
    · rw [beq_iff_eq] at h
      subst h
      exact ⟨se_const pe_str fun F H => .str x, fun _ => (st_se rfl (se_const pe_str fun F H => .str x)).2⟩
    · cases h
  | .bl b, X, sc, fn, s, e, h => by
    unfold chkE at h
    split at h
    · rw [beq_iff_eq] at h
      subst h
      exact ⟨se_const pe_bl fun F H => .bl b, fun _ => (st_se rfl (se_const pe_bl fun F H => .bl b)).2⟩
    · cases h
  | .non, X, sc, fn, s, e, h => by
    unfold chkE at h
    split at h
    · exact ⟨se_const pe_non fun F H => .non, fun _ => (st_se rfl (se_const pe_non fun F H => .non)).2⟩
    · cases h
  | .bin op a b, X, sc, fn, s, e, h => by
    unfold chkE at h
    split at h
    · simp only [Bool.and_eq_true, decide_eq_true_eq] at h
      obtain ⟨⟨rfl, h1⟩, h2⟩ := h
      have z := se_bin op (pos := by assumption) (sound a s h1).1 (sound b s h2).1
      exact ⟨z, fun _ => (st_se rfl z).2⟩
    · cases h
  | .neg a, X, sc, fn, s, e, h => by
    unfold chkE at h
    split at h
    · have z := se_neg (pos := by assumption) (sound a s h).1
      exact ⟨z, fun _ => (st_se rfl z).2⟩
    · cases h
  | .cmp op a b, X, sc, fn, s, e, h => by
    unfold chkE at h
    split at h
    · simp only [Bool.and_eq_true, decide_eq_true_eq] at h
      obtain ⟨⟨rfl, h1⟩, h2⟩ := h
      have ha := (sound a s h1).1
      have hb := (sound b s h2).1
      refine ⟨se_cmp op s.un (plain_mark (chk_plain h2)) ha hb, fun _ => st_eq (st_cmp op s.un (plain_mark (chk_plain h2)) ha hb) fun G => ?_⟩
      unfold trT
      show _ = R.bd (evalE c.Φ c.gl (.cmp op a b) G) _
      rw [evalE, bd_assoc]
      congr 1; funext x G1
      rw [bd_assoc]
      congr 1; funext y G2
      rw [bd_if]
      congr 1
      rw [bd_of]
      cases cmpop op x y <;> rfl
    · cases h
  | .chn op op' a b d, X, sc, fn, s, e, h => by
    unfold chkE at h
    split at h
    · simp only [Bool.and_eq_true, decide_eq_true_eq, beq_iff_eq] at h
      obtain ⟨⟨⟨⟨⟨rfl, rfl⟩, h1⟩, h2⟩, h3⟩, h4⟩ := h
      have ha := (sound a s h1).1
      have hb := (sound b s h2).1
      have hd := (sound d s h3).1
      refine ⟨se_chn op op' s.un h4 ha hb hd, fun _ => st_eq (st_chn op op' s.un h4 ha hb hd) fun G => ?_⟩
      unfold trT
      show _ = R.bd (evalE c.Φ c.gl (.chn op op' a b d) G) _
      rw [evalE, bd_assoc]
      congr 1; funext x G1
      rw [bd_assoc]
      congr 1; funext y G2
      rw [bd_if]
      congr 1
      cases cmpop op x y with
      | none => rfl
      | some k => cases k with
        | false => rfl
        | true =>
          show _ = R.bd (R.bd _ _) _
          rw [bd_assoc]
          show R.bd _ _ = _
          congr 1; funext z G3
          rw [bd_if]
          congr 1
          rw [bd_of]
          cases cmpop op' y z <;> rfl
    · cases h
  | .isN a, X, sc, fn, s, e, h => by
    unfold chkE at h
    split at h
    · have ha := (sound a s h).1
      refine ⟨se_isN ha, fun _ => st_B (W' := W0) (fun W tk => pt_cmp (pc_isN (ha W tk)) rfl) (fun W σ H Q h => t_isN h) fun G v G1 e => ?_⟩
      obtain ⟨x, G2, _, e2⟩ := bd_ok_inv e
      revert e2
      cases x.tr with
      | none => intro z; cases z
      | some t => cases t <;> (intro z; cases z) <;> exact ⟨_, rfl⟩
    · cases h
  | .noN a, X, sc, fn, s, e, h => by
    unfold chkE at h
    split at h
    · have ha := (sound a s h).1
      refine ⟨se_noN ha, fun _ => st_B (W' := W0) (fun W tk => pt_cmp (pc_notN (ha W tk)) rfl) (fun W σ H Q h => t_noN h) fun G v G1 e => ?_⟩
      obtain ⟨x, G2, _, e2⟩ := bd_ok_inv e
      revert e2
      cases x.tr with
      | none => intro z; cases z
      | some t => cases t <;> (intro z; cases z) <;> exact ⟨_, rfl⟩
    · cases h
  | .isB k a, X, sc, fn, s, e, h => by
    unfold chkE at h
    split at h
    · obtain ⟨h1, h2⟩ := and2 h
      rw [beq_iff_eq] at h1
      subst h1
      have ha := (sound a s h2).1
      refine ⟨se_isB ha, fun _ => st_B (W' := W0) (fun W tk => pt_cmpR op_isBl (ha W tk) pe_bl (nomark _)) (fun W σ H Q h => t_isB h) fun G v G1 e => ?_⟩
      obtain ⟨x, G2, _, e2⟩ := bd_ok_inv e
      revert e2
      cases x.tr with
      | none => intro z; cases z
      | some t => cases t <;> (intro z; cases z) <;> exact ⟨_, rfl⟩
    · cases h
  | .noB k a, X, sc, fn, s, e, h => by
    unfold chkE at h
    split at h
    · obtain ⟨h1, h2⟩ := and2 h
      rw [beq_iff_eq] at h1
      subst h1
      have ha := (sound a s h2).1
      refine ⟨se_noB ha, fun _ => st_B (W' := W0) (fun W tk => pt_cmpR op_notBl (ha W tk) pe_bl (nomark _)) (fun W σ H Q h => t_noB h) fun G v G1 e => ?_⟩
      obtain ⟨x, G2, _, e2⟩ := bd_ok_inv e
      revert e2
      cases x.tr with
      | none => intro z; cases z
      | some t => cases t <;> (intro z; cases z) <;> exact ⟨_, rfl⟩
    · cases h
  | .and es, X, sc, fn, s, e, h => by
    unfold chkE at h
    split at h
    · obtain ⟨h1, h2⟩ := and2 h
      have ih := soundA es s h2 (by simpa using h1)
      exact ⟨ih.1 _, fun ht => (ih.2 _ ht).st⟩
    · cases h
  | .or es, X, sc, fn, s, e, h => by
    unfold chkE at h
    split at h
    · obtain ⟨h1, h2⟩ := and2 h
      have ih := soundO es s h2 (by simpa using h1)
      exact ⟨ih.1 _, fun ht => (ih.2 _ ht).st⟩
    · cases h
  | .not a, X, sc, fn, s, e, h => by
    unfold chkE at h
    split at h
    · have ih := sound a s h
      refine ⟨se_not ih.1, fun ht => st_eq (st_not (ih.2 ht)) fun G => ?_⟩
      unfold trT
      show _ = R.bd (evalE c.Φ c.gl (.not a) G) _
      rw [evalE, bd_assoc, bd_assoc]
      congr 1; funext x G1
      rw [bd_of]
      cases x.truth <;> rfl
    · cases h
  | .ite d a b, X, sc, fn, s, e, h => by
    unfold chkE at h
    split at h
    · simp only [Bool.and_eq_true] at h
      obtain ⟨⟨⟨h1, h2⟩, h3⟩, h4⟩ := h
      refine ⟨?_, fun ht => by cases ht⟩
      refine SE.q (se_eq (se_ite ((sound d s h1).2 h2) (sound a s h3).1 (sound b s h4).1) fun G => ?_) (by simp [quiet, Bool.and_assoc])
      unfold trT
      rw [evalE, bd_assoc]
      congr 1; funext x G1
      rw [bd_of]
      cases x.truth with
      | none => rfl
      | some k => cases k <;> rfl
    · cases h
  | .tup es, X, sc, fn, s, e, h => by
    unfold chkE at h
    split at h
    · have z := se_tup (pos := by assumption) (k := by assumption) (soundL es s h)
      exact ⟨z, fun _ => (st_se rfl z).2⟩
    · cases h
  | .lst es, X, sc, fn, s, e, h => by
    unfold chkE at h
    split at h
    · have z := se_lst (pos := by assumption) (soundL es s h)
      exact ⟨z, fun _ => (st_se rfl z).2⟩
    · cases h
  | .ix a b, X, sc, fn, s, e, h => by
    unfold chkE at h
    split at h
    · obtain ⟨h1, h2⟩ := and2 h
      have z := se_ix (pos := by assumption) (plain_ix (chk_plain h2)) (sound a s h1).1 (sound b s h2).1
      exact ⟨z, fun _ => (st_se rfl z).2⟩
    · cases h
  | .sl0 a, X, sc, fn, s, e, h => by
    unfold chkE at h
    split at h
    · rename_i a' p2 pos
      have z := se_sl0 (p2 := p2) (pos := pos) (sound a s h).1
      exact ⟨z, fun _ => (st_se rfl z).2⟩
    · cases h
  | .slL a l, X, sc, fn, s, e, h => by
    unfold chkE at h
    split at h
    · rename_i a' l' p2 pos
      obtain ⟨h1, h2⟩ := and2 h
      have z := se_slL (p2 := p2) (pos := pos) (sound a s h1).1 (sound l s h2).1
      exact ⟨z, fun _ => (st_se rfl z).2⟩
    · cases h
  | .slH a l, X, sc, fn, s, e, h => by
    unfold chkE at h
    split at h
    · rename_i a' l' p2 pos
      obtain ⟨h1, h2⟩ := and2 h
      have z := se_slH (p2 := p2) (pos := pos) (sound a s h1).1 (sound l s h2).1
      exact ⟨z, fun _ => (st_se rfl z).2⟩
    · cases h
  | .slB a l d, X, sc, fn, s, e, h => by
    unfold chkE at h
    split at h
    · rename_i a' l' d' p2 pos
      simp only [Bool.and_eq_true] at h
      obtain ⟨⟨h1, h2⟩, h3⟩ := h
      have z := se_slB (p2 := p2) (pos := pos) (sound a s h1).1 (sound l s h2).1 (sound d s h3).1
      exact ⟨z, fun _ => (st_se rfl z).2⟩
    · cases h
  | .rev a, X, sc, fn, s, e, h => by
    unfold chkE at h
    split at h
    · rename_i a' k p1 p2 p3 pos
      have z := se_rev (k := k) (p1 := p1) (p2 := p2) (p3 := p3) (pos := pos) (sound a s h).1
      exact ⟨z, fun _ => (st_se rfl z).2⟩
    · cases h
  | .bfn f es, X, sc, fn, s, e, h => by
    unfold chkE at h
    split at h
    · rename_i x p es' pos
      simp only [Bool.and_eq_true, beq_iff_eq, Bool.not_eq_true'] at h
      obtain ⟨⟨⟨⟨rfl, h2⟩, h3⟩, h4⟩, h5⟩ := h
      have hl := soundL es s h5
      obtain ⟨p1, p2⟩ := chkL_plain h5
      cases es' with
      | nil => cases es <;> first | (simp at h4; done) | (simp at p2; done)
      | cons e0 es0 =>
        have z := se_bfn (p := p) (pos := pos) f s.calm (s.gl_ h2).1 (s.blt _ (bltMem f)) h3 p1 hl
        exact ⟨z, fun _ => (st_se rfl z).2⟩
    · cases h
  | .isi a ty, X, sc, fn, s, e, h => by
    unfold chkE at h
    split at h
    · rename_i x p a' t pos
      simp only [Bool.and_eq_true, beq_iff_eq] at h
      obtain ⟨⟨⟨rfl, h2⟩, h3⟩, h4⟩ := h
      have ha := (sound a s h3).1
      have hm : X.mg "isinstance" = none := s.blt _ (by decide +kernel)
      split at h4
      · split at h4
        · cases h4
        · have z := se_isi1 (p := p) (pos := pos) (s.gl_ h2).1 hm (plain_star (chk_plain h3)) (s.ty h4) ha
          exact ⟨z, fun _ => (st_se rfl z).2⟩
      · simp only [Bool.and_eq_true, decide_eq_true_eq] at h4
        obtain ⟨h5, h6⟩ := h4
        split at h6
        · rename_i ts' k' p2
          have z := se_isiT (k := k') (p2 := p2) (p := p) (pos := pos) h5 (s.gl_ h2).1 hm (plain_star (chk_plain h3)) (s.tys h6) ha
          exact ⟨z, fun _ => (st_se rfl z).2⟩
        · cases h6
    · cases h
  | .cal f es, X, sc, fn, s, e, h => by
    unfold chkE at h
    split at h
    · rename_i x p es' pos
      simp only [Bool.and_eq_true, beq_iff_eq, Bool.not_eq_true'] at h
      obtain ⟨⟨⟨⟨rfl, h2⟩, h3⟩, h4⟩, h5⟩ := h
      have hl := soundL es s h5
      obtain ⟨p1, p2⟩ := chkL_plain h5
      obtain ⟨n, a, fd, ps, Fo, hr, hm, hk, hb⟩ := s.fun_ _ h3
      cases es' with
      | nil => cases es <;> first | (simp at h4; done) | (simp at p2; done)
      | cons e0 es0 =>
        have z := se_cal (p := p) (pos := pos) Fo hr (s.gl_ h2).1 hm hk hb (s.gl_ h2).2 p1 hl fun hq G vs G1 e => evalL_noRf hq e
        exact ⟨z, fun _ => (st_se rfl z).2⟩
    · cases h
  | .clk _ _ _ _, X, sc, fn, s, e, h => by
    unfold chkE at h
    cases h
  | .met m o es, X, sc, fn, s, e, h => by
    unfold chkE at h
    split at h
    · rename_i o' a ap es' cp
      split at h
      · simp only [Bool.and_eq_true, beq_iff_eq, decide_eq_true_eq, Bool.not_eq_true'] at h
        obtain ⟨⟨⟨⟨⟨⟨rfl, h2⟩, h3⟩, h4⟩, h5⟩, h6⟩, h7⟩ := h
        have hl := soundL es s h7
        obtain ⟨p1, p2⟩ := chkL_plain h7
        cases es' with
        | nil => cases es <;> first | (simp at h5; done) | (simp at p2; done)
        | cons e0 es0 =>
          have z := se_index (apos := ap) (cpos := cp) h2 (by rw [beq_iff_eq]; exact h3) (by rw [p2]; exact h4) p1 (sound o s h6).1 hl
          exact ⟨z, fun _ => (st_se rfl z).2⟩
      · cases h
    · cases h
  | .mut m i es, X, sc, fn, s, e, h => by
    unfold chkE at h
    split at h
    · rename_i x p a ap es' cp
      simp only [Bool.and_eq_true] at h
      obtain ⟨⟨⟨⟨h1, h2⟩, h3⟩, h4⟩, h5⟩ := h
      rw [beq_iff_eq] at h2
      subst h2
      have hv := s.vis (p := p) h1
      have hl := soundL es s h4
      obtain ⟨p1, p2⟩ := chkL_plain h4
      have fin : SE X (.Call (.Attribute (.Name x p) m.nm ap) es' [] cp) false (evalE c.Φ c.gl (.mut m i es)) := by
        split at h5
        · match es', p1, p2, hl with
          | [e0], p1, _, hl => exact se_mut1 .append (Or.inl rfl) hv h3 (by simpa using p1) hl fun G vs G1 e => evalL_len e
        · match es', p1, p2, hl with
          | [e0], p1, _, hl => exact se_mut1 .appendO (Or.inr (Or.inr rfl)) hv h3 (by simpa using p1) hl fun G vs G1 e => evalL_len e
        · match es', p1, p2, hl with
          | [e0], p1, _, hl => exact se_mut1 .pop (Or.inr (Or.inl rfl)) hv h3 (by simpa using p1) hl fun G vs G1 e => evalL_len e
        · match es', p1, p2, hl with
          | [], p1, _, hl => exact se_mut0 .pop (.inl rfl) hv h3
        · match es', p1, p2, hl with
          | [], p1, _, hl => exact se_mut0 .clear (.inr (.inl rfl)) hv h3
        · match es', p1, p2, hl with
          | [], p1, _, hl => exact se_mut0 .reverse (.inr (.inr rfl)) hv h3
        · cases h5
      exact ⟨fin, fun _ => (st_se rfl fin).2⟩
    · cases h
  | .lrg a, X, sc, fn, s, e, h => by
    have ih := fun e h => (sound a s (e := e) h).1
    unfold chkE at h
    split at h
    · rename_i x p y p2 a' pos2 pos
      simp only [Bool.and_eq_true, beq_iff_eq] at h
      obtain ⟨⟨⟨⟨rfl, rfl⟩, h3⟩, h4⟩, h5⟩ := h
      have fin : SE X (.Call (.Name "list" p) [.Call (.Name "range" p2) [a'] [] pos2] [] pos) (quiet (.lrg a)) (evalE c.Φ c.gl (.lrg a)) :=
        SE.q (se_eq (se_lrg s.calm (s.gl_ h3).1 (s.blt _ (by decide +kernel)) (s.gl_ h4).1 (s.blt _ (by decide +kernel)) (plain_star (chk_plain h5)) (ih _ h5)) (fun G => by rw [evalE])) (by rw [quiet] : quiet a = quiet (.lrg a))
      exact ⟨fin, fun _ => (st_se rfl fin).2⟩
    · cases h
  | .nev, X, sc, fn, s, e, h => by
    refine ⟨fun W tk => ⟨fun pins s σ H Q I ⟨F, G, A, _, _, h⟩ => ?_⟩, fun h => by cases h⟩
    rw [evalE] at h
    exact h.elim
  | .lc elt tg k its ifs own, X, sc, fn, s, e, h => by
    unfold chkE at h
    split at h
    · rename_i elt' tg' it' ifs' scope pos
      simp only [Bool.and_eq_true, decide_eq_true_eq] at h
      obtain ⟨⟨⟨⟨⟨⟨⟨⟨h1, h2⟩, h3⟩, h4⟩, h5⟩, h6⟩, h7⟩, h8⟩, h9⟩ := h
      have hH : ∀ x xs, its = x :: xs → chkL c.toCk sc fn its [it'] = true → SE X it' (quiet x) (evalE c.Φ c.gl x) := soundH its s
      have hLs : ∀ {es'' : List Expr}, chkL c.toCk sc fn its es'' = true → SL X es'' (quietL its) (evalL c.Φ c.gl its) := fun h => soundL its s h
      have hTs : ∀ {X : Cx} {sc : Scope} {fn : Str → Bool}, SX c X sc fn → ∀ {es : List Expr}, chkL c.toCk sc fn ifs es = true → tstL ifs = true → ∀ y, es = [y] → ST X y (quietL ifs) (evalAll c.Φ c.gl ifs) := fun s => soundTs ifs s
      have sb := fun s1 H C cl fp => s.blk s1 H scope C cl fp
      have he : ∀ (s1 : Shared) (H : Hp) (C : Addr) (cl : List (Str × Addr)) (fp : List Addr), PE (X.blk s1 H scope (compEnvC scope cl C X.env) fp) elt' (tE X.K X.mg W0 (quiet elt) (evalE c.Φ c.gl elt)) :=
        fun s1 H C cl fp => (sound elt (sb s1 H C cl fp) h5).1 W0 takes0
      have hg : ∀ (s1 : Shared) (H : Hp) (C : Addr) (cl : List (Str × Addr)) (fp : List Addr), PG (X.blk s1 H scope (compEnvC scope cl C X.env) fp) tg' (gB X.K tg) :=
        fun s1 H C cl fp => pg_ok (sb s1 H C cl fp).hN (sb s1 H C cl fp).nd (sb s1 H C cl fp).sc (sb s1 H C cl fp).fn (sb s1 H C cl fp).calm tg tg' h4
      have ht : ∀ (s1 : Shared) (H : Hp) (C : Addr) (cl : List (Str × Addr)) (fp : List Addr), PTs (X.blk s1 H scope (compEnvC scope cl C X.env) fp) ifs' (tTs X.K X.mg W0 (quietL ifs) (evalAll c.Φ c.gl ifs)) := fun s1 H C cl fp => by
        have ih := hTs (sb s1 H C cl fp) h8 h7
        match ifs, ifs', h6, ih with
        | [], [], _, ih => exact ptsImp (fun σ H Q ⟨F, G, A, rs, gd, h⟩ => by
            simp only [evalAll] at h
            exact Post.fin h rs ⟨rfl, rfl⟩ gd.refl fun _ => Same.refl _) pts_nil
        | [x], [y], _, ih => exact ptsImp (fun σ H Q h => h) (pts_one (ih y rfl W0 takes0))
        | [], _ :: _, _, _ => simp [chkL] at h8
        | _ :: _, [], _, _ => simp [chkL] at h8
        | [x], y :: z :: r, _, _ => simp [chkL] at h8
        | _ :: _ :: _, _, h6, _ => simp at h6
      have hn : ∀ j ∈ tg.names, j ∈ (ownL c.N own).map (·.2) := fun j m => by
        rw [h2]
        have z := List.all_eq_true.mp h3 j m
        simpa using z
      have ok : BlkOk X.N X.env.scope scope (ownL c.N own) := by
        rw [s.hN, s.sc]
        exact blkOk_by h1
      have fin : SE X (.ListComp elt' [⟨tg', it', ifs', 0⟩] scope pos) (quiet (.lc elt tg k its ifs own)) (evalE c.Φ c.gl (.lc elt tg k its ifs own)) := by
        have go : ∀ {qi : Bool} {fi : Sl → R (List T × Bool)}, SI X tg' it' qi fi → (∀ x, foldedSetIterable it' X.env x = pure x) → (∀ G, fi G = (evalL c.Φ c.gl its G).bd fun vs G1 => R.of G1 (iterOf k vs)) → qi = quietL its → SE X (.ListComp elt' [⟨tg', it', ifs', 0⟩] scope pos) (quiet (.lc elt tg k its ifs own)) (evalE c.Φ c.gl (.lc elt tg k its ifs own)) := fun hi hs hf hq => by
          have z := se_lc (pos := pos) s.calm s.nd hi ok hg ht he hs hn
          rw [h2] at z
          refine SE.q (se_eq z fun G => ?_) ?_
          · rw [evalE, hf, bd_assoc]
            congr 1; funext vs G1
            rw [bd_of]
            cases iterOf k vs <;> rfl
          · rw [hq]
            show _ = (quiet elt && quietL its && quietL ifs)
            generalize quiet elt = a
            generalize quietL its = b
            generalize quietL ifs = d
            cases a <;> cases b <;> cases d <;> rfl
        split at h9
        · split at h9
          · rename_i x
            have ha := hH x [] rfl h9
            have h10 : chkE c.toCk sc fn x it' = true := by
              unfold chkL at h9
              exact (and2 h9).1
            refine go (si_val ha) (plain_set (chk_plain h10)) (fun G => ?_) (by simp [quietL])
            rw [evalL, bd_assoc]
            congr 1; funext v G1
            rw [evalL, R.bd_ok]
            have q0 : (v.firm || quietL []) = true := by simp [quietL]
            rw [if_pos q0]
            by_cases hr : (!quiet x || !v.isRf) = true
            · rw [if_pos hr]; rfl
            · rw [if_neg hr]
              cases v with
              | own t => simp [Ev.isRf] at hr
              | vw t => simp [Ev.isRf] at hr
              | rf i => rfl
          · cases h9
        · split at h9
          · rename_i x p es' pos'
            simp only [Bool.and_eq_true, beq_iff_eq] at h9
            obtain ⟨⟨⟨rfl, h10⟩, h11⟩, h12⟩ := h9
            have hl := hLs h12
            obtain ⟨p1, p2⟩ := chkL_plain h12
            rw [← p2] at h11
            exact go (si_call (p := p) (pos := pos') _ h11 (s.gl_ h10).1 (s.blt _ (ikMem h11)) p1 hl fun G vs G1 e => by rw [evalL_len e, p2]) (fun _ => rfl) (fun G => rfl) rfl
          · cases h9
      exact ⟨fin, fun _ => (st_se rfl fin).2⟩
    · cases h
theorem soundA : ∀ (exs : List Ex) {X : Cx} {sc : Scope} {fn : Str → Bool}, SX c X sc fn → ∀ {es : List Expr}, chkL c.toCk sc fn exs es = true → exs ≠ [] →
    (∀ pos, SE X (.BoolOp .And es pos) (quietL exs) (evalAnd c.Φ c.gl true exs)) ∧ ∀ pos, tstL exs = true → SW X (.BoolOp .And es pos) (quietL exs) (trT (evalAnd c.Φ c.gl true exs))
  | [], X, sc, fn, s, es, h, ne => absurd rfl ne
  | x :: xs, X, sc, fn, s, es, h, _ => by
    unfold chkL at h
    split at h
    · rename_i e' r
      obtain ⟨h1, h2⟩ := and2 h
      have ih := sound x s h1
      match xs, r, h2 with
      | [], [], _ =>
        refine ⟨fun pos => SE.q (se_bo1 ih.1) (by simp [quietL]), fun pos ht => ?_⟩
        have z := sw_and1 (pos := pos) (ih.2 (by simpa [tstL] using ht))
        have e : quietL [x] = quiet x := by simp [quietL]
        rw [e]
        exact z
      | y :: ys, z :: zs, h2 =>
        have ih2 := soundA (y :: ys) s h2 (by simp)
        refine ⟨fun pos => se_and2 ih.1 (ih2.1 pos), fun pos ht => ?_⟩
        unfold tstL at ht
        obtain ⟨t1, t2⟩ := and2 ht
        have w := sw_and2 (pos := pos) (ih.2 t1) (ih2.2 pos t2)
        have e : trT (evalAnd c.Φ c.gl true (x :: y :: ys)) = logT true (trT (evalE c.Φ c.gl x)) (trT (evalAnd c.Φ c.gl true (y :: ys))) := by
          funext G
          unfold trT logT
          rw [evalAnd]
          unfold logic
          rw [bd_assoc, bd_assoc]
          congr 1; funext v G1
          rw [bd_of]
          cases ev : v.truth with
          | none => rfl
          | some k => cases k with
            | true => rfl
            | false => show R.of G1 v.truth = _; rw [ev]; rfl
        rw [e]
        exact w
      | [], _ :: _, h2 => simp [chkL] at h2
      | _ :: _, [], h2 => simp [chkL] at h2
    · cases h
theorem soundO : ∀ (exs : List Ex) {X : Cx} {sc : Scope} {fn : Str → Bool}, SX c X sc fn → ∀ {es : List Expr}, chkL c.toCk sc fn exs es = true → exs ≠ [] →
    (∀ pos, SE X (.BoolOp .Or es pos) (quietL exs) (evalAnd c.Φ c.gl false exs)) ∧ ∀ pos, tstL exs = true → SW X (.BoolOp .Or es pos) (quietL exs) (trT (evalAnd c.Φ c.gl false exs))
  | [], X, sc, fn, s, es, h, ne => absurd rfl ne
  | x :: xs, X, sc, fn, s, es, h, _ => by
    unfold chkL at h
    split at h
    · rename_i e' r
      obtain ⟨h1, h2⟩ := and2 h
      have ih := sound x s h1
      match xs, r, h2 with
      | [], [], _ =>
        refine ⟨fun pos => SE.q (se_bo1 ih.1) (by simp [quietL]), fun pos ht => ?_⟩
        have z := sw_or1 (pos := pos) (ih.2 (by simpa [tstL] using ht))
        have e : quietL [x] = quiet x := by simp [quietL]
        rw [e]
        exact z
      | y :: ys, z :: zs, h2 =>
        have ih2 := soundO (y :: ys) s h2 (by simp)
        refine ⟨fun pos => se_or2 ih.1 (ih2.1 pos), fun pos ht => ?_⟩
        unfold tstL at ht
        obtain ⟨t1, t2⟩ := and2 ht
        have w := sw_or2 (pos := pos) (ih.2 t1) (ih2.2 pos t2)
        have e : trT (evalAnd c.Φ c.gl false (x :: y :: ys)) = logT false (trT (evalE c.Φ c.gl x)) (trT (evalAnd c.Φ c.gl false (y :: ys))) := by
          funext G
          unfold trT logT
          rw [evalAnd]
          unfold logic
          rw [bd_assoc, bd_assoc]
          congr 1; funext v G1
          rw [bd_of]
          cases ev : v.truth with
          | none => rfl
          | some k => cases k with
            | false => rfl
            | true => show R.of G1 v.truth = _; rw [ev]; rfl
        rw [e]
        exact w
      | [], _ :: _, h2 => simp [chkL] at h2
      | _ :: _, [], h2 => simp [chkL] at h2
    · cases h
theorem soundH : ∀ (exs : List Ex) {X : Cx} {sc : Scope} {fn : Str → Bool}, SX c X sc fn → ∀ {e : Expr} (x : Ex) (xs : List Ex), exs = x :: xs → chkL c.toCk sc fn exs [e] = true → SE X e (quiet x) (evalE c.Φ c.gl x)
  | [], X, sc, fn, s, e, x, xs, h, _ => by cases h
  | y :: ys, X, sc, fn, s, e, x, xs, h, h2 => by
    have ih := fun h => (sound y s (e := e) h).1
    unfold chkL at h2
    cases h
    exact ih (and2 h2).1
/-- a comprehension's tests: none or one -/
theorem soundTs : ∀ (exs : List Ex) {X : Cx} {sc : Scope} {fn : Str → Bool}, SX c X sc fn → ∀ {es : List Expr}, chkL c.toCk sc fn exs es = true → tstL exs = true → ∀ y, es = [y] → ST X y (quietL exs) (evalAll c.Φ c.gl exs)
  | [], X, sc, fn, s, es, h, _, y, e => by
    subst e
    simp [chkL] at h
  | x :: xs, X, sc, fn, s, es, h, ht, y, e => by
    subst e
    unfold chkL at h
    simp only [Bool.and_eq_true] at h
    obtain ⟨h1, h2⟩ := h
    cases xs with
    | cons _ _ => simp [chkL] at h2
    | nil =>
      have ih := (sound x s h1).2 (by simpa [tstL] using ht)
      have e : quietL [x] = quiet x := by simp [quietL]
      rw [e]
      refine st_eq ih fun G => ?_
      unfold trT
      rw [evalAll]
      congr 1; funext v G1
      cases v.truth with
      | none => rfl
      | some k => cases k <;> rfl
theorem soundL : ∀ (exs : List Ex) {X : Cx} {sc : Scope} {fn : Str → Bool}, SX c X sc fn → ∀ {es : List Expr}, chkL c.toCk sc fn exs es = true → SL X es (quietL exs) (evalL c.Φ c.gl exs)
  | [], X, sc, fn, s, es, h => by
    unfold chkL at h
    split at h
    · exact sl_nil
    · cases h
  | x :: xs, X, sc, fn, s, es, h => by
    unfold chkL at h
    split at h
    · obtain ⟨h1, h2⟩ := and2 h
      exact sl_cons (starEach_cons (plain_star (chk_plain h1))) (sound x s h1).1 (soundL xs s h2)
    · cases h
end
end
end QX

set_option Elab.async false
set_option linter.all false
set_option maxRecDepth 100000
/-! statements: what they compute -/
namespace QX
open PySem PySem.Spec L2

/-- how a statement ends -/
inductive SR where
  | nx (G : Sl) | ret (t : T) (G : Sl) | brk (G : Sl) | cnt (G : Sl) | exc (c : Str) (p : List (Str × T)) (G : Sl) | no
def R.bs {α : Type} (m : R α) (k : α → Sl → SR) : SR := match m with
  | .ok a G => k a G
  | .exc c p G => .exc c p G
  | .no => .no
def SR.bd (m : SR) (k : Sl → SR) : SR := match m with
  | .nx G => k G
  | r => r
/-- what is stored to -/
inductive Ts where
  | nm (i : Nat) | sb (i : Nat) (ix : Ex) | tp (gs : List Ts)
inductive Sm where
  | asg (tg : Ts) (e : Ex) | asl (i : Nat) (e : Ex) | par (i j : Nat) (a b : Ex) | aug (i : Nat) (op : Bop) (e : Ex)
  | exp (e : Ex) | ret (e : Ex) | retN | iff (c : Ex) (a b : List Sm)
  | frr (tg : Tg) (k : Ik) (its : List Ex) (body : List Sm) | frh (tg : Tg) (i : Nat) (body : List Sm)
  | whl (c : Ex) (body : List Sm)
  | brk | cnt | pas | nev
  | rse (c : Str) (es : List Ex)
  | frz (i : Nat) (s : Sm)

def loopS (k : T → Sl → SR) : List T → Sl → SR
  | [], G => .nx G
  | t :: ts, G => match k t G with
    | .nx G1 => loopS k ts G1
    | .cnt G1 => loopS k ts G1
    | .brk G1 => .nx G1
    | .ret u G1 => .ret u G1
    | .exc c p G1 => .exc c p G1
    | .no => .no
def whileS (c : Sl → R Bool) (b : Sl → SR) : Nat → Sl → SR
  | 0, _ => .no
  | n + 1, G => (c G).bs fun k G1 => if k then (match b G1 with
    | .nx G2 => whileS c b n G2
    | .cnt G2 => whileS c b n G2
    | .brk G2 => .nx G2
    | .ret u G2 => .ret u G2
    | .exc c p G2 => .exc c p G2
    | .no => .no) else .nx G1
/-- slot i is put back -/
def backO (i : Nat) (t : T) (G : Sl) : Option Sl := match G[i]? with
  | some none => some (G.set i (some t))
  | _ => none
def backR (i : Nat) (t : T) : SR → SR
  | .nx G => match backO i t G with
    | some G' => .nx G'
    | none => .no
  | .ret u G => match backO i t G with
    | some G' => .ret u G'
    | none => .no
  | .exc c p G => .exc c p G
  | _ => .no
/-- slot i is given away -/
def frzS (i : Nat) (G : Sl) : SR := match slotT G i with
  | some t => .nx (G.set i (some t.fz))
  | none => .nx G
def intBop : Bop → Option (Int → Int → Int)
  | .add => some (· + ·)
  | .sub => some (· - ·)
  | _ => none

section
variable (Φ : Str → List T → FR) (gl : Str → Option T) (fu : Nat)
mutual
def bindS : Ts → T → Sl → SR
  | .nm i => fun t G => if i < G.length then .nx (G.set i (some t)) else .no
  | .sb i ix => fun t G => match slotT G i with
    | none => .no
    | some _ => (evalE Φ gl ix G).bs fun y G1 => match slotT G1 i, y.tr with
      | some (.lst true ts), some (.int k) => (match ixN ts.length k with
        | some j => .nx (G1.set i (some (.lst true (ts.set j t.fz))))
        | none => .no)
      | _, _ => .no
  | .tp gs => fun t G => match t with
    | .tup ts => if ts.length = gs.length then bindSs gs ts G else .no
    | _ => .no
def bindSs : List Ts → List T → Sl → SR
  | [] => fun ts G => match ts with
    | [] => .nx G
    | _ => .no
  | g :: gs => fun ts G => match ts with
    | t :: ts => (bindS g t G).bd (bindSs gs ts)
    | [] => .no
end
mutual
def evalS : Sm → Sl → SR
  | .asg tg e => fun G => (evalE Φ gl e G).bs fun v G1 => match v.fm with
    | some t => bindS Φ gl tg t G1
    | none => .no
  | .asl i e => fun G => (evalE Φ gl e G).bs fun v G1 => match v.fm with
    | some t => if i < G1.length then .nx (G1.set i (some t)) else .no
    | none => .no
  | .par i j a b => fun G => (evalL Φ gl [a, b] G).bs fun vs G1 => match allOwn vs with
    | some [t, u] => if i < G1.length ∧ j < G1.length then .nx ((G1.set i (some t)).set j (some u)) else .no
    | _ => .no
  | .aug i op e => fun G => match slotT G i with
    | some (.int a) => (evalE Φ gl e G).bs fun v G1 => match intBop op, v.tr with
      | some f, some (.int b) => if i < G1.length then .nx (G1.set i (some (.int (f a b)))) else .no
      | _, _ => .no
    | _ => .no
  | .exp e => fun G => (evalE Φ gl e G).bs fun _ G1 => .nx G1
  | .ret e => fun G => (evalE Φ gl e G).bs fun v G1 => match v.fm with
    | some t => .ret t G1
    | none => .no
  | .retN => fun G => .ret .non G
  | .iff c a b => fun G => (evalE Φ gl c G).bs fun v G1 => match v.truth with
    | some true => evalSs a G1
    | some false => evalSs b G1
    | none => .no
  | .frr tg k its body => fun G => (evalL Φ gl its G).bs fun vs G1 => match iterOf k vs with
    | some r => if r.2 then loopS (fun t G => match bindT tg t G with
        | some G2 => evalSs body G2
        | none => .no) r.1 G1 else .no
    | none => .no
  | .frh tg i body => fun G => match slotT G i with
    | some (.lst true ts) => if isFL ts then backR i (.lst true ts) (loopS (fun t G => match bindT tg t G with
        | some G2 => evalSs body G2
        | none => .no) ts (G.set i none)) else .no
    | _ => .no
  | .whl c body => fun G => whileS (fun G => (evalE Φ gl c G).bd fun v G1 => R.of G1 v.truth) (evalSs body) fu G
  | .brk => fun G => .brk G
  | .cnt => fun G => .cnt G
  | .pas => fun G => .nx G
  | .nev => fun _ => .no
  | .frz i s => fun G => (evalS s G).bd (frzS i)
  | .rse c es => fun G => (evalL Φ gl es G).bs fun vs G1 => if vs.length ≤ sizeLine then .exc c [] G1 else .no
def evalSs : List Sm → Sl → SR
  | [] => fun G => .nx G
  | s :: ss => fun G => (evalS s G).bd (evalSs ss)
end
end

/-! ### what is wanted behind -/
def Lk (σ : L2.St) (L : List (Nat × V)) : Prop := ∀ p ∈ L, σ[p.1]? = some (some p.2)
/-- P: what stands aside, untouched -/
def PostS (K : PySem.W.Frag) (mg : MG) (W : WX) (L : List (Nat × V)) (P : List Addr) (F H : Hp) (A : List Addr) (r : SR) (D : Ends) : Prop := match r with
  | .nx G' => ∀ σ' F' H' A', RS K F' H' σ' G' A' → Step F H (P ++ A) F' H' (P ++ A') → (∀ b ∈ P, H' b = H b) → Lk σ' L → D.nx σ' H'
  | .brk G' => ∀ σ' F' H' A', RS K F' H' σ' G' A' → Step F H (P ++ A) F' H' (P ++ A') → (∀ b ∈ P, H' b = H b) → Lk σ' L → D.bk σ' H'
  | .cnt G' => ∀ σ' F' H' A', RS K F' H' σ' G' A' → Step F H (P ++ A) F' H' (P ++ A') → (∀ b ∈ P, H' b = H b) → Lk σ' L → D.ct σ' H'
  | .ret t G' => ∀ v σ' F' H' A' B, RS K F' H' σ' G' A' → Rp K F' H' v t B → Step F H (P ++ A) F' H' (P ++ (B ++ A')) → (∀ b ∈ P, H' b = H b) → Lk σ' L → D.rt v H'
  | .exc c p G' => ∀ σ' F' H' A' C d, RS K F' H' σ' G' A' → Step F H (P ++ A) F' H' (P ++ A') → Lk σ' L → mg c = some (.ref C) → Pay H' p d → W (.ref C) d σ' H'
  | .no => False
def tS (K : PySem.W.Frag) (mg : MG) (W : WX) (L : List (Nat × V)) (f : Sl → SR) : TS := fun D σ H => ∃ F G A, RS K F H σ G A ∧ Good F H A ∧ Lk σ L ∧ PostS K mg W L [] F H A (f G) D
def eG (Q : L2.St → Hp → Prop) : Ends := { nx := Q, rt := fun _ _ => True, bk := fun _ _ => True, ct := fun _ _ => True }
def tG (K : PySem.W.Frag) (mg : MG) (W : WX) (L : List (Nat × V)) (f : T → Sl → SR) : TG := fun v σ H Q => ∃ F G A t B, RS K F H σ G A ∧ Rp K F H v t B ∧ Good F H (B ++ A) ∧ Lk σ L ∧ PostS K mg W L [] F H (B ++ A) (f t G) (eG Q)
def tGs (K : PySem.W.Frag) (mg : MG) (W : WX) (L : List (Nat × V)) (f : List T → Sl → SR) : TGs := fun vs σ H Q => ∃ F G A ts B, RS K F H σ G A ∧ RpL K F H vs ts B ∧ Good F H (B ++ A) ∧ Lk σ L ∧ PostS K mg W L [] F H (B ++ A) (f ts G) (eG Q)

section
variable {K : PySem.W.Frag} {mg : MG} {W : WX} {L : List (Nat × V)} {P : List Addr} {F H F1 H1 : Hp} {A A1 B0 : List Addr} {σ : L2.St}
/-- from a state further on -/
theorem PostS.on {r : SR} {D : Ends} (h : PostS K mg W L P F H A r D) (s : Step F H (P ++ A) F1 H1 (P ++ A1)) (hP : ∀ b ∈ P, H1 b = H b) : PostS K mg W L P F1 H1 A1 r D := by
  cases r with
  | no => exact h
  | nx G => exact fun σ' F' H' A' rs st hp lk => h σ' F' H' A' rs (s.trans st) (fun b m => (hp b m).trans (hP b m)) lk
  | brk G => exact fun σ' F' H' A' rs st hp lk => h σ' F' H' A' rs (s.trans st) (fun b m => (hp b m).trans (hP b m)) lk
  | cnt G => exact fun σ' F' H' A' rs st hp lk => h σ' F' H' A' rs (s.trans st) (fun b m => (hp b m).trans (hP b m)) lk
  | ret t G => exact fun v σ' F' H' A' B rs rv st hp lk => h v σ' F' H' A' B rs rv (s.trans st) (fun b m => (hp b m).trans (hP b m)) lk
  | exc c p G => exact fun σ' F' H' A' C d rs st lk => h σ' F' H' A' C d rs (s.trans st) lk
theorem PostS.on0 {r : SR} {D : Ends} (h : PostS K mg W L [] F H A r D) (s : Step F H A F1 H1 A1) : PostS K mg W L [] F1 H1 A1 r D := PostS.on h s fun _ m => by simp at m
/-- an expression first; B0 stays aside -/
theorem PostS.bind {α' β' : Type} {rel' : Hp → Hp → β' → α' → List Addr → Prop} {q : Bool} {r : R α'} {k : α' → Sl → SR} {D : Ends} {Q1 : β' → Hp → Prop}
    (h : PostS K mg W L [] F H (B0 ++ A) (r.bs k) D) (gd : Good F H (B0 ++ A)) (hB : ∀ b ∈ B0, ∃ o, H b = some o ∧ Cell o) (lk : Lk σ L)
    (then_ : ∀ a G1 v F1 H1 A1 B1, r = .ok a G1 → RS K F1 H1 σ G1 A1 → rel' F1 H1 v a B1 → Step F H A F1 H1 (B1 ++ A1) → (∀ b ∈ B0, H1 b = H b) → Good F1 H1 (B0 ++ (B1 ++ A1)) →
      PostS K mg W L [] F1 H1 (B0 ++ (B1 ++ A1)) (k a G1) D → Q1 v H1) : Post rel' K mg W q σ F H A r Q1 := by
  cases r with
  | no => exact h
  | exc c p G =>
    exact fun F' H' A' C d rs st e mgc py => h σ F' H' A' C d rs (st.more (B := B0 ++ A) fun a m => List.mem_append_right _ m) lk mgc py
  | ok a G =>
    intro v F1 H1 A1 B1 rs rl st sm
    obtain ⟨s2, hk⟩ := st.beside (gd.perm List.perm_append_comm) fun b m => let ⟨o, e, _⟩ := hB b m; ⟨o, e⟩
    have s3 : Step F H (B0 ++ A) F1 H1 (B0 ++ (B1 ++ A1)) := (s2.permL List.perm_append_comm).permR List.perm_append_comm
    exact then_ a G v F1 H1 A1 B1 rfl rs rl st hk s3.good (PostS.on0 h s3)
/-- .. nothing aside -/
theorem PostS.bind0 {α' β' : Type} {rel' : Hp → Hp → β' → α' → List Addr → Prop} {q : Bool} {r : R α'} {k : α' → Sl → SR} {D : Ends} {Q1 : β' → Hp → Prop}
    (h : PostS K mg W L [] F H A (r.bs k) D) (gd : Good F H A) (lk : Lk σ L)
    (then_ : ∀ a G1 v F1 H1 A1 B1, r = .ok a G1 → RS K F1 H1 σ G1 A1 → rel' F1 H1 v a B1 → Good F1 H1 (B1 ++ A1) →
      PostS K mg W L [] F1 H1 (B1 ++ A1) (k a G1) D → Q1 v H1) : Post rel' K mg W q σ F H A r Q1 :=
  PostS.bind (B0 := []) h gd (fun _ m => by simp at m) lk fun a G1 v F1 H1 A1 B1 e rs rl _ _ g h => then_ a G1 v F1 H1 A1 B1 e rs rl g h
/-- one statement, the others -/
theorem PostS.seq {r : SR} {k : Sl → SR} {D : Ends} (h : PostS K mg W L [] F H A (r.bd k) D) : PostS K mg W L [] F H A r { D with nx := tS K mg W L k D } := by
  cases r with
  | no => exact h
  | nx G => exact fun σ' F' H' A' rs st hp lk => ⟨F', G, A', rs, st.good, lk, PostS.on0 h st⟩
  | brk G => exact h
  | cnt G => exact h
  | ret t G => exact h
  | exc c p G => exact h
/-- one part, the others; B0 stays aside -/
theorem PostS.seqB {r : SR} {k : Sl → SR} {D D1 : Ends} (h : PostS K mg W L [] F H (B0 ++ A) (r.bd k) D) (gd : Good F H (B0 ++ A)) (hB : ∀ b ∈ B0, ∃ o, H b = some o ∧ Cell o)
    (hbk : ∀ σ H, D.bk σ H → D1.bk σ H) (hct : ∀ σ H, D.ct σ H → D1.ct σ H) (hrt : ∀ v H, D.rt v H → D1.rt v H)
    (then_ : ∀ G1 σ' F1 H1 A1, RS K F1 H1 σ' G1 A1 → Step F H A F1 H1 A1 → (∀ b ∈ B0, H1 b = H b) → Good F1 H1 (B0 ++ A1) → Lk σ' L → PostS K mg W L [] F1 H1 (B0 ++ A1) (k G1) D → D1.nx σ' H1) : PostS K mg W L [] F H A r D1 := by
  have up : ∀ {F' H' : Hp} {A' : List Addr}, Step F H A F' H' A' → Step F H (B0 ++ A) F' H' A' := fun st => st.more fun a m => List.mem_append_right _ m
  cases r with
  | no => exact h
  | nx G1 =>
    intro σ' F1 H1 A1 rs st _ lk
    have st : Step F H A F1 H1 A1 := st
    obtain ⟨s2, hk⟩ := st.beside (gd.perm List.perm_append_comm) fun b m => let ⟨o, e, _⟩ := hB b m; ⟨o, e⟩
    have s3 : Step F H (B0 ++ A) F1 H1 (B0 ++ A1) := (s2.permL List.perm_append_comm).permR List.perm_append_comm
    exact then_ G1 σ' F1 H1 A1 rs st hk s3.good lk (PostS.on0 h s3)
  | brk G => exact fun σ' F' H' A' rs st hp lk => hbk _ _ (h σ' F' H' A' rs (up st) (fun _ m => by simp at m) lk)
  | cnt G => exact fun σ' F' H' A' rs st hp lk => hct _ _ (h σ' F' H' A' rs (up st) (fun _ m => by simp at m) lk)
  | ret t G => exact fun v σ' F' H' A' B rs rv st hp lk => hrt _ _ (h v σ' F' H' A' B rs rv (up st) (fun _ m => by simp at m) lk)
  | exc c p G => exact fun σ' F' H' A' C d rs st lk => h σ' F' H' A' C d rs (up st) lk
end
end QX

set_option Elab.async false
set_option linter.all false
set_option maxRecDepth 100000
set_option maxHeartbeats 4000000
/-! statements: the rules -/
namespace QX
open PySem PySem.Spec L2

section
variable {K : PySem.W.Frag} {mg : MG} {W : WX} {L : List (Nat × V)} {P : List Addr} {F H F1 H1 : Hp} {A A1 B B0 : List Addr} {σ : L2.St} {G : Sl}
theorem lk_set {i : Nat} {o : Option V} (lk : Lk σ L) (h : ∀ p ∈ L, p.1 ≠ i) : Lk (σ.set i o) L := fun p m => by
  rw [List.getElem?_set_ne (Ne.symm (h p m))]; exact lk p m
/-- a name is given -/
theorem put_nx {i : Nat} {v : V} {t : T} {D : Ends} {G1 : Sl} (h : PostS K mg W L [] F H (B ++ A) (if i < G.length then .nx (G.set i (some t)) else .no) D) (rs : RS K F H σ G A) (rv : Rp K F H v t B) (g : Good F H (B ++ A)) (lk : Lk σ L) (hL : ∀ p ∈ L, p.1 ≠ i) :
    D.nx (σ.set i (some v)) H := by
  by_cases hi : i < G.length
  · rw [if_pos hi] at h
    obtain ⟨E, rsE, sE, nE⟩ := rs.put hi rv
    exact h _ F H E rsE (g.refl.drop sE (nE g.nd)) (fun _ m => by simp at m) (lk_set lk hL)
  · rw [if_neg hi] at h; exact h.elim
/-- what is not needed any longer -/
theorem Good.less1 {C : List Addr} (g : Good F H (B ++ A)) (sC : ∀ a ∈ C, a ∈ B) (nC : B.Nodup → C.Nodup) : Good F H (C ++ A) :=
  g.less (fun a m => (List.mem_append.mp m).elim (fun m => List.mem_append_left _ (sC a m)) (List.mem_append_right _))
    (List.nodup_append.mpr ⟨nC g.left.nd, g.right.nd, fun a ha b hb e => by subst e; exact g.apart (sC a ha) hb⟩)
theorem Good.less1S {C : List Addr} (g : Good F H (B ++ A)) (sC : ∀ a ∈ C, a ∈ B) (nC : B.Nodup → C.Nodup) : Step F H (B ++ A) F H (C ++ A) :=
  g.refl.drop (fun a m => (List.mem_append.mp m).elim (fun m => List.mem_append_left _ (sC a m)) (List.mem_append_right _)) (Good.less1 g sC nC).nd
end

/-- a target stores as f says -/
def SG (X : Cx) (lk : List Nat) (tg : Expr) (f : T → Sl → SR) : Prop := ∀ W, Takes X W → ∀ L : List (Nat × V), (∀ p ∈ L, p.1 ∈ lk) → PG X tg (tG X.K X.mg W L f)
def SGs (X : Cx) (lk : List Nat) (tgs : List Expr) (f : List T → Sl → SR) : Prop := ∀ W, Takes X W → ∀ L : List (Nat × V), (∀ p ∈ L, p.1 ∈ lk) → PGs X tgs (tGs X.K X.mg W L f)
/-- a statement does as f says -/
def SS (X : Cx) (lk : List Nat) (st : Stmt) (f : Sl → SR) : Prop := ∀ W, Takes X W → ∀ L : List (Nat × V), (∀ p ∈ L, p.1 ∈ lk) → PS X st (tS X.K X.mg W L f)
def SSs (X : Cx) (lk : List Nat) (st : List Stmt) (f : Sl → SR) : Prop := ∀ W, Takes X W → ∀ L : List (Nat × V), (∀ p ∈ L, p.1 ∈ lk) → PSs X st (tS X.K X.mg W L f)

section
variable {X : Cx} {lk : List Nat} {e a b c : Expr} {q : Bool} {fe fa fb fc : Sl → R Ev} {pos p p' : Pos} {x y : Str} {i j : Nat}
theorem sg_nm (hN : X.N.Nodup) (hi : X.N[i]? = some x) (hx : Loc X.env.scope x) (hf : X.fn x = true ∨ X.env.scope.names.lookup x = some .local) (hl : i ∉ lk) : SG X lk (.Name x p) (fun t G => if i < G.length then .nx (G.set i (some t)) else .no) :=
  fun W tk L hL => pgImp (fun v σ H Q ⟨F, G, A, t, B, rs, rv, g, lk', h⟩ => put_nx (G1 := G) h rs rv g lk' fun p m z => hl (z ▸ hL p m)) (pg_name (pos := p) hN hi hx hf)
theorem sg_sb {ix : Expr} (hv : PE X (.Name x p) (tVar i)) (hi : SE X ix q fe)
    (ha : ∀ v, assign (.Subscript (.Name x p) ix pos) X.env v = (do
      let ov ← holding [v] (eval (.Name x p) X.env)
      let iv ← holding [v, ov] (eval ix X.env)
      standAt pos
      holding [v, ov, iv] (setItem ov iv v)
      release [v, ov, iv] [])) : SG X lk (.Subscript (.Name x p) ix pos) (fun t G => match slotT G i with
    | none => .no
    | some _ => (fe G).bs fun y G1 => match slotT G1 i, y.tr with
      | some (.lst true ts), some (.int k) => (match ixN ts.length k with
        | some j => .nx (G1.set i (some (.lst true (ts.set j t.fz))))
        | none => .no)
      | _, _ => .no) := by
  intro W tk L hL
  refine pgImp (fun v σ H Q ⟨F, G, A, t, B, rs, rv, g, lk', h⟩ => ?_) (pg_sub hv (hi W tk) set_list ha)
  cases e0 : slotT G i with
  | none => simp only [e0] at h; exact h.elim
  | some t0 =>
    simp only [e0] at h
    obtain ⟨o, _, _, hσ, _, _, _⟩ := rs.opn (slotT_some e0)
    refine ⟨o, hσ, ?_⟩
    refine ⟨F, G, A, rs, g.right, PostS.bind (B0 := B) (rel' := relE X.K σ) h g rv.at lk' fun y G1 iv F1 H1 A1 B1 _ rs1 v1 st hB g1 h1 => ?_⟩
    split at h1
    · rename_i ts k e1 e2
      split at h1
      · rename_i j ej
        have hiv := v1.int e2
        subst hiv
        have rv1 : Rp X.K F1 H1 v t B := rv.mono st.ff st.tupS hB
        obtain ⟨p, ws, D, C, hσ', hp, rD, rs2, pm⟩ := slotL rs1 (slotT_some e1)
        rw [hσ] at hσ'
        cases hσ'
        refine ⟨p, ws, k, j, rfl, rfl, hp, by rw [rD.len]; exact ej, ?_⟩
        have hj : j < ts.length := (ixN_seq ej).2.1
        have g2 : Good F1 H1 (B ++ A1) := by
          have z : Good F1 H1 (B ++ (B1 ++ A1)) := g1
          exact z.less (fun a m => (List.mem_append.mp m).elim (List.mem_append_left _) fun m => List.mem_append_right _ (List.mem_append_right _ m))
            (List.nodup_append.mpr ⟨z.left.nd, z.right.right.nd, fun a ha b hb e => by subst e; exact z.apart ha (List.mem_append_right _ hb)⟩)
        have st2 : Step F1 H1 (B ++ (B1 ++ A1)) F1 H1 (B ++ A1) := g1.refl.drop (fun a m => (List.mem_append.mp m).elim (List.mem_append_left _) fun m => List.mem_append_right _ (List.mem_append_right _ m)) g2.nd
        have h2 := PostS.on0 h1 st2
        have hlt : i < G1.length := (List.getElem?_eq_some_iff.mp (slotT_some e1)).1
        have atD := rD.at
        -- v given away
        have pA : p ∈ A1 := pm.mem_iff.mpr (List.mem_append_left _ List.mem_cons_self)
        have nB : ∀ a ∈ A1, a ∉ B := fun a m z => g2.apart z m
        have ffj : Same F1 (join F1 H1 B) := (g2.give (fun a m => List.mem_append_left _ m) (fun a m => ⟨List.mem_append_right _ m, nB a m⟩) g2.right.nd).ff
        have s1 : Step F1 H1 (B ++ A1) (join F1 H1 B) H1 A1 := g2.give (fun a m => List.mem_append_left _ m) (fun a m => ⟨List.mem_append_right _ m, nB a m⟩) g2.right.nd
        have s2 : Step (join F1 H1 B) H1 A1 (join F1 H1 B) (upd H1 p (.lst (ws.set j v))) A1 := s1.good.write pA hp trivial
        have s12 := s1.trans s2
        have ndA := g2.right.nd
        rw [pm.nodup_iff] at ndA
        obtain ⟨n4, n5⟩ := List.nodup_cons.mp (List.nodup_append.mp ndA).1
        have rD2 : RpL X.K (join F1 H1 B) (upd H1 p (.lst (ws.set j v))) ws ts D := rD.mono s12.ff s12.tupS fun a m => upd_ne fun z => n4 (z ▸ m)
        have rv2 : Rp X.K (join F1 H1 B) (upd H1 p (.lst (ws.set j v))) v t.fz [] := rv1.toF s12.ff s12.tupS fun a m => join_in m
        obtain ⟨D', rE, sl⟩ := RpL.setE rD2 rv2 hj rfl
        exact write_ok (mg := X.mg) (W := W) (q := false) (v := .non) (res := .own .non) (R := []) (Q := fun _ H' => Q σ H') (fun v' F' H' A' B' rs' vr' st' _ => h2 σ F' H' A' rs' (by
            cases vr' with
            | own r => cases r; exact st') (fun _ m => by simp at m) lk') g2 rfl hlt hσ hp rs2 pm B (fun _ m => m) (fun a m => let ⟨o, e, _⟩ := atD a m; ⟨o, e⟩) rE (.own .non) (fun a m => sl.subset (by simpa using m)) fun n => by simpa using sl.nodup n
      · exact h1.elim
    · exact h1.elim
theorem sgs_nil : SGs X lk [] (fun ts G => match ts with
    | [] => .nx G
    | _ => .no) := by
  intro W tk L hL
  refine pgsImp (fun vs σ H Q ⟨F, G, A, ts, B, rs, rv, g, lk', h⟩ => ?_) pgs_nil
  cases ts with
  | nil =>
    cases rv
    exact ⟨rfl, h σ F H A rs g.refl (fun _ m => by simp at m) lk'⟩
  | cons _ _ => exact h.elim
theorem sgs_cons {tg : Expr} {tgs : List Expr} {f : T → Sl → SR} {fs : List T → Sl → SR} (h1 : SG X lk tg f) (h2 : SGs X lk tgs fs) (hs : (assignEach (tg :: tgs) X.env).map (·.2) = assign tg X.env :: (assignEach tgs X.env).map (·.2)) :
    SGs X lk (tg :: tgs) (fun ts G => match ts with
    | t :: ts => (f t G).bd (fs ts)
    | [] => .no) := by
  intro W tk L hL
  refine pgsImp (fun vs σ H Q ⟨F, G, A, ts, B, rs, rv, g, lk', h⟩ => ?_) (pgs_cons (h1 W tk L hL) (h2 W tk L hL) hs)
  cases ts with
  | nil => exact h.elim
  | cons t ts =>
    cases rv with
    | @cons v1 vs1 _ _ B1 B2 r rr =>
      refine ⟨v1, vs1, rfl, F, G, A, t, B1, rs, r, ?_, lk', ?_⟩
      · exact g.less (fun a m => (List.mem_append.mp m).elim (fun m => List.mem_append_left _ (List.mem_append_left _ m)) (List.mem_append_right _)) (List.nodup_append.mpr ⟨g.left.left.nd, g.right.nd, fun a ha b hb e => by subst e; exact g.apart (List.mem_append_left _ ha) hb⟩)
      · have pm : ((B1 ++ B2) ++ A).Perm (B2 ++ (B1 ++ A)) := by
          rw [← List.append_assoc]
          exact List.Perm.append_right _ List.perm_append_comm
        have gp : Good F H (B2 ++ (B1 ++ A)) := g.perm pm
        have h : PostS X.K X.mg W L [] F H (B2 ++ (B1 ++ A)) ((f t G).bd (fs ts)) (eG Q) := PostS.on0 h (g.refl.permR pm)
        refine PostS.seqB h gp rr.at (fun _ _ z => z) (fun _ _ z => z) (fun _ _ z => z) fun G1 σ' F1 H1 A1 rs1 st hB g1 lk1 h1 => ?_
        exact ⟨F1, G1, A1, ts, B2, rs1, rr.mono st.ff st.tupS hB, g1, lk1, h1⟩
theorem sg_tp {es : List Expr} {k : Nat} {fs : List T → Sl → SR} {n : Nat} (hc : X.calm = true) (h : SGs X lk es fs) (hn : (assignEach es X.env).length = n) (hst : (assignEach es X.env).findIdx? (·.1) = none) :
    SG X lk (.Tuple es k pos) (fun t G => match t with
    | .tup ts => if ts.length = n then fs ts G else .no
    | _ => .no) := by
  intro W tk L hL
  refine pgImp (fun v σ H Q ⟨F, G, A, t, B, rs, rv, g, lk', h⟩ => ?_) (pg_tup hc (h W tk L hL) hn hst)
  cases t with
  | tup ts =>
    obtain ⟨a, vs, rfl, hr, r2⟩ := rv.tupl
    have h : PostS X.K X.mg W L [] F H (B ++ A) (if ts.length = n then fs ts G else .no) _ := h
    by_cases hl : ts.length = n
    case neg => rw [if_neg hl] at h; exact h.elim
    rw [if_pos hl] at h
    exact ⟨a, vs, rfl, hr, by rw [r2.len]; exact hl, F, G, A, ts, B, rs, r2, g, lk', h⟩
  | _ => exact h.elim

/-! ### small statements -/
theorem ss_asg {tg : Expr} {f : T → Sl → SR} (he : SE X e q fe) (hg : SG X lk tg f) (hs : swapsWithSole [tg] e pos.line X.env = pure false) (hw : swappedStores [tg] e X.env = pure none)
    (h1 : (assignEach [tg] X.env).map (·.2) = [assign tg X.env]) : SS X lk (.Assign [tg] e pos) (fun G => (fe G).bs fun v G1 => match v.fm with
    | some t => f t G1
    | none => .no) := by
  intro W tk L hL
  refine psImp (fun D σ H ⟨F, G, A, rs, gd, lk', h⟩ => ?_) (ps_asg (he W tk) (hg W tk L hL) hs hw h1)
  refine ⟨F, G, A, rs, gd, PostS.bind0 h gd lk' fun v G1 x F1 H1 A1 B1 _ rs1 v1 g1 h1 => ?_⟩
  split at h1
  · rename_i t et
    obtain ⟨C, rC, sC, nC⟩ := v1.fm et
    have st := Good.less1S g1 sC nC
    have h2 := PostS.on0 h1 st
    refine ⟨F1, G1, A1, t, C, rs1, rC, st.good, lk', ?_⟩
    cases er : f t G1 with
    | no => rw [er] at h2; exact h2
    | nx G2 => rw [er] at h2; exact h2
    | exc c p G2 => rw [er] at h2; exact h2
    | brk G2 => exact fun _ _ _ _ _ _ _ _ => trivial
    | cnt G2 => exact fun _ _ _ _ _ _ _ _ => trivial
    | ret t G2 => exact fun _ _ _ _ _ _ _ _ _ _ _ => trivial
  · exact h1.elim
theorem asl_imp {W : WX} {L : List (Nat × V)} (hL : ∀ p ∈ L, p.1 ≠ i) {te : TE} (h : ∀ σ H Q, tE X.K X.mg W q fe σ H Q → te σ H Q) : ∀ D σ H, tS X.K X.mg W L (fun G => (fe G).bs fun v G1 => match v.fm with
    | some t => if i < G1.length then .nx (G1.set i (some t)) else .no
    | none => .no) D σ H → tAsg te (gName i) D σ H := fun D σ H ⟨F, G, A, rs, gd, lk', h0⟩ => by
  refine h σ H _ ⟨F, G, A, rs, gd, PostS.bind0 h0 gd lk' fun v G1 x F1 H1 A1 B1 _ rs1 v1 g1 h1 => ?_⟩
  split at h1
  · rename_i t et
    obtain ⟨C, rC, sC, nC⟩ := v1.fm et
    have st := Good.less1S g1 sC nC
    have h2 := PostS.on0 h1 st
    exact put_nx (G1 := G1) h2 rs1 rC st.good lk' hL
  · exact h1.elim
theorem ss_par {kt k2 : Nat} {px py pt pt2 : Pos} {fl : Sl → R (List Ev)} (hc : X.calm = true) (hN : X.N.Nodup) (hi : X.N[i]? = some x) (hj : X.N[j]? = some y) (hij : i ≠ j) (hx : X.env.scope.names.lookup x = some .local) (hy : X.env.scope.names.lookup y = some .local) (ha : SL X [a, b] q fl)
    (hw : swappedStores [.Tuple [.Name x px, .Name y py] kt pt] (.Tuple [a, b] k2 pt2) X.env = pure (some [x, y])) (hs : swapsWithSole [.Tuple [.Name x px, .Name y py] kt pt] (.Tuple [a, b] k2 pt2) pos.line X.env = pure false) (hli : i ∉ lk) (hlj : j ∉ lk) :
    SS X lk (.Assign [.Tuple [.Name x px, .Name y py] kt pt] (.Tuple [a, b] k2 pt2) pos) (fun G => (fl G).bs fun vs G1 => match allOwn vs with
    | some [t, u] => if i < G1.length ∧ j < G1.length then .nx ((G1.set i (some t)).set j (some u)) else .no
    | _ => .no) := by
  intro W tk L hL
  refine psImp (fun D σ H ⟨F, G, A, rs, gd, lk', h⟩ => ?_) (ps_par hc hN hi hj hij hx hy (ha W tk) hw hs)
  refine ⟨F, G, A, rs, gd, PostS.bind0 h gd lk' fun vs G1 xs F1 H1 A1 B1 _ rs1 v1 g1 h1 => ?_⟩
  split at h1
  · rename_i t u et
    have r := allOwn_ok v1 et
    cases r with
    | @cons v vs _ _ B2 B3 r1 r2 =>
    cases r2 with
    | @cons w _ _ _ B4 B5 r3 r4 =>
    cases r4
    refine ⟨v, w, rfl, ?_⟩
    by_cases hh : i < G1.length ∧ j < G1.length
    · rw [if_pos hh] at h1
      obtain ⟨E, rsE, sE, nE⟩ := rs1.put hh.1 r1
      obtain ⟨E2, rsE2, sE2, nE2⟩ := rsE.put (i := j) (by rw [List.length_set]; exact hh.2) r3
      have nd := g1.nd
      have pm : ((B2 ++ (B4 ++ [])) ++ A1).Perm (B4 ++ (B2 ++ A1)) := by
        rw [List.append_nil, ← List.append_assoc]
        exact List.Perm.append_right _ List.perm_append_comm
      have nd2 : (B4 ++ (B2 ++ A1)).Nodup := pm.nodup_iff.mp nd
      have n3 : (B4 ++ E).Nodup := by
        obtain ⟨k1, k2, k3⟩ := List.nodup_append.mp nd2
        exact List.nodup_append.mpr ⟨k1, nE k2, fun a ha b hb e => k3 a ha b (sE b hb) e⟩
      refine h1 _ F1 H1 E2 rsE2 (g1.refl.drop (fun a m => ?_) (nE2 n3)) (fun _ m => by simp at m) (lk_set (lk_set lk' fun p m z => hli (z ▸ hL p m)) fun p m z => hlj (z ▸ hL p m))
      refine pm.mem_iff.mpr ?_
      rcases List.mem_append.mp (sE2 a m) with m | m
      · exact List.mem_append_left _ m
      · exact List.mem_append_right _ (sE a m)
    · rw [if_neg hh] at h1; exact h1.elim
  · exact h1.elim
theorem ipOf {op : Bop} {f : Int → Int → Int} (h : intBop op = some f) : PIp X op.py (ipI f) := by
  cases op <;> first | (cases h; exact ip_add) | (cases h; exact ip_sub) | cases h
theorem ss_aug {op : Bop} {f : Int → Int → Int} (ho : intBop op = some f) (hN : X.N.Nodup) (hi : X.N[i]? = some x) (hx : Loc X.env.scope x) (hf : X.fn x = true ∨ X.env.scope.names.lookup x = some .local) (hl : i ∉ lk) (he : SE X e q fe) :
    SS X lk (.AugAssign (.Name x p') op.py e pos) (fun G => match slotT G i with
    | some (.int a) => (fe G).bs fun v G1 => match intBop op, v.tr with
      | some f, some (.int b) => if i < G1.length then .nx (G1.set i (some (.int (f a b)))) else .no
      | _, _ => .no
    | _ => .no) := by
  intro W tk L hL
  refine psImp (fun D σ H ⟨F, G, A, rs, gd, lk', h⟩ => ?_) (ps_aug hN hi hx (he W tk) (ipOf ho) hf)
  dsimp only at h
  split at h
  · rename_i a ea
    obtain ⟨o, B0, C0, hσ, r0, _, _⟩ := rs.opn (slotT_some ea)
    cases r0
    refine ⟨_, hσ, F, G, A, rs, gd, PostS.bind0 h gd lk' fun v G1 x F1 H1 A1 B1 _ rs1 v1 g1 h1 => ?_⟩
    rw [ho] at h1
    split at h1
    · rename_i f' b hf' eb
      cases hf'
      have := v1.int eb
      subst this
      refine ⟨a, b, rfl, rfl, ?_⟩
      have st : Step F1 H1 (B1 ++ A1) F1 H1 ([] ++ A1) := Good.less1S g1 (fun _ m => by simp at m) fun _ => .nil
      exact put_nx (G1 := G1) (B := []) (PostS.on0 h1 st) rs1 (.int _) st.good lk' fun p m z => hl (z ▸ hL p m)
    · exact h1.elim
  · exact h.elim
theorem ss_exp (he : SE X e q fe) (hs : swapsWith e none pos.line X.env = pure false) : SS X lk (.Expr e pos) (fun G => (fe G).bs fun _ G1 => .nx G1) := by
  intro W tk L hL
  refine psImp (fun D σ H ⟨F, G, A, rs, gd, lk', h⟩ => ?_) (ps_expr (he W tk) hs)
  refine ⟨F, G, A, rs, gd, PostS.bind0 h gd lk' fun v G1 x F1 H1 A1 B1 _ rs1 v1 g1 h1 => ?_⟩
  have st : Step F1 H1 (B1 ++ A1) F1 H1 ([] ++ A1) := Good.less1S g1 (fun _ m => by simp at m) fun _ => .nil
  exact h1 σ F1 H1 A1 rs1 st (fun _ m => by simp at m) lk'
theorem ss_ret (he : SE X e q fe) : SS X lk (.Return (some e) pos) (fun G => (fe G).bs fun v G1 => match v.fm with
    | some t => .ret t G1
    | none => .no) := by
  intro W tk L hL
  refine psImp (fun D σ H ⟨F, G, A, rs, gd, lk', h⟩ => ?_) (ps_ret (he W tk))
  refine ⟨F, G, A, rs, gd, PostS.bind0 h gd lk' fun v G1 x F1 H1 A1 B1 _ rs1 v1 g1 h1 => ?_⟩
  split at h1
  · rename_i t et
    obtain ⟨C, rC, sC, nC⟩ := v1.fm et
    exact h1 x σ F1 H1 A1 C rs1 rC (Good.less1S g1 sC nC) (fun _ m => by simp at m) lk'
  · exact h1.elim
/-- behind a statement a slot is given away -/
theorem ss_frz {st : Stmt} {f : Sl → SR} {j : Nat} (h : SS X lk st f) : SS X lk st (fun G => (f G).bd (frzS j)) := by
  intro W tk L hL
  refine psImp (fun D σ H ⟨F, G, A, rs, gd, lk', h⟩ => ⟨F, G, A, rs, gd, lk', ?_⟩) (h W tk L hL)
  revert h
  show PostS X.K X.mg W L [] F H A ((f G).bd (frzS j)) D → PostS X.K X.mg W L [] F H A (f G) D
  cases f G with
  | nx G1 =>
    intro h σ' F' H' A' rs' s' hp lk2
    have h : PostS X.K X.mg W L [] F H A (frzS j G1) D := h
    unfold frzS at h
    cases e : slotT G1 j with
    | none => rw [e] at h; exact h σ' F' H' A' rs' s' hp lk2
    | some t =>
      rw [e] at h
      obtain ⟨v, F2, C, _, _, rs2, s2⟩ := give_slot rs' s'.good (slotT_some e)
      exact h σ' F2 H' C rs2 (s'.trans s2) hp lk2
  | ret t G1 => exact id
  | brk G1 => exact id
  | cnt G1 => exact id
  | exc a p G1 => exact id
  | no => exact id
theorem ss_retN : SS X lk (.Return none pos) (fun G => .ret .non G) := fun W tk L hL =>
  psImp (fun D σ H ⟨F, G, A, rs, gd, lk', h⟩ => h .non σ F H A [] rs .non gd.refl (fun _ m => by simp at m) lk') ps_retN
theorem ss_pas : SS X lk (.Pass pos) (fun G => .nx G) := fun W tk L hL =>
  psImp (fun D σ H ⟨F, G, A, rs, gd, lk', h⟩ => h σ F H A rs gd.refl (fun _ m => by simp at m) lk') ps_pass
theorem ss_brk : SS X lk (.Break pos) (fun G => .brk G) := fun W tk L hL =>
  psImp (fun D σ H ⟨F, G, A, rs, gd, lk', h⟩ => h σ F H A rs gd.refl (fun _ m => by simp at m) lk') ps_break
theorem ss_cnt : SS X lk (.Continue pos) (fun G => .cnt G) := fun W tk L hL =>
  psImp (fun D σ H ⟨F, G, A, rs, gd, lk', h⟩ => h σ F H A rs gd.refl (fun _ m => by simp at m) lk') ps_continue
theorem ss_nev {st : Stmt} : SS X lk st (fun _ => .no) := fun W tk L hL =>
  psImp (fun D σ H ⟨F, G, A, rs, gd, lk', h⟩ => h.elim) ps_never
theorem ss_if {st1 st2 : List Stmt} {f1 f2 : Sl → SR} (hc : ST X c q (trT fc)) (h1 : SSs X lk st1 f1) (h2 : SSs X lk st2 f2) : SS X lk (.If c st1 st2 pos) (fun G => (fc G).bs fun v G1 => match v.truth with
    | some true => f1 G1
    | some false => f2 G1
    | none => .no) := by
  intro W tk L hL
  refine psImp (fun D σ H ⟨F, G, A, rs, gd, lk', h⟩ => ?_) (ps_if (hc W tk) (h1 W tk L hL) (h2 W tk L hL))
  refine ⟨F, G, A, rs, gd, ?_⟩
  have e : ((fc G).bs fun v G1 => match v.truth with
    | some true => f1 G1
    | some false => f2 G1
    | none => .no) = (trT fc G).bs fun k G1 => if k = true then f1 G1 else f2 G1 := by
    unfold trT
    cases fc G with
    | no => rfl
    | exc c p G' => rfl
    | ok v G1 =>
      rw [R.bd_ok]
      show (match v.truth with
        | some true => f1 G1
        | some false => f2 G1
        | none => .no) = _
      cases v.truth with
      | none => rfl
      | some k => cases k <;> rfl
  dsimp only at h
  rw [e] at h
  refine PostS.bind0 (rel' := relB) h gd lk' fun k G1 k' F1 H1 A1 B1 _ rs1 v1 g1 h1 => ?_
  obtain ⟨rfl, rfl⟩ := v1
  have g1 : Good F1 H1 A1 := g1
  have h1 : PostS X.K X.mg W L [] F1 H1 A1 (if k' = true then f1 G1 else f2 G1) D := h1
  cases k' with
  | true => exact ⟨F1, G1, A1, rs1, g1, lk', h1⟩
  | false => exact ⟨F1, G1, A1, rs1, g1, lk', h1⟩
theorem sss_nil : SSs X lk [] (fun G => .nx G) := fun W tk L hL =>
  pssImp (fun D σ H ⟨F, G, A, rs, gd, lk', h⟩ => h σ F H A rs gd.refl (fun _ m => by simp at m) lk') pss_nil
theorem sss_cons {st : Stmt} {sts : List Stmt} {f : Sl → SR} {fs : Sl → SR} (h1 : SS X lk st f) (h2 : SSs X lk sts fs) : SSs X lk (st :: sts) (fun G => (f G).bd fs) := fun W tk L hL =>
  pssImp (fun D σ H ⟨F, G, A, rs, gd, lk', h⟩ => ⟨F, G, A, rs, gd, lk', PostS.seq h⟩) (pss_cons (h1 W tk L hL) (h2 W tk L hL))
end
end QX

set_option Elab.async false
set_option linter.all false
set_option maxRecDepth 100000
set_option maxHeartbeats 4000000
/-! raise, for, while -/
namespace QX
open PySem PySem.Spec L2

theorem VrL.len {K : PySem.W.Frag} {F H : Hp} {σ : L2.St} : ∀ {vs : List V} {es : List Ev} {B : List Addr}, VrL K F H σ vs es B → vs.length = es.length
  | _, _, _, .nil => rfl
  | _, _, _, .cons _ r => by rw [List.length_cons, List.length_cons, VrL.len r]
section
variable {X : Cx} {C : Addr} {bmB : List Value} {B newId initId : String} {x : Str} {p pos : Pos}
theorem pmk_own0 (F : ExcBaseFacts B newId initId bmB) (q : PySem.W.excIn X.K C bmB newId = true) (gC : X.mg x = some (.ref C)) (kC : PySem.W.keepIn X.K (.ref C) = true) (r : Raises X (.ref C)) (hg : Gl X x)
    (hdb : (x == ("__debug__" : Str)) = false) : PMk X (.Call (.Name x p) [] [] pos) (fun _ H Q => Q (.ref C) none H) := by
  intro pins s σ H Q I h
  refine wpAny_Call_Name_kw (ld_glob I hg gC ?_ hdb)
  refine PySem.W.callWith_K0 I.kIn kC ?_
  show wpAny _ _ (call (.ref C) []) _ _ _
  obtain ⟨bm, N, nm, qn, bs, hdct, sn, sub, ab, col, dd, k0, k1, k2, k3, k5, mN, hC, hN, hni, T⟩ := exc_obj I.kIn q
  refine wpAny_call_exc_subT F T hC hN hni (fun h' e hm => ?_) (Nat.zero_le _)
  exact mk_of I hm r h (I.hok.gone hm.new)
end

section
variable {X : Cx} {lk : List Nat} {e a b c : Expr} {q : Bool} {fe fa fb fc : Sl → R Ev} {pos p p' : Pos} {x y : Str} {i j : Nat} {C : Addr} {bmB : List Value} {B newId initId : String}
theorem ss_rse0 (hc : X.calm = true) (F : ExcBaseFacts B newId initId bmB) (hq : PySem.W.excIn X.K C bmB newId = true) (gC : X.mg x = some (.ref C)) (kC : PySem.W.keepIn X.K (.ref C) = true) (r : Raises X (.ref C)) (hg : Gl X x) (hdb : (x == ("__debug__" : Str)) = false) :
    SS X lk (.Raise (some (.Call (.Name x p) [] [] p')) none pos) (fun G => .exc x [] G) := by
  intro W tk L hL
  refine psImp (fun D σ H ⟨F, G, A, rs, gd, lk', h⟩ => ?_) (ps_raise hc tk (pmk_own0 F hq gC kC r hg hdb))
  exact h σ F H A C none rs gd.refl lk' gC rfl
theorem ss_rse {es : List Expr} {fl : Sl → R (List Ev)} (hc : X.calm = true) (F : ExcBaseFacts B newId initId bmB) (hq : PySem.W.excIn X.K C bmB newId = true) (gC : X.mg x = some (.ref C)) (kC : PySem.W.keepIn X.K (.ref C) = true) (r : Raises X (.ref C)) (hg : Gl X x) (hdb : (x == ("__debug__" : Str)) = false)
    (hs : (e :: es).all noStar = true) (hl : SL X (e :: es) q fl) :
    SS X lk (.Raise (some (.Call (.Name x p) (e :: es) [] p')) none pos) (fun G => (fl G).bs fun vs G1 => if vs.length ≤ sizeLine then .exc x [] G1 else .no) := by
  have hs2 : noStar e = true ∧ es.all noStar = true := by simpa [List.all_cons] using hs
  intro W tk L hL
  refine psImp (fun D σ H ⟨F, G, A, rs, gd, lk', h⟩ => ?_) (ps_raise hc tk (pmk_ownA F hq gC kC r hg (hl W tk) hdb (starEach_cons hs2.1) (backTo_any hs2.2)))
  refine ⟨F, G, A, rs, gd, PostS.bind0 h gd lk' fun vs G1 xs F1 H1 A1 B1 _ rs1 v1 g1 h1 => ?_⟩
  have el : xs.length = vs.length := v1.len
  by_cases hz : vs.length ≤ sizeLine
  · rw [if_pos hz] at h1
    have st : Step F1 H1 (B1 ++ A1) F1 H1 ([] ++ A1) := Good.less1S g1 (fun _ m => by simp at m) fun _ => .nil
    exact ⟨by rw [el]; exact hz, h1 σ F1 H1 A1 C none rs1 st lk' gC rfl⟩
  · rw [if_neg hz] at h1; exact h1.elim

/-! ### loops -/
/-- the walk J, as long as what stands at P stays -/
structure IterP (K : PySem.W.Frag) (F1 H1 : Hp) (P : List Addr) (J : It) (ts : List T) : Prop where
  stop : ∀ F' H', Same F1 F' → TupS K H1 H' → Same F' H' → (∀ b ∈ P, H' b = H1 b) → J.stop ts.length H'
  go : ∀ F' H', Same F1 F' → TupS K H1 H' → Same F' H' → (∀ b ∈ P, H' b = H1 b) → ∀ (i : Nat) (t : T), ts[i]? = some t → J.go i H' ∧ ∀ x H'', J.yld i H' x H'' → NewT H' H'' ∧ Rp K F' H'' x t []
theorem IterOk.toP {K : PySem.W.Frag} {F1 H1 : Hp} {J : It} {ts : List T} (h : IterOk K F1 H1 J ts true) : IterP K F1 H1 [] J ts :=
  ⟨fun F' H' a b c _ => h.stop F' H' a b c (.inl rfl), fun F' H' a b c _ => h.go F' H' a b c (.inl rfl)⟩
theorem iterP_list {K : PySem.W.Frag} {F H : Hp} {a : Addr} {vs : List V} {ts : List T} (h : H a = some (.lst vs)) (r : RpL K F H vs ts []) : IterP K F H [a] (Itl K a) ts := by
  refine ⟨fun F' H' ff _ sm s => ⟨vs, .inl (.inl (by rw [s a (by simp)]; exact h)), by rw [r.len]; exact Nat.le_refl _⟩, fun F' H' ff ht sm s i t hi => ?_⟩
  obtain ⟨v, e, rv⟩ := r.get0 hi
  have sq : SqL K H' a vs := .inl (.inl (by rw [s a (by simp)]; exact h))
  refine ⟨⟨vs, v, sq, e⟩, fun x H'' ⟨e1, e2⟩ => ?_⟩
  subst e1
  have := e2 vs sq
  rw [e] at this
  cases this
  exact ⟨.inl rfl, rv.mono ff ht fun _ m => by simp at m⟩

theorem for_core {K : PySem.W.Frag} {mg : MG} {W : WX} {L L' : List (Nat × V)} {P : List Addr} {F1 H1 : Hp} {A1 : List Addr} {J : It} {ts : List T} {G1 : Sl} {σ : L2.St} {D : Ends} {tg : Tg} {fb : Sl → SR}
    (iok : IterP K F1 H1 P J ts) (rs1 : RS K F1 H1 σ G1 A1) (g : Good F1 H1 (P ++ A1)) (lk1 : Lk σ L') (hP : ∀ b ∈ P, ∃ o, H1 b = some o) (hn : ∀ p ∈ L', p.1 ∉ tg.names) (hLL : ∀ {σ'}, Lk σ' L' → Lk σ' L)
    (fin : PostS K mg W L' P F1 H1 A1 (loopS (fun t G => match bindT tg t G with
      | some G2 => fb G2
      | none => .no) ts G1) D) :
    ∃ Wv : Nat → Nat → L2.St → Hp → Prop, (∃ m, Wv 0 m σ H1) ∧ ∀ i m σ H, Wv i m σ H →
      (J.stop i H ∧ D.nx σ H) ∨ (J.go i H ∧ ∃ N : L2.St → Hp → Prop, (∀ σ' H', N σ' H' → ∃ m', m' < m ∧ Wv (i + 1) m' σ' H') ∧ ∀ x H', J.yld i H x H' → gB K tg x σ H' fun σ2 H2 => tS K mg W L' fb { D with nx := N, ct := N, bk := D.nx } σ2 H2) := by
  let kk : T → Sl → SR := fun t G => match bindT tg t G with
      | some G2 => fb G2
      | none => .no
  let Iv : Nat → L2.St → Hp → Prop := fun i σ H => ∃ F G A, RS K F H σ G A ∧ Step F1 H1 (P ++ A1) F H (P ++ A) ∧ (∀ b ∈ P, H b = H1 b) ∧ Lk σ L' ∧ PostS K mg W L' P F H A (loopS kk (ts.drop i) G) D
  refine ⟨fun i m σ H => m = ts.length - i ∧ i ≤ ts.length ∧ Iv i σ H, ⟨ts.length, by simp, Nat.zero_le _, F1, G1, A1, rs1, g.refl, fun _ _ => rfl, lk1, fin⟩, ?_⟩
  rintro i m σ2 H2 ⟨rfl, hile, F2, G2, A2, rs2, st2, hP2, lk2, post⟩
  have g2 := st2.good
  by_cases hlt : i < ts.length
  · have hti : ts[i]? = some ts[i] := List.getElem?_eq_getElem hlt
    obtain ⟨jgo, jy⟩ := iok.go F2 H2 st2.ff st2.tupS g2.sub hP2 i _ hti
    refine .inr ⟨jgo, Iv (i + 1), fun σ' H' p' => ⟨ts.length - (i + 1), by omega, rfl, hlt, p'⟩, fun x H3 hy => ?_⟩
    obtain ⟨nw, rx⟩ := jy x H3 hy
    rw [List.drop_eq_getElem_cons hlt] at post
    unfold loopS at post
    have st3 : Step F2 H2 (P ++ A2) F2 H3 (P ++ A2) := nw.step g2
    have sm3 := nw.same
    have rs3 : RS K F2 H3 σ2 G2 A2 := rs2.mono (Same.refl _) (Same.tupS sm3) fun a m => by
      obtain ⟨o, e, _⟩ := rs2.at a m
      rw [e]; exact sm3 a o e
    have hP3 : ∀ b ∈ P, H3 b = H2 b := fun b m => by
      obtain ⟨o, e⟩ := hP b m
      rw [← hP2 b m] at e
      rw [e]; exact sm3 b o e
    cases eb : bindT tg ts[i] G2 with
    | none =>
      have e0 : kk ts[i] G2 = .no := by show (match bindT tg ts[i] G2 with | some G2 => fb G2 | none => SR.no) = _; rw [eb]
      rw [e0] at post
      exact post.elim
    | some Gb =>
      have e0 : kk ts[i] G2 = fb Gb := by show (match bindT tg ts[i] G2 with | some G2 => fb G2 | none => SR.no) = _; rw [eb]
      rw [e0] at post
      refine ⟨F2, G2, A2, ts[i], [], rs3, rx, st3.good.right, ?_⟩
      simp only [eb]
      intro σ3 D2 rsb sb nb lb kb
      have sb' : ∀ a ∈ D2, a ∈ A2 := fun a m => by simpa using sb a m
      have lk3 : Lk σ3 L' := fun p m => by rw [kb p.1 (hn p m)]; exact lk2 p m
      have gP2 : Good F2 H3 (P ++ D2) := st3.good.less (fun a m => (List.mem_append.mp m).elim (List.mem_append_left _) fun m => List.mem_append_right _ (sb' a m))
        (List.nodup_append.mpr ⟨st3.good.left.nd, nb, fun a ha b hb e => by subst e; exact st3.good.apart ha (sb' a hb)⟩)
      have stD : Step F2 H2 (P ++ A2) F2 H3 (P ++ D2) := st3.drop (fun a m => (List.mem_append.mp m).elim (List.mem_append_left _) fun m => List.mem_append_right _ (sb' a m)) gP2.nd
      refine ⟨F2, Gb, D2, rsb, gP2.right, lk3, ?_⟩
      -- what the body leaves, with P aside
      have side : ∀ {F' H' : Hp} {A' : List Addr}, Step F2 H3 D2 F' H' A' → Step F2 H2 (P ++ A2) F' H' (P ++ A') ∧ ∀ b ∈ P, H' b = H2 b := fun {F' H' A'} st => by
        obtain ⟨s2, hk⟩ := st.beside (gP2.perm List.perm_append_comm) fun b m => by
          obtain ⟨o, e⟩ := hP b m
          exact ⟨o, by rw [hP3 b m, hP2 b m]; exact e⟩
        exact ⟨stD.trans ((s2.permL List.perm_append_comm).permR List.perm_append_comm), fun b m => (hk b m).trans (hP3 b m)⟩
      cases er : fb Gb with
      | no => rw [er] at post; exact post.elim
      | nx G4 =>
        rw [er] at post
        intro σ' F' H' A' rs' st' _ lk'
        obtain ⟨z1, z2⟩ := side st'
        exact ⟨F', G4, A', rs', st2.trans z1, fun b m => (z2 b m).trans (hP2 b m), lk', PostS.on post z1 z2⟩
      | cnt G4 =>
        rw [er] at post
        intro σ' F' H' A' rs' st' _ lk'
        obtain ⟨z1, z2⟩ := side st'
        exact ⟨F', G4, A', rs', st2.trans z1, fun b m => (z2 b m).trans (hP2 b m), lk', PostS.on post z1 z2⟩
      | brk G4 =>
        rw [er] at post
        intro σ' F' H' A' rs' st' _ lk'
        obtain ⟨z1, z2⟩ := side st'
        exact post σ' F' H' A' rs' z1 z2 lk'
      | ret u G4 =>
        rw [er] at post
        intro v σ' F' H' A' B' rs' rv' st' _ lk'
        obtain ⟨z1, z2⟩ := side st'
        exact post v σ' F' H' A' B' rs' rv' z1 z2 lk'
      | exc c p G4 =>
        rw [er] at post
        intro σ' F' H' A' C d rs' st' lk'
        obtain ⟨z1, z2⟩ := side st'
        exact post σ' F' H' A' C d rs' z1 lk'
  · have ei : i = ts.length := by omega
    refine .inl ⟨by rw [ei]; exact iok.stop F2 H2 st2.ff st2.tupS g2.sub hP2, ?_⟩
    rw [List.drop_of_length_le (by omega)] at post
    exact post σ2 F2 H2 A2 rs2 g2.refl (fun _ _ => rfl) lk2
end
end QX

set_option Elab.async false
set_option linter.all false
set_option maxRecDepth 100000
set_option maxHeartbeats 4000000
/-! for, while: the rules -/
namespace QX
open PySem PySem.Spec L2

section
variable {X : Cx} {lk : List Nat} {c iter tgE : Expr} {q : Bool} {fc : Sl → R Ev} {fb : Sl → SR} {pos p : Pos} {x : Str} {i : Nat} {tg : Tg} {body : List Stmt}
theorem ss_frr {fi : Sl → R (List T × Bool)} (hp : PassesOwn (model X.prog X.w) X.A X.env X.xe) (hc : X.calm = true) (hi : SI X tgE iter q fi) (hg : PG X tgE (gB X.K tg)) (hb : SSs X lk body fb) (hs : ∀ x, foldedSetIterable iter X.env x = pure x)
    (hn : ∀ j ∈ tg.names, j ∉ lk) : SS X lk (.For tgE iter body [] pos) (fun G => (fi G).bs fun r G1 => if r.2 then loopS (fun t G => match bindT tg t G with
      | some G2 => fb G2
      | none => .no) r.1 G1 else .no) := by
  intro W tk L hL
  refine psImp (fun D σ H ⟨F, G, A, rs, gd, lk', h⟩ => ?_) (ps_for hp hc (hi W tk) hg (hb W tk L hL) hs)
  refine ⟨F, G, A, rs, gd, PostS.bind0 (rel' := relI X.K) h gd lk' fun r G1 J F1 H1 A1 B1 _ rs1 v1 g1 h1 => ?_⟩
  obtain ⟨iok, rfl⟩ := v1
  by_cases hr : r.2 = true
  · rw [if_pos hr] at h1
    rw [hr] at iok
    exact for_core iok.toP rs1 g1 lk' (fun _ m => by simp at m) (fun p m z => hn _ z (hL p m)) id h1
  · rw [if_neg hr] at h1; exact h1.elim
theorem ss_frh (hp : PassesOwn (model X.prog X.w) X.A X.env X.xe) (hc : X.calm = true) (hv : PE X (.Name x p) (tVar i)) (hg : PG X tgE (gB X.K tg)) (hb : SSs X (i :: lk) body fb) (hn : ∀ j ∈ tg.names, j ∉ i :: lk) :
    SS X lk (.For tgE (.Name x p) body [] pos) (fun G => match slotT G i with
    | some (.lst true ts) => if isFL ts then backR i (.lst true ts) (loopS (fun t G => match bindT tg t G with
        | some G2 => fb G2
        | none => .no) ts (G.set i none)) else .no
    | _ => .no) := by
  intro W tk L hL
  -- the iterator is told by the address
  refine ⟨fun pins s σ H D I h => ?_⟩
  obtain ⟨F, G, A, rs, gd, lk', h⟩ := h
  dsimp only at h
  split at h
  case h_2 => exact h.elim
  rename_i ts ets
  by_cases hf : isFL ts = true
  case neg => rw [if_neg hf] at h; exact h.elim
  rw [if_pos hf] at h
  obtain ⟨a, vs, D0, C, hσ, ha, r, rs2, pm⟩ := slotL rs (slotT_some ets)
  have e0 := r.isF_nil hf
  subst e0
  let L' : List (Nat × V) := (i, .ref a) :: L
  have hL' : ∀ p ∈ L', p.1 ∈ i :: lk := fun p m => by
    rcases List.mem_cons.mp m with m | m
    · rw [m]; exact List.mem_cons_self
    · exact List.mem_cons_of_mem _ (hL p m)
  refine (ps_for hp hc (pi_list hv) hg (hb W tk L' hL') (fun _ => rfl)).run pins s σ H D I ?_
  refine ⟨_, hσ, a, rfl, ⟨vs, .inl (.inl ha)⟩, ?_⟩
  have pm' : A.Perm ([a] ++ C) := pm
  have g1 : Good F H ([a] ++ C) := gd.perm pm'
  have lk1 : Lk σ L' := fun p m => by
    rcases List.mem_cons.mp m with m | m
    · rw [m]; exact hσ
    · exact lk' p m
  refine for_core (L := L) (iterP_list ha r) rs2 g1 lk1 (fun b m => by rw [List.mem_singleton] at m; rw [m]; exact ⟨_, ha⟩) (fun p m z => hn _ z (hL' p m)) (fun h p m => h p (List.mem_cons_of_mem _ m)) ?_
  have lkL : ∀ {σ' : L2.St}, Lk σ' L' → Lk σ' L := fun h p m => h p (List.mem_cons_of_mem _ m)
  have lki : ∀ {σ' : L2.St}, Lk σ' L' → σ'[i]? = some (some (.ref a)) := fun h => h (i, .ref a) List.mem_cons_self
  have put : ∀ {σ' : L2.St} {F' H' : Hp} {G' : Sl} {A' Z : List Addr} {G2 : Sl}, backO i (.lst true ts) G' = some G2 → RS X.K F' H' σ' G' A' → Step F H ([a] ++ C) F' H' ([a] ++ (Z ++ A')) → (∀ b ∈ [a], H' b = H b) → Lk σ' L' → ∃ E, RS X.K F' H' σ' G2 E ∧ Step F H A F' H' (Z ++ E) := by
    intro σ' F' H' G' A' Z G2 eb rs' st hk lk2
    unfold backO at eb
    split at eb
    · rename_i eG
      cases eb
      have ha' : H' a = some (.lst vs) := by rw [hk a (by simp)]; exact ha
      have rv : Rp X.K F' H' (.ref a) (.lst true ts) [a] := .lstO ha' (r.mono st.ff st.tupS fun _ m => by simp at m)
      obtain ⟨E, rsE, pE⟩ := rs'.cls eG (lki lk2) rv
      refine ⟨E, rsE, (st.permL pm'.symm).permR ?_⟩
      refine List.Perm.trans ?_ (List.Perm.append_left Z pE.symm)
      rw [← List.append_assoc, ← List.append_assoc]
      exact List.Perm.append_right _ List.perm_append_comm
    · cases eb
  generalize (loopS (fun t G => match bindT tg t G with
        | some G2 => fb G2
        | none => .no) ts (G.set i none)) = r0 at h
  cases r0 with
  | no => exact h
  | brk _ => exact h.elim
  | cnt _ => exact h.elim
  | nx G' =>
    unfold backR at h
    intro σ' F' H' A' rs' st hk lk2
    cases eb : backO i (.lst true ts) G' with
    | none => simp only [eb] at h; exact h.elim
    | some G2 =>
      simp only [eb] at h
      obtain ⟨E, rsE, stE⟩ := put (Z := []) eb rs' st hk lk2
      exact h σ' F' H' E rsE stE (fun _ m => by simp at m) (lkL lk2)
  | ret u G' =>
    unfold backR at h
    intro v σ' F' H' A' B rs' rv st hk lk2
    cases eb : backO i (.lst true ts) G' with
    | none => simp only [eb] at h; exact h.elim
    | some G2 =>
      simp only [eb] at h
      obtain ⟨E, rsE, stE⟩ := put (Z := B) eb rs' st hk lk2
      exact h v σ' F' H' E B rsE rv stE (fun _ m => by simp at m) (lkL lk2)
  | exc c p G' =>
    intro σ' F' H' A' Cc d rs' st lk2
    exact h σ' F' H' A' Cc d rs' ((st.permL pm'.symm).drop (fun a m => List.mem_append_right _ m) st.good.right.nd) (lkL lk2)
theorem ss_whl {fu : Nat} (hp : PassesOwn (model X.prog X.w) X.A X.env X.xe) (hc : ST X c q (trT fc)) (hb : SSs X lk body fb) : SS X lk (.While c body [] pos) (fun G => whileS (trT fc) fb fu G) := by
  intro W tk L hL
  refine psImp (fun D σ H ⟨F, G, A, rs, gd, lk', h⟩ => ?_) (ps_while hp (hc W tk) (hb W tk L hL))
  refine ⟨fun m σ H => ∃ F G A, RS X.K F H σ G A ∧ Good F H A ∧ Lk σ L ∧ PostS X.K X.mg W L [] F H A (whileS (trT fc) fb m G) D, ⟨fu, F, G, A, rs, gd, lk', h⟩, ?_⟩
  rintro m σ H ⟨F, G, A, rs, gd, lk', h⟩
  cases m with
  | zero => exact h.elim
  | succ m =>
    unfold whileS at h
    refine ⟨F, G, A, rs, gd, PostS.bind0 (rel' := relB) h gd lk' fun k G1 k' F1 H1 A1 B1 _ rs1 v1 g1 h1 => ?_⟩
    obtain ⟨rfl, rfl⟩ := v1
    have g1 : Good F1 H1 A1 := g1
    cases k' with
    | false => exact h1 σ F1 H1 A1 rs1 g1.refl (fun _ m => by simp at m) lk'
    | true =>
      rw [if_pos rfl] at h1 ⊢
      refine ⟨fun σ' H' => ∃ F G A, RS X.K F H' σ' G A ∧ Good F H' A ∧ Lk σ' L ∧ PostS X.K X.mg W L [] F H' A (whileS (trT fc) fb m G) D, fun σ' H' z => ⟨m, Nat.lt_succ_self m, z⟩, F1, G1, A1, rs1, g1, lk', ?_⟩
      cases er : fb G1 with
      | no => rw [er] at h1; exact h1
      | nx G2 => rw [er] at h1; exact fun σ' F' H' A' rs' st _ lk2 => ⟨F', G2, A', rs', st.good, lk2, PostS.on0 h1 st⟩
      | cnt G2 => rw [er] at h1; exact fun σ' F' H' A' rs' st _ lk2 => ⟨F', G2, A', rs', st.good, lk2, PostS.on0 h1 st⟩
      | brk G2 => rw [er] at h1; exact h1
      | ret u G2 => rw [er] at h1; exact h1
      | exc cc pp G2 => rw [er] at h1; exact h1
end
end QX

set_option Elab.async false
set_option linter.all false
set_option maxRecDepth 100000
set_option maxHeartbeats 4000000
/-! statements: the check -/
namespace QX
open PySem PySem.Spec L2

def isComp : Expr → Bool
  | .ListComp _ _ _ _ => true
  | .SetComp _ _ _ _ => true
  | .DictComp _ _ _ _ _ => true
  | _ => false
theorem sw_no {e : Expr} {t : Option Expr} {l : Nat} {env : Env} (h : isComp e = false) : swapsWith e t l env = pure false := by
  cases e <;> first | rfl | (simp [isComp] at h)
/-- a comprehension that is not stored on the spot -/
def swOff (sc : Scope) (tg e : Expr) : Bool := !isComp e || (match tg with
  | .Name x _ => sc.names.lookup x != some .local
  | _ => true)
theorem sw_off {e tg : Expr} {l : Nat} {env : Env} (h : swOff env.scope tg e = true) : swapsWithSole [tg] e l env = pure false := by
  show swapsWith e (some tg) l env = pure false
  unfold swOff at h
  cases hc : isComp e with
  | false => exact sw_no hc
  | true =>
    rw [hc] at h
    simp only [Bool.not_true, Bool.false_or] at h
    cases e <;> first | (simp [isComp] at hc; done) | skip
    all_goals
      cases tg <;> first | rfl | skip
      rename_i x p
      have h1 : (env.kindOf x == some .local) = false := by simpa [Env.kindOf] using h
      show (pure _ : Sem Bool) = pure false
      simp only [h1, Bool.and_false, Bool.false_and]
def starQ : Expr → Bool
  | .Starred _ _ => true
  | _ => false
def nameQ (sc : Scope) (line : Nat) : Expr → Option Str
  | .Name id pos => if sc.names.lookup id == some .local && pos.line == line then some id else none
  | _ => none
/-- is a pair stored from the right -/
def swsK (sc : Scope) (tg e : Expr) : Option (Option (List Str)) := match tg, e with
  | .Tuple ts _ _, .Tuple vs _ _ =>
    if (!(ts.length == 2 || ts.length == 3) || vs.length != ts.length || sc.kind != .function) = true then none
    else if vs.any starQ = true then none
    else if ((ts.filterMap (nameQ sc ((ts.head?.map (·.pos.line)).getD 0))).length != ts.length || (ts.filterMap (nameQ sc ((ts.head?.map (·.pos.line)).getD 0))).eraseDups.length != (ts.filterMap (nameQ sc ((ts.head?.map (·.pos.line)).getD 0))).length) = true then some none
    else if vs.all (foldedForSure 8) = true then some none
    else if vs.all (constantsAlone 8) = true then none
    else some (some (ts.filterMap (nameQ sc ((ts.head?.map (·.pos.line)).getD 0))))
  | .List _ _, _ => none
  | _, _ => some none
theorem sws_ok {tg e : Expr} {env : Env} {r : Option (List Str)} (h : swsK env.scope tg e = some r) : swappedStores [tg] e env = pure r := by
  unfold swsK at h
  split at h
  · rename_i ts k p vs k2 p2
    by_cases h1 : (!(ts.length == 2 || ts.length == 3) || vs.length != ts.length || env.scope.kind != .function) = true
    · rw [if_pos h1] at h; cases h
    rw [if_neg h1] at h
    by_cases h2 : vs.any starQ = true
    · rw [if_pos h2] at h; cases h
    rw [if_neg h2] at h
    have hk : env.scope.kind = .function := by
      simp only [Bool.or_eq_true, not_or, Bool.not_eq_true] at h1
      simpa using h1.2
    have hb : env.blockKind = .function := by unfold Env.blockKind; rw [hk]; rfl
    have h1' : (!(ts.length == 2 || ts.length == 3) || vs.length != ts.length || env.blockKind != .function) = false := by
      rw [hb]
      simp only [Bool.not_eq_true] at h1
      rw [hk] at h1
      exact h1
    have h2' : vs.any starQ = false := by simpa using h2
    unfold swappedStores
    show (if (!(ts.length == 2 || ts.length == 3) || vs.length != ts.length || env.blockKind != .function) = true then pure none
      else if vs.any starQ = true then pure none
      else if ((ts.filterMap (nameQ env.scope ((ts.head?.map (·.pos.line)).getD 0))).length != ts.length || (ts.filterMap (nameQ env.scope ((ts.head?.map (·.pos.line)).getD 0))).eraseDups.length != (ts.filterMap (nameQ env.scope ((ts.head?.map (·.pos.line)).getD 0))).length) = true then pure none
      else if vs.all (foldedForSure 8) = true then pure none
      else if vs.all (constantsAlone 8) = true then _
      else pure (some (ts.filterMap (nameQ env.scope ((ts.head?.map (·.pos.line)).getD 0))))) = _
    rw [h1', h2', if_neg Bool.false_ne_true, if_neg Bool.false_ne_true]
    split at h
    · rename_i h3
      cases h
      rw [if_pos h3]
    · rename_i h3
      split at h
      · rename_i h4
        cases h
        rw [if_neg h3, if_pos h4]
      · rename_i h4
        split at h
        · cases h
        · rename_i h5
          cases h
          rw [if_neg h3, if_neg h4, if_neg h5]
  · cases h
  · rename_i hx hy
    cases h
    unfold swappedStores
    cases tg with
    | Tuple ts k p => cases e with
      | Tuple vs k2 p2 => exact (hy _ _ _ _ _ _ rfl rfl).elim
      | _ => rfl
    | List ts p => exact (hx _ _ rfl).elim
    | _ => rfl
end QX

set_option Elab.async false
set_option linter.all false
set_option maxRecDepth 100000
set_option maxHeartbeats 8000000
/-! every statement that passes the check does what the evaluator says -/
namespace QX
open PySem PySem.Spec L2

section
variable (c : Ck) (sc : Scope) (fn : Str → Bool)
mutual
def chkTs (lk : List Nat) : Ts → Expr → Bool
  | .nm i => fun e => match e with
    | .Name x _ => locOk c.N sc fn i x && !lk.contains i
    | _ => false
  | .sb i ix => fun e => match e with
    | .Subscript (.Name x _) ix' _ => visOk c.N sc i x && chkE c sc fn ix ix'
    | _ => false
  | .tp gs => fun e => match e with
    | .Tuple es _ _ => chkTss lk gs es
    | _ => false
def chkTss (lk : List Nat) : List Ts → List Expr → Bool
  | [] => fun es => match es with
    | [] => true
    | _ => false
  | g :: gs => fun es => match es with
    | e :: es => chkTs lk g e && chkTss lk gs es
    | [] => false
end
/-- what a loop goes through -/
def chkI (k : Ik) (its : List Ex) (it' tg' : Expr) : Bool := match k with
  | .val => (match its with
    | [_] => chkL c sc fn its [it']
    | _ => false)
  | k => (match it' with
    | .Call (.Name x _) es' [] _ => x == k.nm && gloOk sc x && ikOk k its.length tg' && chkL c sc fn its es'
    | _ => false)
def isTup : Expr → Bool
  | .Tuple _ _ _ => true
  | .List _ _ => true
  | _ => false
mutual
def chkS (lk : List Nat) : Sm → Stmt → Bool
  | .asg tg e => fun st => match st with
    | .Assign [tg'] e' _ => chkTs c sc fn lk tg tg' && chkE c sc fn e e' && swOff sc tg' e' && decide (swsK sc tg' e' = some none)
    | _ => false
  | .asl i e => fun st => match st with
    | .Assign [.Name x p] (.ListComp a b d p') ps => (match e with
      | .lc _ _ _ _ _ _ => locOk c.N sc fn i x && !lk.contains i && chkE c sc fn e (.ListComp a b d p') && (sc.kind == .function) && (sc.names.lookup x == some .local) && (p.line == p'.line) && ((d.names.any fun (n, k) => n == x && (k == .local || k == .cell)) == false)
      | _ => false)
    | _ => false
  | .par i j a b => fun st => match st with
    | .Assign [.Tuple [.Name x px, .Name y py] kt pt] (.Tuple [a', b'] k2 pt2) _ =>
      decide (i ≠ j) && (c.N[i]? == some x) && (c.N[j]? == some y) && (sc.names.lookup x == some .local) && (sc.names.lookup y == some .local) && !lk.contains i && !lk.contains j && chkL c sc fn [a, b] [a', b'] &&
        decide (swsK sc (.Tuple [.Name x px, .Name y py] kt pt) (.Tuple [a', b'] k2 pt2) = some (some [x, y]))
    | _ => false
  | .aug i op e => fun st => match st with
    | .AugAssign (.Name x _) o e' _ => decide (o = op.py) && (intBop op).isSome && locOk c.N sc fn i x && !lk.contains i && chkE c sc fn e e'
    | _ => false
  | .exp e => fun st => match st with
    | .Expr e' _ => chkE c sc fn e e' && !isComp e'
    | _ => false
  | .ret e => fun st => match st with
    | .Return (some e') _ => chkE c sc fn e e'
    | _ => false
  | .retN => fun st => match st with
    | .Return none _ => true
    | _ => false
  | .iff d a b => fun st => match st with
    | .If d' a' b' _ => chkE c sc fn d d' && tst d && chkSs lk a a' && chkSs lk b b'
    | _ => false
  | .frr tg k its body => fun st => match st with
    | .For tg' it' body' [] _ => chkTg c.N sc fn tg tg' && (tg.names.all fun j => !lk.contains j) && chkI c sc fn k its it' tg' && chkSs lk body body'
    | _ => false
  | .frh tg i body => fun st => match st with
    | .For tg' (.Name x _) body' [] _ => chkTg c.N sc fn tg tg' && (tg.names.all fun j => !(i :: lk).contains j) && visOk c.N sc i x && chkSs (i :: lk) body body'
    | _ => false
  | .whl d body => fun st => match st with
    | .While d' body' [] _ => chkE c sc fn d d' && tst d && chkSs lk body body'
    | _ => false
  | .brk => fun st => match st with
    | .Break _ => true
    | _ => false
  | .cnt => fun st => match st with
    | .Continue _ => true
    | _ => false
  | .pas => fun st => match st with
    | .Pass _ => true
    | _ => false
  | .nev => fun _ => true
  | .frz _ m => fun st => chkS lk m st
  | .rse x es => fun st => match st with
    | .Raise (some (.Call (.Name y _) es' [] _)) none _ => x == y && gloOk sc x && c.ex x && chkL c sc fn es es'
    | _ => false
def chkSs (lk : List Nat) : List Sm → List Stmt → Bool
  | [] => fun ss => match ss with
    | [] => true
    | _ => false
  | s :: ss => fun sts => match sts with
    | t :: ts => chkS lk s t && chkSs lk ss ts
    | [] => false
end
end

section
variable {c : Cf} {sc : Scope} {fn : Str → Bool} {X : Cx} {fu : Nat}
theorem tsStar {lk : List Nat} {g : Ts} {e : Expr} (h : chkTs c.toCk sc fn lk g e = true) : ∀ es env, assignEach (e :: es) env = (false, assign e env) :: assignEach es env := by
  intro es env
  cases g <;> cases e <;> first | rfl | (simp [chkTs] at h)
theorem tssLen {lk : List Nat} : ∀ {gs : List Ts} {es : List Expr}, chkTss c.toCk sc fn lk gs es = true → ∀ env, (assignEach es env).length = gs.length ∧ (assignEach es env).findIdx? (·.1) = none
  | [], [], _, _ => ⟨rfl, rfl⟩
  | g :: gs, e :: es, h, env => by
    unfold chkTss at h
    simp only [Bool.and_eq_true] at h
    obtain ⟨h1, h2⟩ := tssLen h.2 env
    rw [tsStar h.1]
    refine ⟨by rw [List.length_cons, h1, List.length_cons], ?_⟩
    rw [List.findIdx?_cons]
    simp [h2]
  | [], _ :: _, h, _ => by simp [chkTss] at h
  | _ :: _, [], h, _ => by simp [chkTss] at h
theorem SG.eq {lk : List Nat} {tg : Expr} {f g : T → Sl → SR} (h : SG X lk tg f) (e : f = g) : SG X lk tg g := e ▸ h
theorem SS.eq {lk : List Nat} {st : Stmt} {f g : Sl → SR} (h : SS X lk st f) (e : f = g) : SS X lk st g := e ▸ h
theorem SSs.eq {lk : List Nat} {st : List Stmt} {f g : Sl → SR} (h : SSs X lk st f) (e : f = g) : SSs X lk st g := e ▸ h
theorem SGs.eq {lk : List Nat} {st : List Expr} {f g : List T → Sl → SR} (h : SGs X lk st f) (e : f = g) : SGs X lk st g := e ▸ h
theorem notIn {lk : List Nat} {i : Nat} (h : (!lk.contains i) = true) : i ∉ lk := by simpa using h
theorem SX.loc (s : SX c X sc fn) {i : Nat} {x : Str} (h : locOk c.N sc fn i x = true) : X.N[i]? = some x ∧ L2.Loc X.env.scope x ∧ (X.fn x = true ∨ X.env.scope.names.lookup x = some .local) := by
  unfold locOk at h
  simp only [Bool.and_eq_true, Bool.or_eq_true, beq_iff_eq] at h
  obtain ⟨h1, h2⟩ := h
  rw [s.hN, s.sc, s.fn]
  exact ⟨h1, h2.imp id (·.1), h2.elim .inr fun z => .inl z.2⟩
theorem asn_sub {o i : Expr} {p : Pos} {env : Env} (h : plainE i = true) (v : Value) : assign (.Subscript o i p) env v = (do
      let ov ← holding [v] (eval o env)
      let iv ← holding [v, ov] (eval i env)
      standAt p
      holding [v, ov, iv] (setItem ov iv v)
      release [v, ov, iv] []) := by
  cases i <;> first | rfl | (simp [plainE] at h)
mutual
theorem soundT (s : SX c X sc fn) {lk : List Nat} : ∀ (g : Ts) {e : Expr}, chkTs c.toCk sc fn lk g e = true → SG X lk e (bindS c.Φ c.gl g)
  | .nm i, e, h => by
    unfold chkTs at h
    split at h
    · obtain ⟨h1, h2⟩ := and2 h
      obtain ⟨z1, z2, z3⟩ := s.loc h1
      exact SG.eq (sg_nm s.nd z1 z2 z3 (notIn h2)) (by funext t G; rw [bindS]; try rfl)
    · cases h
  | .sb i ix, e, h => by
    unfold chkTs at h
    split at h
    · obtain ⟨h1, h2⟩ := and2 h
      exact SG.eq (sg_sb (s.vis h1) (sound ix s h2).1 (asn_sub (chk_plain h2))) (by funext t G; rw [bindS]; try rfl)
    · cases h
  | .tp gs, e, h => by
    unfold chkTs at h
    split at h
    · obtain ⟨l1, l2⟩ := tssLen h X.env
      exact SG.eq (sg_tp s.calm (soundTss s gs h) l1 l2) (by funext t G; rw [bindS]; try rfl)
    · cases h
theorem soundTss (s : SX c X sc fn) {lk : List Nat} : ∀ (gs : List Ts) {es : List Expr}, chkTss c.toCk sc fn lk gs es = true → SGs X lk es (bindSs c.Φ c.gl gs)
  | [], es, h => by
    unfold chkTss at h
    split at h
    · exact SGs.eq sgs_nil (by funext ts G; rw [bindSs]; try rfl)
    · cases h
  | g :: gs, es, h => by
    unfold chkTss at h
    split at h
    · obtain ⟨h1, h2⟩ := and2 h
      exact SGs.eq (sgs_cons (soundT s g h1) (soundTss s gs h2) (by rw [tsStar h1]; rfl)) (by funext ts G; rw [bindSs]; try rfl)
    · cases h
end
theorem iter_ok (s : SX c X sc fn) {tg' : Expr} {k : Ik} {its : List Ex} {it' : Expr} (h : chkI c.toCk sc fn k its it' tg' = true) :
    ∃ fi, SI X tg' it' (quietL its) fi ∧ (∀ x, foldedSetIterable it' X.env x = pure x) ∧ ∀ G, fi G = (evalL c.Φ c.gl its G).bd fun vs G1 => R.of G1 (iterOf k vs) := by
  unfold chkI at h
  split at h
  · split at h
    · rename_i x
      have h10 : chkE c.toCk sc fn x it' = true := by
        unfold chkL at h
        exact (and2 h).1
      have ha := (sound x s h10).1
      have e : quietL [x] = quiet x := by simp [quietL]
      rw [e]
      refine ⟨_, si_val ha, plain_set (chk_plain h10), fun G => ?_⟩
      rw [evalL, bd_assoc]
      congr 1; funext v G1
      rw [evalL, R.bd_ok]
      have q0 : (v.firm || quietL []) = true := by simp [quietL]
      rw [if_pos q0]
      by_cases hr : (!quiet x || !v.isRf) = true
      · rw [if_pos hr]; rfl
      · rw [if_neg hr]
        cases v with
        | own t => simp [Ev.isRf] at hr
        | vw t => simp [Ev.isRf] at hr
        | rf i => rfl
    · cases h
  · split at h
    · rename_i x p es' pos'
      simp only [Bool.and_eq_true, beq_iff_eq] at h
      obtain ⟨⟨⟨rfl, h10⟩, h11⟩, h12⟩ := h
      have hl := soundL its s h12
      obtain ⟨p1, p2⟩ := chkL_plain h12
      rw [← p2] at h11
      exact ⟨_, si_call (p := p) (pos := pos') _ h11 (s.gl_ h10).1 (s.blt _ (ikMem h11)) p1 hl fun G vs G1 e => by rw [evalL_len e, p2], fun _ => rfl, fun G => rfl⟩
    · cases h
theorem bs_bd {α β : Type} (r : R α) (k : α → Sl → R β) (l : β → Sl → SR) : (r.bd k).bs l = r.bs fun a G => (k a G).bs l := by
  cases r <;> rfl
theorem bs_of {α : Type} (o : Option α) (G : Sl) (k : α → Sl → SR) : (R.of G o).bs k = match o with
  | some a => k a G
  | none => .no := by cases o <;> rfl
theorem namesOut {lk : List Nat} {tg : Tg} (h : (tg.names.all fun j => !lk.contains j) = true) : ∀ j ∈ tg.names, j ∉ lk := fun j m => notIn (List.all_eq_true.mp h j m)
theorem lc_parts (s : SX c X sc fn) {elt : Ex} {tg : Tg} {k : Ik} {its ifs : List Ex} {own : List Nat} {elt' : Expr} {gs : List Comprehension} {scope : Scope} {p : Pos} (h : chkE c.toCk sc fn (.lc elt tg k its ifs own) (.ListComp elt' gs scope p) = true) :
    ∃ tg' it' ifs', gs = [⟨tg', it', ifs', 0⟩] ∧ BlkOk X.N X.env.scope scope (ownL c.N own) ∧ (ownL c.N own).map (·.2) = own ∧ (∀ j ∈ tg.names, j ∈ (ownL c.N own).map (·.2)) ∧ chkI c.toCk sc fn k its it' tg' = true ∧
      (∀ (s1 : Shared) (H : Hp) (C : Addr) (cl : List (Str × Addr)) (fp : List Addr), PG (X.blk s1 H scope (compEnvC scope cl C X.env) fp) tg' (gB X.K tg)) ∧
      (∀ (s1 : Shared) (H : Hp) (C : Addr) (cl : List (Str × Addr)) (fp : List Addr), PTs (X.blk s1 H scope (compEnvC scope cl C X.env) fp) ifs' (tTs X.K X.mg W0 (quietL ifs) (evalAll c.Φ c.gl ifs))) ∧
      (∀ (s1 : Shared) (H : Hp) (C : Addr) (cl : List (Str × Addr)) (fp : List Addr), PE (X.blk s1 H scope (compEnvC scope cl C X.env) fp) elt' (tE X.K X.mg W0 (quiet elt) (evalE c.Φ c.gl elt))) := by
  unfold chkE at h
  split at h
  case h_2 => cases h
  rename_i _ tg' it' ifs' _ _ heq
  cases heq
  simp only [Bool.and_eq_true, decide_eq_true_eq] at h
  obtain ⟨⟨⟨⟨⟨⟨⟨⟨h1, h2⟩, h3⟩, h4⟩, h5⟩, h6⟩, h7⟩, h8⟩, h9⟩ := h
  have sb := fun s1 H C cl fp => s.blk s1 H scope C cl fp
  refine ⟨tg', it', ifs', rfl, by rw [s.hN, s.sc]; exact blkOk_by h1, h2, fun j m => ?_, h9, fun s1 H C cl fp => pg_ok (sb s1 H C cl fp).hN (sb s1 H C cl fp).nd (sb s1 H C cl fp).sc (sb s1 H C cl fp).fn (sb s1 H C cl fp).calm tg tg' h4,
    fun s1 H C cl fp => ?_, fun s1 H C cl fp => (sound elt (sb s1 H C cl fp) h5).1 W0 takes0⟩
  · rw [h2]
    have z := List.all_eq_true.mp h3 j m
    simpa using z
  · have ih := soundTs ifs (sb s1 H C cl fp) h8 h7
    match ifs, ifs', h6, ih with
    | [], [], _, ih => exact ptsImp (fun σ H Q ⟨F, G, A, rs, gd, h⟩ => by
        simp only [evalAll] at h
        exact Post.fin h rs ⟨rfl, rfl⟩ gd.refl fun _ => Same.refl _) pts_nil
    | [x], [y], _, ih => exact ptsImp (fun σ H Q h => h) (pts_one (ih y rfl W0 takes0))
    | [], _ :: _, _, _ => simp [chkL] at h8
    | _ :: _, [], _, _ => simp [chkL] at h8
    | [x], y :: z :: r, _, _ => simp [chkL] at h8
    | _ :: _ :: _, _, h6, _ => simp at h6
theorem lc_eval {fi : Sl → R (List T × Bool)} {elt : Ex} {tg : Tg} {k : Ik} {its ifs : List Ex} {own : List Nat} (hf : ∀ G, fi G = (evalL c.Φ c.gl its G).bd fun vs G1 => R.of G1 (iterOf k vs)) :
    (fun G => (fi G).bd fun r G1 => if ((r.2 || (quiet elt && quietL ifs)) && freeS G1 own) = true then
      (loopC (turnC tg (evalAll c.Φ c.gl ifs) (evalE c.Φ c.gl elt) own) r.1 (outS G1 own)).bd fun ts G6 => if ts.length ≤ sizeLine then R.ok (.own (.lst true ts)) (backS G6 G1 own) else .no
      else .no) = evalE c.Φ c.gl (.lc elt tg k its ifs own) := by
  funext G
  rw [evalE, hf, bd_assoc]
  congr 1; funext vs G1
  rw [bd_of]
  cases iterOf k vs <;> rfl
mutual
theorem soundS (s : SX c X sc fn) (hp : PassesOwn (model X.prog X.w) X.A X.env X.xe) : ∀ (m : Sm) {lk : List Nat} {st : Stmt}, chkS c.toCk sc fn lk m st = true → SS X lk st (evalS c.Φ c.gl fu m)
  | .asg tg e, lk, st, h => by
    unfold chkS at h
    split at h
    · rename_i tg' e' pos
      simp only [Bool.and_eq_true, decide_eq_true_eq] at h
      obtain ⟨⟨⟨h1, h2⟩, h3⟩, h4⟩ := h
      refine SS.eq (ss_asg (sound e s h2).1 (soundT s tg h1) (sw_off (by rw [s.sc]; exact h3)) (sws_ok (by rw [s.sc]; exact h4)) (by rw [tsStar h1]; rfl)) (by funext G; rw [evalS]; try rfl)
    · cases h
  | .frz i m, lk, st, h => by
    unfold chkS at h
    exact SS.eq (ss_frz (j := i) (soundS s hp m h)) (by funext G; rw [evalS]; try rfl)
  | .asl i e, lk, st, h => by
    unfold chkS at h
    split at h
    case h_2 => cases h
    rename_i x p a b d p' ps
    split at h
    case h_2 => cases h
    rename_i elt tg k its ifs own
    simp only [Bool.and_eq_true, beq_iff_eq] at h
    obtain ⟨⟨⟨⟨⟨⟨h1, h2⟩, h3⟩, h4⟩, h5⟩, h6⟩, h7⟩ := h
    obtain ⟨tg', it', ifs', rfl, ok, ho, hn, hI, hg, ht, he⟩ := lc_parts s h3
    obtain ⟨fi, z1, z2, z3⟩ := iter_ok (tg' := tg') s hI
    obtain ⟨y1, y2, y3⟩ := s.loc h1
    intro W tk L hL
    have ev := lc_eval (c := c) (elt := elt) (tg := tg) (ifs := ifs) (own := own) z3
    have imp := lc_imp (X := X) (fi := fi) (ft := evalAll c.Φ c.gl ifs) (fe := evalE c.Φ c.gl elt) (qi := quietL its) (qt := quietL ifs) (qe := quiet elt) (own := ownL c.N own) hn W
    rw [ho, ev] at imp
    have hl : X.env.scope.names.lookup x = some .local := by rw [s.sc]; exact h5
    have P := ps_setLc (spos := ps) (py := p) (pos := p') s.calm s.nd y1 hl (sw_true (by rw [s.sc]; exact h4) hl (by rw [h6]; exact beq_self_eq_true _) h7) (z1 W tk) ok hg ht he z2
    rw [ho] at P
    have hne : ∀ p ∈ L, p.1 ≠ i := fun p m z => notIn h2 (by rw [← z]; exact hL p m)
    have aim := asl_imp (X := X) (W := W) (L := L) (i := i) hne imp
    refine psImp (fun D σ H h => aim D σ H ?_) P
    have e : evalS c.Φ c.gl fu (.asl i (.lc elt tg k its ifs own)) = (fun G => (evalE c.Φ c.gl (.lc elt tg k its ifs own) G).bs fun v G1 => match v.fm with
      | some t => if i < G1.length then .nx (G1.set i (some t)) else .no
      | none => .no) := by funext G; rw [evalS]; try rfl
    rw [e] at h
    exact h
  | .par i j a b, lk, st, h => by
    unfold chkS at h
    split at h
    · rename_i x px y py kt pt a' b' k2 pt2 pos
      simp only [Bool.and_eq_true, decide_eq_true_eq, beq_iff_eq] at h
      obtain ⟨⟨⟨⟨⟨⟨⟨⟨h1, h2⟩, h3⟩, h4⟩, h5⟩, h6⟩, h7⟩, h8⟩, h9⟩ := h
      refine SS.eq (ss_par s.calm s.nd (by rw [s.hN]; exact h2) (by rw [s.hN]; exact h3) h1 (by rw [s.sc]; exact h4) (by rw [s.sc]; exact h5) (soundL [a, b] s h8) (sws_ok (by rw [s.sc]; exact h9)) rfl (notIn h6) (notIn h7)) (by funext G; rw [evalS]; try rfl)
    · cases h
  | .aug i op e, lk, st, h => by
    unfold chkS at h
    split at h
    · simp only [Bool.and_eq_true, decide_eq_true_eq] at h
      obtain ⟨⟨⟨⟨h1, h2⟩, h3⟩, h4⟩, h5⟩ := h
      obtain ⟨f, hf⟩ := Option.isSome_iff_exists.mp h2
      subst h1
      obtain ⟨z1, z2, z3⟩ := s.loc h3
      exact SS.eq (ss_aug hf s.nd z1 z2 z3 (notIn h4) (sound e s h5).1) (by funext G; rw [evalS]; try rfl)
    · cases h
  | .exp e, lk, st, h => by
    unfold chkS at h
    split at h
    · obtain ⟨h1, h2⟩ := and2 h
      exact SS.eq (ss_exp (sound e s h1).1 (sw_no (by simpa using h2))) (by funext G; rw [evalS]; try rfl)
    · cases h
  | .ret e, lk, st, h => by
    unfold chkS at h
    split at h
    · exact SS.eq (ss_ret (sound e s h).1) (by funext G; rw [evalS]; try rfl)
    · cases h
  | .retN, lk, st, h => by
    unfold chkS at h
    split at h
    · exact SS.eq ss_retN (by funext G; rw [evalS]; try rfl)
    · cases h
  | .iff d a b, lk, st, h => by
    unfold chkS at h
    split at h
    · simp only [Bool.and_eq_true] at h
      obtain ⟨⟨⟨h1, h2⟩, h3⟩, h4⟩ := h
      exact SS.eq (ss_if ((sound d s h1).2 h2) (soundSs s hp a h3) (soundSs s hp b h4)) (by funext G; rw [evalS]; try rfl)
    · cases h
  | .frr tg k its body, lk, st, h => by
    unfold chkS at h
    split at h
    · simp only [Bool.and_eq_true] at h
      obtain ⟨⟨⟨h1, h2⟩, h3⟩, h4⟩ := h
      obtain ⟨fi, z1, z2, z3⟩ := iter_ok s h3
      refine SS.eq (ss_frr hp s.calm z1 (pg_ok s.hN s.nd s.sc s.fn s.calm tg _ h1) (soundSs s hp body h4) z2 (namesOut h2)) ?_
      funext G
      rw [evalS, z3, bs_bd]
      congr 1; funext vs G1
      rw [bs_of]
      cases iterOf k vs <;> rfl
    · cases h
  | .frh tg i body, lk, st, h => by
    unfold chkS at h
    split at h
    · simp only [Bool.and_eq_true] at h
      obtain ⟨⟨⟨h1, h2⟩, h3⟩, h4⟩ := h
      exact SS.eq (ss_frh hp s.calm (s.vis h3) (pg_ok s.hN s.nd s.sc s.fn s.calm tg _ h1) (soundSs s hp body h4) (namesOut h2)) (by funext G; rw [evalS]; try rfl)
    · cases h
  | .whl d body, lk, st, h => by
    unfold chkS at h
    split at h
    · simp only [Bool.and_eq_true] at h
      obtain ⟨⟨h1, h2⟩, h4⟩ := h
      exact SS.eq (ss_whl (fu := fu) hp ((sound d s h1).2 h2) (soundSs s hp body h4)) (by funext G; rw [evalS]; try rfl)
    · cases h
  | .brk, lk, st, h => by
    unfold chkS at h
    split at h
    · exact SS.eq ss_brk (by funext G; rw [evalS]; try rfl)
    · cases h
  | .cnt, lk, st, h => by
    unfold chkS at h
    split at h
    · exact SS.eq ss_cnt (by funext G; rw [evalS]; try rfl)
    · cases h
  | .pas, lk, st, h => by
    unfold chkS at h
    split at h
    · exact SS.eq ss_pas (by funext G; rw [evalS]; try rfl)
    · cases h
  | .nev, lk, st, h => SS.eq ss_nev (by funext G; rw [evalS]; try rfl)
  | .rse x es, lk, st, h => by
    unfold chkS at h
    split at h
    · rename_i y p es' p' pos
      simp only [Bool.and_eq_true, beq_iff_eq] at h
      obtain ⟨⟨⟨rfl, h2⟩, h3⟩, h4⟩ := h
      obtain ⟨C, B, nI, iI, bmB, z1, z2, z3, z4, z5, z6⟩ := s.exc _ h3
      obtain ⟨g1, g2⟩ := s.gl_ h2
      have hl := soundL es s h4
      obtain ⟨q1, q2⟩ := chkL_plain h4
      cases es' with
      | nil =>
        have e0 : es = [] := by
          cases es with
          | nil => rfl
          | cons _ _ => simp at q2
        subst e0
        refine SS.eq (ss_rse0 s.calm z3 z4 z1 z2 (raises_own z5 z6) g1 g2) ?_
        funext G
        rw [evalS, evalL]
        rfl
      | cons e' r =>
        exact SS.eq (ss_rse s.calm z3 z4 z1 z2 (raises_own z5 z6) g1 g2 q1 hl) (by funext G; rw [evalS]; try rfl)
    · cases h
theorem soundSs (s : SX c X sc fn) (hp : PassesOwn (model X.prog X.w) X.A X.env X.xe) : ∀ (ms : List Sm) {lk : List Nat} {sts : List Stmt}, chkSs c.toCk sc fn lk ms sts = true → SSs X lk sts (evalSs c.Φ c.gl fu ms)
  | [], lk, sts, h => by
    unfold chkSs at h
    split at h
    · exact SSs.eq sss_nil (by funext G; rw [evalSs]; try rfl)
    · cases h
  | m :: ms, lk, sts, h => by
    unfold chkSs at h
    split at h
    · obtain ⟨h1, h2⟩ := and2 h
      exact SSs.eq (sss_cons (soundS s hp m h1) (soundSs s hp ms h2)) (by funext G; rw [evalSs]; try rfl)
    · cases h
end
end
end QX

set_option Elab.async false
set_option linter.all false
set_option maxRecDepth 100000
set_option maxHeartbeats 4000000
/-! the whole program: every def keeps what the evaluator says -/
namespace QX
open PySem PySem.Spec L2

structure Df where
  name : Str
  qual : Str
  st : Stmt
  N : List Str
  ps : List Str
  rf : List Nat
  body : List Sm
structure Pg where
  defs : List Df
  gl : Str → Option T
  ex : Str → Bool
  fu : Nat
def Pg.find (p : Pg) (f : Str) : Option Df := p.defs.find? fun d => d.name == f
def Pg.fs (p : Pg) (f : Str) : Bool := (p.find f).isSome
def initG (d : Df) (ts : List T) : Sl := ts.map some ++ List.replicate (d.N.length - d.ps.length) none
/-- the arguments' trees behind: those handed on by name -/
def parB (rf : List Nat) : Nat → List T → Sl → Option (List T)
  | _, [], _ => some []
  | i, t :: ts, o :: G => (if rf.contains i then o else some t).bind fun u => (parB rf (i + 1) ts G).map (u :: ·)
  | _, _ :: _, [] => none
/-- what is not handed on by name is given away -/
def argOk (rf : List Nat) : Nat → List T → Bool
  | _, [] => true
  | i, t :: ts => (rf.contains i || t.isF) && argOk rf (i + 1) ts
def callB (Φ : Str → List T → FR) (gl : Str → Option T) (fu : Nat) (d : Df) (ts : List T) : FR :=
  if ts.length = d.ps.length ∧ argOk d.rf 0 ts = true then (match evalSs Φ gl fu d.body (initG d ts) with
    | .nx G => (match parB d.rf 0 ts G with
      | some us => .ret .non us
      | none => .no)
    | .ret t G => (match parB d.rf 0 ts G with
      | some us => .ret t us
      | none => .no)
    | .exc c p _ => if isFL ts then .exc c p else .no
    | _ => .no) else .no
def phi (p : Pg) : Nat → Str → List T → FR
  | 0, _, _ => .no
  | n + 1, f, ts => match p.find f with
    | some d => callB (phi p n) p.gl p.fu d ts
    | none => .no
def Df.ck (p : Pg) (d : Df) : Ck := ⟨d.N, p.fs, p.ex⟩
def scopeOk (N ps : List Str) (sc : Scope) : Bool :=
  (sc.kind == .function) && !sc.isCoroutine && !sc.isGenerator && decide N.Nodup && (N.take ps.length == ps) && (ps.all fun x => (sc.names.lookup x == some .local) || (sc.names.lookup x == some .cell)) && (sc.names.all fun y => y.2 != .free)
def Df.good (p : Pg) (d : Df) : Bool := scopeOk d.N d.ps (defScope d.st) && chkSs (d.ck p) (defScope d.st) (fun _ => true) d.rf d.body (defBody d.st)
theorem scope_ok {N ps : List Str} {sc : Scope} (h : scopeOk N ps sc = true) : FnScope N ps sc := by
  unfold scopeOk at h
  simp only [Bool.and_eq_true, decide_eq_true_eq, beq_iff_eq, Bool.not_eq_true'] at h
  obtain ⟨⟨⟨⟨⟨⟨h1, h2⟩, h3⟩, h4⟩, h5⟩, h6⟩, h7⟩ := h
  refine ⟨h1, h2, h3, h4, h5, fun x m => ?_, fun y m => ?_⟩
  · have z := List.all_eq_true.mp h6 x m
    simpa using z
  · have z := List.all_eq_true.mp h7 y m
    simpa using z

section
variable {K : PySem.W.Frag} {F H F' H' : Hp}
theorem rs_init : ∀ {vs : List V} {ts : List T} {A : List Addr} (n : Nat), RpL K F H vs ts A → RS K F H (vs.map some ++ List.replicate n none) (ts.map some ++ List.replicate n none) A
  | _, _, _, n, .nil => by
    induction n with
    | zero => exact .nil
    | succ n ih => exact .none ih
  | _, _, _, n, .cons h r => .some h (rs_init n r)
/-- the arguments behind -/
theorem parB_ok {rf : List Nat} : ∀ {i : Nat} {vs : List V} {ts us : List T} {A : List Addr} {σ : L2.St} {G : Sl} {A' : List Addr}, RpL K F H vs ts A → argOk rf i ts = true → RS K F' H' σ G A' → parB rf i ts G = some us → Same F F' → TupS K H H' →
    (∀ j v, rf.contains (i + j) = true → vs[j]? = some v → σ[j]? = some (some v)) → ∃ B, RpL K F' H' vs us B ∧ B.Sublist A'
  | i, _, _, us, _, σ, G, A', .nil, _, _, e, _, _, _ => by
    simp only [parB, Option.some.injEq] at e
    subst e
    exact ⟨[], .nil, List.nil_sublist _⟩
  | i, _, _, us, _, _, _, _, .cons (v := v) (t := t) h r, ha, .nil, e, _, _, _ => by simp [parB] at e
  | i, _, _, us, _, _, _, _, .cons (v := v) (vs := vs) (t := t) (ts := ts) (A := A1) (B := A2) h r, ha, .some (v := w) (t := u) (σ := σ) (G := G) (A := B1) (B := B2) hw rs, e, ff, ht, hl => by
    unfold parB at e
    unfold argOk at ha
    simp only [Bool.and_eq_true, Bool.or_eq_true] at ha
    obtain ⟨ha1, ha2⟩ := ha
    have hl2 : ∀ j v, rf.contains (i + 1 + j) = true → vs[j]? = some v → σ[j]? = some (some v) := fun j v' m e => hl (j + 1) v' (by rw [← Nat.add_assoc, Nat.add_right_comm]; exact m) (by simpa using e)
    by_cases hc : rf.contains i = true
    · rw [if_pos hc] at e
      simp only [Option.bind_some] at e
      cases q : parB rf (i + 1) ts G with
      | none => rw [q] at e; cases e
      | some us' =>
        rw [q] at e
        simp only [Option.map_some, Option.some.injEq] at e
        subst e
        obtain ⟨B, r2, sl⟩ := parB_ok r ha2 rs q ff ht hl2
        have hv : some w = some v := by simpa using hl 0 v hc rfl
        cases hv
        exact ⟨B1 ++ B, .cons hw r2, List.Sublist.append_left sl B1⟩
    · rw [if_neg hc] at e
      simp only [Option.bind_some] at e
      cases q : parB rf (i + 1) ts G with
      | none => rw [q] at e; cases e
      | some us' =>
        rw [q] at e
        simp only [Option.map_some, Option.some.injEq] at e
        subst e
        obtain ⟨B, r2, sl⟩ := parB_ok r ha2 rs q ff ht hl2
        have hf : t.isF = true := ha1.resolve_left hc
        have e0 := h.isF_nil hf
        subst e0
        exact ⟨B, .cons (A := []) (h.mono ff ht fun _ m => by simp at m) r2, sl.trans (List.sublist_append_right _ _)⟩
  | i, _, _, us, _, _, _, _, .cons (v := v) (vs := vs) (t := t) (ts := ts) (A := A1) (B := A2) h r, ha, .none (o := o) (σ := σ) (G := G) rs, e, ff, ht, hl => by
    unfold parB at e
    unfold argOk at ha
    simp only [Bool.and_eq_true, Bool.or_eq_true] at ha
    obtain ⟨ha1, ha2⟩ := ha
    have hl2 : ∀ j v, rf.contains (i + 1 + j) = true → vs[j]? = some v → σ[j]? = some (some v) := fun j v' m e => hl (j + 1) v' (by rw [← Nat.add_assoc, Nat.add_right_comm]; exact m) (by simpa using e)
    by_cases hc : rf.contains i = true
    · rw [if_pos hc] at e
      cases e
    · rw [if_neg hc] at e
      simp only [Option.bind_some] at e
      cases q : parB rf (i + 1) ts G with
      | none => rw [q] at e; cases e
      | some us' =>
        rw [q] at e
        simp only [Option.map_some, Option.some.injEq] at e
        subst e
        obtain ⟨B, r2, sl⟩ := parB_ok r ha2 rs q ff ht hl2
        have hf : t.isF = true := ha1.resolve_left hc
        have e0 := h.isF_nil hf
        subst e0
        exact ⟨B, .cons (A := []) (h.mono ff ht fun _ m => by simp at m) r2, sl⟩
end

/-- what the top has written: the defs, the built-in names, the constants, the exceptions -/
structure Top (p : Pg) (K : PySem.W.Frag) (mg : Str → Option Value) : Prop where
  fun_ : ∀ d ∈ p.defs, ∃ (a : Addr) (fd : FuncData), Fun K d.name d.qual d.st a fd ∧ mg d.name = some (.ref a) ∧ Binds K fd d.ps []
  blt : ∀ x ∈ bltNames, mg x = none
  glo : ∀ x t, p.gl x = some t → ∃ u v, mg x = some u ∧ RelV v u ∧ ∀ F H, Rp K F H v t []
  exc : ∀ x, p.ex x = true → ∃ (C : Addr) (B newId initId : String) (bmB : List Value), mg x = some (.ref C) ∧ PySem.W.keepIn K (.ref C) = true ∧ ExcBaseFacts B newId initId bmB ∧ PySem.W.excIn K C bmB newId = true ∧
    PySem.W.subIn K (.ref C) (.type "BaseException") = some true ∧ PySem.W.typeIn K (.ref C) = some (.type "type")

theorem spF_len {K : PySem.W.Frag} {mg : MG} {p : Pg} {n : Nat} {d : Df} (hd : p.find d.name = some d) : ∀ vs H Q E, spF K mg (phi p n d.name) vs H Q E → vs.length = d.ps.length := by
  intro vs H Q E ⟨F, ts, A, r, g, h⟩
  cases n with
  | zero => exact h.elim
  | succ n =>
    unfold phi at h
    rw [hd] at h
    simp only at h
    unfold callB at h
    by_cases hc : ts.length = d.ps.length ∧ argOk d.rf 0 ts = true
    · rw [r.len]; exact hc.1
    · rw [if_neg hc] at h; exact h.elim
theorem Pg.find_name {p : Pg} {f : Str} {d : Df} (h : p.find f = some d) : d ∈ p.defs ∧ d.name = f := by
  unfold Pg.find at h
  refine ⟨List.mem_of_find?_eq_some h, ?_⟩
  have := List.find?_some h
  simpa using this
theorem def_ok {P : Program} {w : World} {p : Pg} {K : PySem.W.Frag} {mg : MG} {base : Heap} (tp : Top p K mg) (hg : ∀ d ∈ p.defs, d.good p = true) : ∀ (n : Nat) (f : Str) (d : Df), p.find f = some d → ∀ (a : Addr) (fd : FuncData), Fun K d.name d.qual d.st a fd →
    FnOk P w K mg base (L2.CX P w) (n + 1) a fd d.ps (spF K mg (phi p n f)) := by
  intro n
  induction n with
  | zero =>
    intro f d hd a fd hF
    obtain ⟨hm, hn⟩ := Pg.find_name hd
    subst hn
    exact ⟨spF_len hd, fun A outer s H args us vs Q E _ _ _ _ ⟨F, ts, A', _, _, h⟩ => h.elim⟩
  | succ n ih =>
    intro f d hd a fd hF
    obtain ⟨hm, hn⟩ := Pg.find_name hd
    subst hn
    have hgd := hg d hm
    unfold Df.good at hgd
    obtain ⟨hsc, hck⟩ := and2 hgd
    have S := scope_ok hsc
    refine hF.okX S (spF_len hd) fun cdv A outer s H vs Q E hr hsp => ?_
    obtain ⟨F, ts, A0, r, g, h⟩ := hsp
    unfold phi at h
    rw [hd] at h
    simp only at h
    unfold callB at h
    by_cases hc : ts.length = d.ps.length ∧ argOk d.rf 0 ts = true
    case neg => rw [if_neg hc] at h; exact h.elim
    rw [if_pos hc] at h
    let X := cxOf (L2.CX P w) P w K mg base d.N d.qual (defScope d.st) a cdv A outer s H E
    let c : Cf := { toCk := d.ck p, Φ := phi p n, gl := p.gl }
    have sx : SX c X (defScope d.st) (fun _ => true) := by
      refine ⟨rfl, S.nd, rfl, rfl, rfl, tp.blt, fun f hf => ?_, tp.glo, ?_, tp.exc⟩
      · have hf : p.fs f = true := hf
        obtain ⟨d2, hd2⟩ := Option.isSome_iff_exists.mp hf
        obtain ⟨hm2, hn2⟩ := Pg.find_name hd2
        obtain ⟨a2, fd2, F2, mg2, B2⟩ := tp.fun_ d2 hm2
        rw [hn2] at mg2
        exact ⟨n + 1, a2, fd2, d2.ps, ih f d2 hd2 a2 fd2 F2, hr, mg2, F2.kp, B2⟩
      · have := hr.un
        show (A.deeper _).units + 65 < cLine
        omega
    have tk : Takes X (fun cls d _ H => E cls d H) := takes_of rfl rfl rfl rfl
    have hp : PassesOwn (model X.prog X.w) X.A X.env X.xe := passes_of rfl
    -- the slots handed on by name keep what they hold
    let L : List (Nat × V) := d.rf.filterMap fun i => (vs[i]?).map fun v => (i, v)
    have hL : ∀ q ∈ L, q.1 ∈ d.rf := fun q m => by
      obtain ⟨i, mi, e⟩ := List.mem_filterMap.mp m
      cases q' : vs[i]? with
      | none => rw [q'] at e; cases e
      | some v =>
        rw [q'] at e
        simp only [Option.map_some, Option.some.injEq] at e
        rw [← e]; exact mi
    have el : vs.length = d.ps.length := by rw [r.len]; exact hc.1
    have rs : RS K F H (L2.start d.N vs) (initG d ts) A0 := by
      unfold L2.start initG
      rw [el]
      exact rs_init _ r
    have lk0 : Lk (L2.start d.N vs) L := fun q m => by
      obtain ⟨i, mi, e⟩ := List.mem_filterMap.mp m
      cases q' : vs[i]? with
      | none => rw [q'] at e; cases e
      | some v =>
        rw [q'] at e
        simp only [Option.map_some, Option.some.injEq] at e
        rw [← e]
        unfold L2.start
        have hlt : i < vs.length := (List.getElem?_eq_some_iff.mp q').1
        rw [List.getElem?_append_left (by simpa using hlt), List.getElem?_map, q']
        rfl
    have lkU : ∀ {σ' : L2.St}, Lk σ' L → ∀ j v, d.rf.contains (0 + j) = true → vs[j]? = some v → σ'[j]? = some (some v) := fun h j v m e => by
      refine h (j, v) (List.mem_filterMap.mpr ⟨j, ?_, by rw [e]; rfl⟩)
      simpa using m
    refine ⟨_, soundSs (c := c) (fu := p.fu) sx hp d.body hck _ tk L hL, F, initG d ts, A0, rs, g, lk0, ?_⟩
    show PostS K mg _ L [] F H A0 (evalSs (phi p n) p.gl p.fu d.body (initG d ts)) _
    cases er : evalSs (phi p n) p.gl p.fu d.body (initG d ts) with
    | no => rw [er] at h; exact h.elim
    | brk G => rw [er] at h; exact h.elim
    | cnt G => rw [er] at h; exact h.elim
    | nx G =>
      rw [er] at h
      simp only at h
      intro σ' F' H' A' rs' st _ lk'
      have st : Step F H A0 F' H' A' := st
      cases ep : parB d.rf 0 ts G with
      | none => simp only [ep] at h
      | some us =>
        simp only [ep] at h
        obtain ⟨B, rB, sl⟩ := parB_ok r hc.2 rs' ep st.ff st.tupS (lkU lk')
        exact h .non F' H' B [] rB .non (st.drop (fun a m => sl.subset (by simpa using m)) (by simpa using sl.nodup st.good.nd))
    | ret t G =>
      rw [er] at h
      simp only at h
      intro v σ' F' H' A' B0 rs' rv st _ lk'
      have st : Step F H A0 F' H' (B0 ++ A') := st
      cases ep : parB d.rf 0 ts G with
      | none => simp only [ep] at h
      | some us =>
        simp only [ep] at h
        obtain ⟨B, rB, sl⟩ := parB_ok r hc.2 rs' ep st.ff st.tupS (lkU lk')
        refine h v F' H' B B0 rB rv (st.drop (fun a m => ?_) ?_)
        · exact (List.mem_append.mp m).elim (List.mem_append_left _) fun m => List.mem_append_right _ (sl.subset m)
        · obtain ⟨n1, n2, n3⟩ := List.nodup_append.mp st.good.nd
          exact List.nodup_append.mpr ⟨n1, sl.nodup n2, fun a ha b hb e => n3 a ha b (sl.subset hb) e⟩
    | exc cl pl G =>
      rw [er] at h
      simp only at h
      intro σ' F' H' A' C dd rs' st lk' hC py
      have st : Step F H A0 F' H' A' := st
      by_cases hf : isFL ts = true
      · rw [if_pos hf] at h
        have e0 := r.isF_nil hf
        subst e0
        exact h.2 F' H' C dd (st.drop (fun _ m => by simp at m) .nil) hC py
      · rw [if_neg hf] at h; exact h.elim
end QX

set_option Elab.async false
set_option linter.all false
set_option maxRecDepth 100000
set_option maxHeartbeats 4000000
/-! the end: a law holds, if the evaluator says so -/
namespace QX
open PySem PySem.Spec L2

def DfOk (K : PySem.W.Frag) (mg : MG) (d : Df) : Prop := ∃ (a : Addr) (fd : FuncData), Fun K d.name d.qual d.st a fd ∧ mg d.name = some (.ref a) ∧ ∀ us : List Value, us.length = d.ps.length → bindArgs fd ⟨us, []⟩ = pure (d.ps.zip us)
def DfsOk (K : PySem.W.Frag) (mg : MG) : List Df → Prop
  | [] => True
  | d :: ds => DfOk K mg d ∧ DfsOk K mg ds
theorem DfsOk.all {K : PySem.W.Frag} {mg : MG} : ∀ {ds : List Df}, DfsOk K mg ds → ∀ d ∈ ds, DfOk K mg d
  | _ :: _, h, d, m => (List.mem_cons.mp m).elim (fun e => e ▸ h.1) fun m => DfsOk.all h.2 d m
theorem df_mk {d : Df} {K : PySem.W.Frag} {h : Heap} {mg : MG} (X : K.In h) (G : h.Ns mainGlobals mg) {f : Addr} {oc : Value} {od an : Option Addr} {osl : Array (Option Value)} {kV doc pm cdv ct : Value}
    (ha : PySem.W.nsIn K mainGlobals d.name = some (some (.ref f)))
    (l : K.lookup f = some ⟨oc, od, .func (PySem.W.fnOf d.name d.qual (defArgs d.st) (defBody d.st) (defScope d.st) .none kV doc pm an cdv ct), osl⟩) (hc : PySem.W.codeIn K cdv d.qual = true) (k : PySem.W.keepIn K (.ref f) = true)
    (hb : ∀ (kV doc pm : Value) (an : Option Addr) (cdv ct : Value) (us : List Value), us.length = d.ps.length → bindArgs (PySem.W.fnOf d.name d.qual (defArgs d.st) (defBody d.st) (defScope d.st) .none kV doc pm an cdv ct) ⟨us, []⟩ = pure (d.ps.zip us)) : DfOk K mg d := by
  have F := fun_mk (st := d.st) l hc k
  exact ⟨f, _, F, PySem.W.mg_of X G ha, hb kV doc pm an cdv ct⟩
/-- the built-in names are no module's -/
def NonesIn (K : PySem.W.Frag) : List Str → Prop
  | [] => True
  | x :: xs => PySem.W.nsIn K mainGlobals x = some none ∧ NonesIn K xs
theorem NonesIn.all {K : PySem.W.Frag} {h : Heap} {mg : MG} (X : K.In h) (G : h.Ns mainGlobals mg) : ∀ {xs : List Str}, NonesIn K xs → ∀ x ∈ xs, mg x = none
  | _ :: _, z, x, m => (List.mem_cons.mp m).elim (fun e => by rw [e]; exact PySem.W.mg_none_of X G z.1) fun m => NonesIn.all X G z.2 x m
/-- constants: ints, texts -/
def cstV : T → Option V
  | .int i => some (.int i)
  | .str x => some (.str x)
  | _ => none
def GlosOk (mg : MG) : List (Str × T) → Prop
  | [] => True
  | (x, t) :: r => (∃ u v, mg x = some u ∧ cstV t = some v ∧ RelV v u) ∧ GlosOk mg r
def gloT (gs : List (Str × T)) (x : Str) : Option T := gs.lookup x
theorem GlosOk.all {K : PySem.W.Frag} {mg : MG} : ∀ {gs : List (Str × T)}, GlosOk mg gs → ∀ x t, gloT gs x = some t → ∃ u v, mg x = some u ∧ RelV v u ∧ ∀ F H, Rp K F H v t []
  | [], _, x, t, h => by cases h
  | (y, s) :: r, z, x, t, h => by
    unfold gloT at h
    rw [List.lookup_cons] at h
    split at h
    · rename_i e
      cases h
      obtain ⟨u, v, h1, h2, h3⟩ := z.1
      have e' : x = y := by simpa using e
      subst e'
      refine ⟨u, v, h1, h3, fun F H => ?_⟩
      cases s with
      | int i => cases h2; exact .int i
      | str s => cases h2; exact .str s
      | _ => cases h2
    · exact GlosOk.all z.2 x t h
theorem glo_int {mg : MG} {K : PySem.W.Frag} {h : Heap} (X : K.In h) (G : h.Ns mainGlobals mg) {x : Str} {i : Int} {tk : Nat} (ha : PySem.W.nsIn K mainGlobals x = some (some (.int i tk))) : ∃ u v, mg x = some u ∧ cstV (.int i) = some v ∧ RelV v u :=
  ⟨_, _, PySem.W.mg_of X G ha, rfl, tk, rfl⟩
theorem glo_str {mg : MG} {K : PySem.W.Frag} {h : Heap} (X : K.In h) (G : h.Ns mainGlobals mg) {x s : Str} {tk : Nat} (ha : PySem.W.nsIn K mainGlobals x = some (some (.str s tk))) : ∃ u v, mg x = some u ∧ cstV (.str s) = some v ∧ RelV v u :=
  ⟨_, _, PySem.W.mg_of X G ha, rfl, tk, rfl⟩
def ExOk (K : PySem.W.Frag) (mg : MG) (x : Str) : Prop := ∃ (C : Addr) (B newId initId : String) (bmB : List Value), mg x = some (.ref C) ∧ PySem.W.keepIn K (.ref C) = true ∧ ExcBaseFacts B newId initId bmB ∧ PySem.W.excIn K C bmB newId = true ∧
    PySem.W.subIn K (.ref C) (.type "BaseException") = some true ∧ PySem.W.typeIn K (.ref C) = some (.type "type")
def ExsOk (K : PySem.W.Frag) (mg : MG) : List Str → Prop
  | [] => True
  | x :: xs => ExOk K mg x ∧ ExsOk K mg xs
theorem ExsOk.all {K : PySem.W.Frag} {mg : MG} : ∀ {xs : List Str}, ExsOk K mg xs → ∀ x, xs.contains x = true → ExOk K mg x
  | [], _, x, m => by simp at m
  | y :: ys, h, x, m => by
    simp only [List.contains_cons, Bool.or_eq_true, beq_iff_eq] at m
    rcases m with m | m
    · rw [m]; exact h.1
    · exact ExsOk.all h.2 x m

/-- a law's program: its defs, constants, exceptions -/
structure Lw where
  defs : List Df
  glos : List (Str × T)
  exs : List Str
def Lw.pg (l : Lw) (fu : Nat) : Pg := ⟨l.defs, gloT l.glos, fun x => l.exs.contains x, fu⟩
theorem top_mk {l : Lw} {fu : Nat} {K : PySem.W.Frag} {h : Heap} {mg : MG} (X : K.In h) (G : h.Ns mainGlobals mg) (h1 : DfsOk K mg l.defs) (h2 : NonesIn K bltNames) (h3 : GlosOk mg l.glos) (h4 : ExsOk K mg l.exs) : Top (l.pg fu) K mg :=
  ⟨fun d m => let ⟨a, fd, F, g, b⟩ := h1.all d m; ⟨a, fd, F, g, .all b⟩, h2.all X G, h3.all, h4.all⟩
def spLaw (K : PySem.W.Frag) (m : Nat) : Sp := fun vs H Q _ => ∃ (a : Addr) (ns : List Int), vs = [.ref a] ∧ SqL K H a (ns.map V.int) ∧ ns.length ≤ m ∧ ∀ H', Q (.bl true) H'
theorem rp_ints {K : PySem.W.Frag} {F H : Hp} : ∀ ns : List Int, RpL K F H (ns.map V.int) (ns.map T.int) []
  | [] => .nil
  | n :: ns => .cons (A := []) (B := []) (.int n) (rp_ints ns)
theorem law_imp {K : PySem.W.Frag} {mg : MG} {m : Nat} {ph : List T → FR} (hl : ∀ ns : List Int, ns.length ≤ m → ∃ us, ph [.lst false (ns.map T.int)] = .ret (.bl true) us) : ∀ vs H Q E, spLaw K m vs H Q E → spF K mg ph vs H Q E := by
  intro vs H Q E ⟨a, ns, e, hS, hn, q⟩
  subst e
  refine ⟨H, [.lst false (ns.map T.int)], [], .cons (A := []) (B := []) (.lstF hS (rp_ints ns)) .nil, ⟨Same.refl _, .nil, fun _ m => by simp at m⟩, ?_⟩
  obtain ⟨us, eu⟩ := hl ns hn
  rw [eu]
  intro v F' H' A' B _ rv _
  cases rv
  exact q H'
theorem law_ok {l : Lw} {fu n m : Nat} {P : Program} {w : World} {K : PySem.W.Frag} {h : Heap} {mg : MG} {d : Df} {f : Str} {fa : Addr} (X : K.In h) (G : h.Ns mainGlobals mg) (hfa : mg f = some (.ref fa)) (h1 : DfsOk K mg l.defs) (h2 : NonesIn K bltNames) (h3 : GlosOk mg l.glos) (h4 : ExsOk K mg l.exs)
    (hg : ∀ d ∈ l.defs, d.good (l.pg fu) = true) (hd : (l.pg fu).find f = some d) {x : Str} (hx : d.ps = [x]) (hl : ∀ ns : List Int, ns.length ≤ m → ∃ us, phi (l.pg fu) n f [.lst false (ns.map T.int)] = .ret (.bl true) us) :
    ∃ fd : FuncData, (∀ (s : Shared) (v : Value), BindsTo s fd ⟨[v], []⟩ [(x, v)]) ∧ ∀ base : Heap, K.In base → base.Ns mainGlobals mg → FnOk P w K mg base (L2.CX P w) (n + 1) fa fd [x] (spLaw K m) := by
  have tp := top_mk (fu := fu) X G h1 h2 h3 h4
  obtain ⟨hm, hn⟩ := Pg.find_name hd
  obtain ⟨a, fd, F, mga, B⟩ := h1.all d hm
  rw [hn, hfa] at mga
  cases mga
  refine ⟨fd, fun s v => .of_eq ?_, fun base _ _ => ?_⟩
  · have := B [v] (by rw [hx]; rfl)
    rw [hx] at this
    exact this
  · have z := def_ok (base := base) (P := P) (w := w) tp hg n f d hd fa fd F
    rw [hx] at z
    exact z.imp (law_imp hl)
theorem noCX {P : Program} {w : World} {H : Hp} {s : Shared} {e : Value} {s' : Shared} (h : L2.CX P w [] H s (fun _ _ _ => False) e s') : False := by
  obtain ⟨_, _, _, _, _, _, _, _, _, _, _, _, z⟩ := h
  exact z
end QX

set_option Elab.async false
set_option linter.all false
set_option maxRecDepth 100000
/-! plain law: the evaluator, step by step -/
namespace QX
open PySem

theorem phi_def {p : Pg} {f : Str} {d : Df} (h : p.find f = some d) (n : Nat) (ts : List T) : phi p (n + 1) f ts = callB (phi p n) p.gl p.fu d ts := by
  unfold phi; rw [h]
theorem callB_ret {Φ : Str → List T → FR} {gl : Str → Option T} {fu : Nat} {d : Df} {ts us : List T} {t : T} {G : Sl} (h1 : ts.length = d.ps.length) (h2 : argOk d.rf 0 ts = true) (h3 : evalSs Φ gl fu d.body (initG d ts) = .ret t G) (h4 : parB d.rf 0 ts G = some us) : callB Φ gl fu d ts = .ret t us := by
  unfold callB
  rw [if_pos ⟨h1, h2⟩, h3]
  simp only [h4]
theorem callB_nx {Φ : Str → List T → FR} {gl : Str → Option T} {fu : Nat} {d : Df} {ts us : List T} {G : Sl} (h1 : ts.length = d.ps.length) (h2 : argOk d.rf 0 ts = true) (h3 : evalSs Φ gl fu d.body (initG d ts) = .nx G) (h4 : parB d.rf 0 ts G = some us) : callB Φ gl fu d ts = .ret .non us := by
  unfold callB
  rw [if_pos ⟨h1, h2⟩, h3]
  simp only [h4]
section
variable {α β : Type} (a : α) (G : Sl) (k : α → Sl → R β) (ks : α → Sl → SR) (kk : Sl → SR)
@[simp] theorem bd_ok' : (R.ok a G).bd k = k a G := rfl
@[simp] theorem bd_no' : (R.no : R α).bd k = .no := rfl
@[simp] theorem bs_ok' : (R.ok a G).bs ks = ks a G := rfl
@[simp] theorem bs_no' : (R.no : R α).bs ks = .no := rfl
@[simp] theorem sbd_nx : (SR.nx G).bd kk = kk G := rfl
@[simp] theorem sbd_ret (t : T) : (SR.ret t G).bd kk = .ret t G := rfl
@[simp] theorem sbd_brk : (SR.brk G).bd kk = .brk G := rfl
@[simp] theorem sbd_cnt : (SR.cnt G).bd kk = .cnt G := rfl
@[simp] theorem sbd_no : (SR.no).bd kk = .no := rfl
@[simp] theorem of_some' : R.of G (some a) = .ok a G := rfl
@[simp] theorem of_none' : R.of G (none : Option α) = .no := rfl
theorem bd_ite (c : Prop) [Decidable c] (x y : R α) : (if c then x else y).bd k = if c then x.bd k else y.bd k := by split <;> rfl
theorem bs_ite (c : Prop) [Decidable c] (x y : R α) : (if c then x else y).bs ks = if c then x.bs ks else y.bs ks := by split <;> rfl
theorem sbd_ite (c : Prop) [Decidable c] (x y : SR) : (if c then x else y).bd kk = if c then x.bd kk else y.bd kk := by split <;> rfl
end
section
variable (t : T) (ts us : List T) (i j : Int) (x y : Str) (b b' o o' : Bool)
@[simp] theorem tr_own : (Ev.own t).tr = some t := rfl
@[simp] theorem tr_vw : (Ev.vw t).tr = some t := rfl
@[simp] theorem fm_own : (Ev.own t).fm = some t := rfl
theorem fm_vw : (Ev.vw t).fm = if t.isF then some t else none := rfl
@[simp] theorem firm_own : (Ev.own t).firm = true := rfl
@[simp] theorem firm_vw : (Ev.vw t).firm = false := rfl
@[simp] theorem firm_rf (n : Nat) : (Ev.rf n).firm = true := rfl
@[simp] theorem isRf_own : (Ev.own t).isRf = false := rfl
@[simp] theorem isRf_vw : (Ev.vw t).isRf = false := rfl
@[simp] theorem isRf_rf (n : Nat) : (Ev.rf n).isRf = true := rfl
@[simp] theorem truth_bl : (Ev.own (.bl b)).truth = some b := rfl
@[simp] theorem truth_int : (Ev.own (.int i)).truth = some (i != 0) := rfl
@[simp] theorem isF_int : (T.int i).isF = true := rfl
@[simp] theorem isF_str : (T.str x).isF = true := rfl
@[simp] theorem isF_bl : (T.bl b).isF = true := rfl
@[simp] theorem isF_non : T.non.isF = true := rfl
@[simp] theorem isF_tup : (T.tup ts).isF = isFL ts := rfl
@[simp] theorem isF_lstT : (T.lst true ts).isF = false := rfl
@[simp] theorem isF_lstF : (T.lst false ts).isF = isFL ts := rfl
@[simp] theorem isFL_nil : isFL [] = true := rfl
@[simp] theorem isFL_cons : isFL (t :: ts) = (t.isF && isFL ts) := rfl
@[simp] theorem isFL_app : isFL (ts ++ us) = (isFL ts && isFL us) := by
  rw [isFL_all, isFL_all, isFL_all, List.all_append]
theorem isFL_map {α : Type} {f : α → T} {l : List α} (h : ∀ a ∈ l, (f a).isF = true) : isFL (l.map f) = true := by
  rw [isFL_all, List.all_eq_true]
  intro t m
  obtain ⟨a, ha, rfl⟩ := List.mem_map.mp m
  exact h a ha
@[simp] theorem isFL_ints (l : List Int) : isFL (l.map T.int) = true := isFL_map fun _ _ => rfl
@[simp] theorem fz_int : (T.int i).fz = .int i := rfl
@[simp] theorem fz_str : (T.str x).fz = .str x := rfl
@[simp] theorem fz_bl : (T.bl b).fz = .bl b := rfl
@[simp] theorem fz_non : T.non.fz = .non := rfl
@[simp] theorem fz_tup : (T.tup ts).fz = .tup (fzL ts) := rfl
@[simp] theorem fz_lst : (T.lst o ts).fz = .lst false (fzL ts) := rfl
@[simp] theorem fzL_nil : fzL [] = [] := rfl
@[simp] theorem fzL_cons : fzL (t :: ts) = t.fz :: fzL ts := rfl
@[simp] theorem cmp_lt : cmpop .lt (.own (.int i)) (.own (.int j)) = some (decide (i < j)) := rfl
@[simp] theorem cmp_le : cmpop .le (.own (.int i)) (.own (.int j)) = some (decide (i ≤ j)) := rfl
@[simp] theorem cmp_gt : cmpop .gt (.own (.int i)) (.own (.int j)) = some (decide (j < i)) := rfl
@[simp] theorem cmp_ge : cmpop .ge (.own (.int i)) (.own (.int j)) = some (decide (j ≤ i)) := rfl
@[simp] theorem cmp_eq_oo (u : T) : cmpop .eq (.own t) (.own u) = eqTT t u := rfl
@[simp] theorem cmp_eq_ov (u : T) : cmpop .eq (.own t) (.vw u) = eqTT t u := rfl
@[simp] theorem cmp_eq_vo (u : T) : cmpop .eq (.vw t) (.own u) = eqTT t u := rfl
@[simp] theorem cmp_eq_vv (u : T) : cmpop .eq (.vw t) (.vw u) = eqTT t u := rfl
@[simp] theorem cmp_ne_oo (u : T) : cmpop .ne (.own t) (.own u) = (eqTT t u).map (!·) := rfl
@[simp] theorem cmp_ne_ov (u : T) : cmpop .ne (.own t) (.vw u) = (eqTT t u).map (!·) := rfl
@[simp] theorem cmp_ne_vo (u : T) : cmpop .ne (.vw t) (.own u) = (eqTT t u).map (!·) := rfl
@[simp] theorem cmp_ne_vv (u : T) : cmpop .ne (.vw t) (.vw u) = (eqTT t u).map (!·) := rfl
@[simp] theorem cmp_in_oo (u : T) : cmpop .inn (.own t) (.own u) = inOp t u := rfl
@[simp] theorem cmp_in_ov (u : T) : cmpop .inn (.own t) (.vw u) = inOp t u := rfl
@[simp] theorem cmp_in_vo (u : T) : cmpop .inn (.vw t) (.own u) = inOp t u := rfl
@[simp] theorem cmp_in_vv (u : T) : cmpop .inn (.vw t) (.vw u) = inOp t u := rfl
@[simp] theorem cmp_nin_oo (u : T) : cmpop .nin (.own t) (.own u) = (inOp t u).map (!·) := rfl
@[simp] theorem cmp_nin_ov (u : T) : cmpop .nin (.own t) (.vw u) = (inOp t u).map (!·) := rfl
@[simp] theorem cmp_nin_vo (u : T) : cmpop .nin (.vw t) (.own u) = (inOp t u).map (!·) := rfl
@[simp] theorem cmp_nin_vv (u : T) : cmpop .nin (.vw t) (.vw u) = (inOp t u).map (!·) := rfl
@[simp] theorem bin_add : binop .add (.own (.int i)) (.own (.int j)) = some (.own (.int (i + j))) := rfl
@[simp] theorem bin_sub : binop .sub (.own (.int i)) (.own (.int j)) = some (.own (.int (i - j))) := rfl
theorem bin_mul (h : logsum i j = true) : binop .mul (.own (.int i)) (.own (.int j)) = some (.own (.int (i * j))) := by
  show (if logsum i j then _ else _) = _
  rw [if_pos h]
theorem bin_div (h : 0 < j) (h2 : j.natAbs.log2 < 9000) : binop .fdiv (.own (.int i)) (.own (.int j)) = some (.own (.int (i / j))) := by
  show (if decide (0 < j) && decide (j.natAbs.log2 < 9000) then _ else _) = _
  rw [if_pos (by simp [h, h2])]
theorem bin_mod (h : 0 < j) : binop .mod (.own (.int i)) (.own (.int j)) = some (.own (.int (i % j))) := by
  show (if 0 < j then _ else _) = _
  rw [if_pos h]
theorem bin_pow (h : 0 ≤ j) (h2 : (i.natAbs.log2 + 1) * j.toNat ≤ 2 ^ 27) : binop .pow (.own (.int i)) (.own (.int j)) = some (.own (.int (i ^ j.toNat))) := by
  show (if decide (0 ≤ j) && decide ((i.natAbs.log2 + 1) * j.toNat ≤ 2 ^ 27) then _ else _) = _
  rw [if_pos (by simp [h, h2])]
@[simp] theorem ix_lst : ixop (.own (.lst o ts)) (.own (.int j)) = (L2.atI ts j).map .own := rfl
@[simp] theorem ix_tup : ixop (.own (.tup ts)) (.own (.int j)) = (L2.atI ts j).map .own := rfl
@[simp] theorem ix_lstV : ixop (.vw (.lst o ts)) (.own (.int j)) = (L2.atI ts j).map fun t => if t.isF then .own t else .vw t := rfl
@[simp] theorem ix_tupV : ixop (.vw (.tup ts)) (.own (.int j)) = (L2.atI ts j).map fun t => if t.isF then .own t else .vw t := rfl
@[simp] theorem len_lstO : bfnop .len [.own (.lst o ts)] = some (.own (.int (ts.length : Nat))) := rfl
@[simp] theorem len_lstV : bfnop .len [.vw (.lst o ts)] = some (.own (.int (ts.length : Nat))) := rfl
@[simp] theorem len_tupO : bfnop .len [.own (.tup ts)] = some (.own (.int (ts.length : Nat))) := rfl
@[simp] theorem len_tupV : bfnop .len [.vw (.tup ts)] = some (.own (.int (ts.length : Nat))) := rfl
@[simp] theorem isi_int_int : isiop (.own (.int i)) ["int"] = some true := rfl
@[simp] theorem isi_int_bool : isiop (.own (.int i)) ["bool"] = some false := rfl
@[simp] theorem isi_bl_int : isiop (.own (.bl b)) ["int"] = some true := rfl
@[simp] theorem isi_bl_bool : isiop (.own (.bl b)) ["bool"] = some true := rfl
@[simp] theorem isi_tup_tup : isiop (.own (.tup ts)) ["tuple"] = some true := rfl
@[simp] theorem isi_str_str : isiop (.own (.str x)) ["str"] = some true := rfl
@[simp] theorem isi_int_str : isiop (.own (.int i)) ["str"] = some false := rfl
@[simp] theorem isi_lst_lst : isiop (.own (.lst o ts)) ["list"] = some true := rfl
@[simp] theorem isi_vlst_lst : isiop (.vw (.lst o ts)) ["list"] = some true := rfl
@[simp] theorem atI_zero (l : List T) : L2.atI (t :: l) 0 = some t := by
  unfold L2.atI L2.ixN
  simp
theorem atI_nat (l : List T) (n : Nat) (h : n < l.length) : L2.atI l (n : Int) = l[n]? := by
  unfold L2.atI L2.ixN
  simp [h]
@[simp] theorem atI_one (u : T) (l : List T) : L2.atI (t :: u :: l) 1 = some u := by
  have := atI_nat (t :: u :: l) 1 (by simp)
  simpa using this
@[simp] theorem atI_two (u v : T) (l : List T) : L2.atI (t :: u :: v :: l) 2 = some v := by
  have := atI_nat (t :: u :: v :: l) 2 (by simp)
  simpa using this
@[simp] theorem max_int : bfnop .max [.own (.int i), .own (.int j)] = some (.own (.int (if j > i then j else i))) := rfl
@[simp] theorem min_int : bfnop .min [.own (.int i), .own (.int j)] = some (.own (.int (if j < i then j else i))) := rfl
@[simp] theorem abs_int : bfnop .abs [.own (.int i)] = some (.own (.int (if i < 0 then -i else i))) := rfl
@[simp] theorem slotT_zero (o : Option T) (G : Sl) : slotT (o :: G) 0 = o := by cases o <;> rfl
@[simp] theorem slotT_succ (o : Option T) (G : Sl) (n : Nat) : slotT (o :: G) (n + 1) = slotT G n := rfl
end

/-! ### equality of data -/
mutual
/-- data of at most that depth -/
def shT : Nat → T → Bool
  | _, .non => true
  | _, .bl _ => true
  | _, .int _ => true
  | _, .str x => PyData.strOk x
  | n, .tup ts => decide (0 < n) && shL (n - 1) ts
  | n, .lst _ ts => decide (0 < n) && shL (n - 1) ts
  | _, _ => false
def shL : Nat → List T → Bool
  | _, [] => true
  | n, t :: ts => shT n t && shL n ts
end
mutual
def T.pd : T → PyData
  | .bl b => .bool b
  | .int i => .int i
  | .str x => .str x
  | .tup ts => .tuple (pdL ts)
  | .lst _ ts => .list (pdL ts)
  | _ => .none
def pdL : List T → List PyData
  | [] => []
  | t :: ts => T.pd t :: pdL ts
end
theorem shL_all (n : Nat) : ∀ ts : List T, shL n ts = ts.all (shT n)
  | [] => by rw [shL]; rfl
  | t :: ts => by rw [shL, shL_all n ts]; rfl
mutual
theorem sh_py : ∀ {t : T} {n : Nat}, shT n t = true → t.py = some t.pd ∧ t.pd.canLay0 = true ∧ t.pd.depth ≤ n
  | .non, n, _ => ⟨rfl, rfl, Nat.zero_le _⟩
  | .bl _, n, _ => ⟨rfl, rfl, Nat.zero_le _⟩
  | .int _, n, _ => ⟨rfl, rfl, Nat.zero_le _⟩
  | .str x, n, h => ⟨rfl, by simpa [shT, T.pd, PyData.canLay0] using h, Nat.zero_le _⟩
  | .tup ts, n, h => by
    simp only [shT, Bool.and_eq_true, decide_eq_true_eq] at h
    obtain ⟨h1, h2, h3⟩ := sh_pyL (ts := ts) h.2
    refine ⟨by rw [T.py, h1]; rfl, by simpa [T.pd, PyData.canLay0] using h2, ?_⟩
    rw [T.pd, PyData.depth]; omega
  | .lst o ts, n, h => by
    simp only [shT, Bool.and_eq_true, decide_eq_true_eq] at h
    obtain ⟨h1, h2, h3⟩ := sh_pyL (ts := ts) h.2
    refine ⟨by rw [T.py, h1]; rfl, by simpa [T.pd, PyData.canLay0] using h2, ?_⟩
    rw [T.pd, PyData.depth]; omega
  | .dK _ _ _, n, h => by simp [shT] at h
  | .dT _ _ _, n, h => by simp [shT] at h
  | .opq _, n, h => by simp [shT] at h
theorem sh_pyL : ∀ {ts : List T} {n : Nat}, shL n ts = true → pyL ts = some (pdL ts) ∧ PyData.canLayAll0 (pdL ts) = true ∧ PyData.depthAll (pdL ts) ≤ n
  | [], n, _ => ⟨rfl, rfl, Nat.zero_le _⟩
  | t :: ts, n, h => by
    simp only [shL, Bool.and_eq_true] at h
    obtain ⟨h1, h2, h3⟩ := sh_py (t := t) h.1
    obtain ⟨k1, k2, k3⟩ := sh_pyL (ts := ts) h.2
    refine ⟨by rw [pyL, h1, k1]; rfl, by simp [pdL, PyData.canLayAll0, h2, k2], ?_⟩
    rw [pdL, PyData.depthAll]; omega
end
theorem sh_shaped {t : T} {n : Nat} (h : shT n t = true) (hn : n ≤ 64) : SeqAt.shaped t.pd = true := by
  obtain ⟨_, h2, h3⟩ := sh_py h
  unfold SeqAt.shaped
  simp [h2, Nat.le_trans h3 hn]
/-- two data compared -/
theorem eq_val {a b : T} (h1 : shT 60 a = true) (h2 : shT 60 b = true) : eqTT a b = some (PyData.eqv a.pd b.pd) := by
  unfold eqTT
  rw [(sh_py h1).1, (sh_py h2).1]
  simp only
  rw [sh_shaped h1 (by decide), sh_shaped h2 (by decide)]
  rfl
theorem eq_same {a b : T} (h1 : shT 60 a = true) (h2 : shT 60 b = true) (e : a.pd = b.pd) : eqTT a b = some true := by
  rw [eq_val h1 h2, e, SeqAt.eqv_refl _ (sh_py h2).2.1]
@[simp] theorem eq_int (i j : Int) : eqTT (.int i) (.int j) = some (decide (i = j)) := by rw [eq_val rfl rfl]; rfl
theorem eq_str {x y : Str} (hx : PyData.strOk x = true) (hy : PyData.strOk y = true) : eqTT (.str x) (.str y) = some (decide (x = y)) := by
  rw [eq_val (by simpa [shT] using hx) (by simpa [shT] using hy)]; rfl
mutual
theorem pd_fz : ∀ t : T, t.fz.pd = t.pd
  | .non => rfl
  | .bl _ => rfl
  | .int _ => rfl
  | .str _ => rfl
  | .opq _ => rfl
  | .tup ts => by rw [T.fz, T.pd, T.pd, pd_fzL ts]
  | .lst _ ts => by rw [T.fz, T.pd, T.pd, pd_fzL ts]
  | .dK _ _ _ => rfl
  | .dT _ _ _ => rfl
theorem pd_fzL : ∀ ts : List T, pdL (fzL ts) = pdL ts
  | [] => rfl
  | t :: ts => by rw [fzL, pdL, pdL, pd_fz t, pd_fzL ts]
end
mutual
theorem sh_fz : ∀ (t : T) (n : Nat), shT n t.fz = shT n t
  | .non, _ => rfl
  | .bl _, _ => rfl
  | .int _, _ => rfl
  | .str _, _ => rfl
  | .opq _, _ => rfl
  | .tup ts, n => by rw [T.fz, shT, shT, sh_fzL ts]
  | .lst _ ts, n => by rw [T.fz, shT, shT, sh_fzL ts]
  | .dK _ _ _, _ => rfl
  | .dT _ _ _, _ => rfl
theorem sh_fzL : ∀ (ts : List T) (n : Nat), shL n (fzL ts) = shL n ts
  | [], _ => rfl
  | t :: ts, n => by rw [fzL, shL, shL, sh_fz t, sh_fzL ts]
end
theorem log_lt {x : Int} {n : Nat} (hn : 0 < n) (h : x.natAbs < 2 ^ n) : x.natAbs.log2 < n := by
  by_cases h0 : x.natAbs = 0
  · rw [h0]; simpa using hn
  · exact (Nat.log2_lt h0).mpr h
theorem mul_ok {i j : Int} (h1 : i.natAbs < 2 ^ 255) (h2 : j.natAbs < 2 ^ 255) : binop .mul (.own (.int i)) (.own (.int j)) = some (.own (.int (i * j))) := by
  refine bin_mul _ _ ?_
  have := log_lt (by decide) h1
  have := log_lt (by decide) h2
  unfold logsum
  exact decide_eq_true (by omega)
theorem pow_ok {i : Int} {j : Nat} (h1 : i.natAbs < 2 ^ 255) (hj : j < 100) : binop .pow (.own (.int i)) (.own (.int (j : Int))) = some (.own (.int (i ^ j))) := by
  have := log_lt (by decide) h1
  have e : ((j : Int)).toNat = j := by omega
  rw [bin_pow _ _ (by omega) (by
    rw [e]
    calc (i.natAbs.log2 + 1) * j ≤ 256 * 100 := Nat.mul_le_mul (by omega) (by omega)
      _ ≤ 2 ^ 27 := by decide), e]
theorem div_ok {i j : Int} (h : 0 < j) (h2 : j.natAbs < 2 ^ 255) : binop .fdiv (.own (.int i)) (.own (.int j)) = some (.own (.int (i / j))) :=
  bin_div _ _ h (Nat.lt_trans (log_lt (by decide) h2) (by decide))
theorem small {x : Int} {n : Nat} {N : Nat} (h : x.natAbs < 2 ^ n) (hn : n ≤ N) : x.natAbs < 2 ^ N := Nat.lt_of_lt_of_le h (Nat.pow_le_pow_right (by decide) hn)
/-- a bag of numbers to be drawn -/
def Bag (N : Nat) (t : T) : Prop := ∃ a b c : Int, t = .lst true [.int a, .int b, .int c] ∧ 0 ≤ b ∧ b < 2 ^ 200 ∧ 0 ≤ c ∧ c ≤ N
@[simp] theorem ixN_0 (n : Nat) : L2.ixN (n + 1) 0 = some 0 := by unfold L2.ixN; simp
@[simp] theorem ixN_2 : L2.ixN 3 2 = some 2 := by decide
@[simp] theorem ixN_1 : L2.ixN 3 1 = some 1 := by decide
@[simp] theorem ixN_30 : L2.ixN 3 0 = some 0 := by decide

/-! ### blocks and loops -/
section
variable {Φ : Str → List T → FR} {gl : Str → Option T} {fu : Nat}
theorem seq_nx {s : Sm} {ss : List Sm} {G G1 : Sl} {r : SR} (h : evalS Φ gl fu s G = .nx G1) (h2 : evalSs Φ gl fu ss G1 = r) : evalSs Φ gl fu (s :: ss) G = r := by
  simp only [evalSs, h, sbd_nx]; exact h2
theorem seq_end {s : Sm} {ss : List Sm} {G : Sl} {r : SR} (h : evalS Φ gl fu s G = r) (hr : ∀ k, r.bd k = r) : evalSs Φ gl fu (s :: ss) G = r := by
  simp only [evalSs, h]; exact hr _
theorem seq_ret {s : Sm} {ss : List Sm} {G G1 : Sl} {t : T} (h : evalS Φ gl fu s G = .ret t G1) : evalSs Φ gl fu (s :: ss) G = .ret t G1 := seq_end h fun _ => rfl
/-- a turn of a for -/
def turnS (Φ : Str → List T → FR) (gl : Str → Option T) (fu : Nat) (tg : Tg) (body : List Sm) (t : T) (G : Sl) : SR := match bindT tg t G with
  | some G2 => evalSs Φ gl fu body G2
  | none => .no
theorem turn_nm {i : Nat} {body : List Sm} {t : T} {G : Sl} (h : i < G.length) : turnS Φ gl fu (.nm i) body t G = evalSs Φ gl fu body (G.set i (some t)) := by
  unfold turnS bindT
  rw [if_pos h]
theorem evalL_one {e : Ex} {G G1 : Sl} {v : Ev} (h : evalE Φ gl e G = .ok v G1) (hr : v.isRf = false) : evalL Φ gl [e] G = .ok [v] G1 := by
  simp [evalL, h, quietL, hr]
theorem frr_of {tg : Tg} {k : Ik} {its : List Ex} {body : List Sm} {G G1 : Sl} {vs : List Ev} {ts : List T} (h : evalL Φ gl its G = .ok vs G1) (hi : iterOf k vs = some (ts, true)) : evalS Φ gl fu (.frr tg k its body) G = loopS (turnS Φ gl fu tg body) ts G1 := by
  simp only [evalS, h, bs_ok', hi, if_true]
  rfl
theorem frr_lst {tg : Tg} {i : Nat} {body : List Sm} {G : Sl} {ts : List T} (h : slotT G i = some (.lst false ts)) (hf : isFL ts = true) : evalS Φ gl fu (.frr tg .val [.var i] body) G = loopS (turnS Φ gl fu tg body) ts G := by
  have h1 : evalE Φ gl (.var i) G = .ok (.own (.lst false ts)) G := by simp [evalE, h, hf]
  refine frr_of (evalL_one h1 rfl) ?_
  show some (fzL ts, true) = _
  rw [fzL_isF ts hf]
theorem rng_ok {n : Int} (h0 : 0 ≤ n) (h : n < 2 ^ 62) : iterOf .rng [.own (.int n)] = some ((List.range n.toNat).map fun (i : Nat) => .int (i : Int), true) := by
  show (rngOf [.own (.int n)]).map (·, true) = _
  unfold rngOf
  simp only [List.map_cons, List.map_nil, tr_own]
  rw [if_pos (by simp; omega)]
  rfl
theorem frr_rng {tg : Tg} {e : Ex} {body : List Sm} {G : Sl} {n : Nat} (h : evalE Φ gl e G = .ok (.own (.int n)) G) (hn : n < 2 ^ 62) : evalS Φ gl fu (.frr tg .rng [e] body) G = loopS (turnS Φ gl fu tg body) ((List.range n).map fun (i : Nat) => .int (i : Int)) G := by
  refine frr_of (evalL_one h rfl) ?_
  rw [rng_ok (by omega) (by omega)]
  simp
theorem loopS_inv {k : T → Sl → SR} {α : Type} {f : α → T} (I : List α → Sl → Prop) (step : ∀ a l G, I (a :: l) G → ∃ G', (k (f a) G = .nx G' ∨ k (f a) G = .cnt G') ∧ I l G') : ∀ l G, I l G → ∃ G', loopS k (l.map f) G = .nx G' ∧ I [] G'
  | [], G, h => ⟨G, rfl, h⟩
  | a :: l, G, h => by
    obtain ⟨G1, h1, h2⟩ := step a l G h
    obtain ⟨G2, h3, h4⟩ := loopS_inv I step l G1 h2
    refine ⟨G2, ?_, h4⟩
    rw [List.map_cons, loopS]
    rcases h1 with h1 | h1 <;> (rw [h1]; exact h3)
end
@[simp] theorem mutop_app (ts : List T) (t : T) : mutop .append ts [.own t] = if ts.length < sizeLine then some (.non, ts ++ [t.fz]) else none := rfl
@[simp] theorem atI_lastT (ts : List T) (t : T) : L2.atI (ts ++ [t]) (-1) = some t := L2.atI_last _ _
@[simp] theorem mutop_pop (ts : List T) (t : T) : mutop .pop (ts ++ [t]) [] = some (t, ts) := by
  show (match (ts ++ [t]).getLast? with
    | some t' => some (t', (ts ++ [t]).dropLast)
    | none => none) = _
  simp
section
variable {Φ : Str → List T → FR} {gl : Str → Option T} {fu : Nat}
theorem lc_of {elt : Ex} {tg : Tg} {k : Ik} {its ifs : List Ex} {own : List Nat} {G G1 G2 : Sl} {vs : List Ev} {ts us : List T} (h : evalL Φ gl its G = .ok vs G1) (hi : iterOf k vs = some (ts, true)) (hf : freeS G1 own = true)
    (hl : loopC (turnC tg (evalAll Φ gl ifs) (evalE Φ gl elt) own) ts (outS G1 own) = .ok us G2) (hz : us.length ≤ sizeLine) : evalE Φ gl (.lc elt tg k its ifs own) G = .ok (.own (.lst true us)) (backS G2 G1 own) := by
  simp only [evalE, h, bd_ok', hi, hf, Bool.true_or, Bool.and_self, if_true, hl, hz]
theorem loopC_pure {k : T → Sl → R (Option T)} {α : Type} {f g : α → T} {G : Sl} : ∀ {l : List α}, (∀ a ∈ l, k (f a) G = .ok (some (g a)) G) → loopC k (l.map f) G = .ok (l.map g) G
  | [], _ => rfl
  | a :: l, h => by
    rw [List.map_cons, loopC, h a List.mem_cons_self, bd_ok', loopC_pure fun b m => h b (List.mem_cons_of_mem _ m)]
    rfl
theorem cut_to {ts : List T} {m : Nat} (h : m ≤ ts.length) : cutT ts none (some (m : Int)) = ts.take m := by
  unfold cutT
  rw [HT.sIx_nat, HT.sIx_none, Nat.min_eq_left h]
  simp
theorem asl_ok {i : Nat} {e : Ex} {G G1 : Sl} {v : Ev} {t : T} (h : evalE Φ gl e G = .ok v G1) (hv : v.fm = some t) (hi : i < G1.length) : evalS Φ gl fu (.asl i e) G = .nx (G1.set i (some t)) := by
  simp only [evalS, h, bs_ok', hv, hi, if_true]
theorem asg_nm {i : Nat} {e : Ex} {G G1 : Sl} {v : Ev} {t : T} (h : evalE Φ gl e G = .ok v G1) (hv : v.fm = some t) (hi : i < G1.length) : evalS Φ gl fu (.asg (.nm i) e) G = .nx (G1.set i (some t)) := by
  simp only [evalS, h, bs_ok', hv, bindS, hi, if_true]
theorem bin_eval {op : Bop} {a b : Ex} {G G1 G2 : Sl} {x y v : Ev} (h1 : evalE Φ gl a G = .ok x G1) (h2 : evalE Φ gl b G1 = .ok y G2) (hf : (x.firm || quiet b) = true) (h : binop op x y = some v) : evalE Φ gl (.bin op a b) G = .ok v G2 := by
  simp only [evalE, h1, bd_ok', h2, hf, if_true, h, of_some']
theorem loopS_out {k : T → Sl → SR} {α : Type} {f : α → T} (I : List α → Sl → Prop) (Rt : T → Sl → Prop) (step : ∀ a l G, I (a :: l) G → (∃ G', (k (f a) G = .nx G' ∨ k (f a) G = .cnt G') ∧ I l G') ∨ ∃ t G', k (f a) G = .ret t G' ∧ Rt t G') :
    ∀ l G, I l G → (∃ G', loopS k (l.map f) G = .nx G' ∧ I [] G') ∨ ∃ t G', loopS k (l.map f) G = .ret t G' ∧ Rt t G'
  | [], G, h => .inl ⟨G, rfl, h⟩
  | a :: l, G, h => by
    rcases step a l G h with ⟨G1, h1, h2⟩ | ⟨t, G', h1, h2⟩
    · have e : loopS k ((a :: l).map f) G = loopS k (l.map f) G1 := by
        rw [List.map_cons, loopS]
        rcases h1 with h1 | h1 <;> rw [h1]
      rw [e]
      exact loopS_out I Rt step l G1 h2
    · refine .inr ⟨t, G', ?_, h2⟩
      rw [List.map_cons, loopS, h1]
end
end QX

set_option Elab.async false
set_option linter.all false
set_option maxRecDepth 100000
/-! what holds behind an expression, a statement: rules by syntax -/
namespace QX
open PySem

/-- where a def is carried out -/
structure En where
  Φ : Str → List T → FR
  gl : Str → Option T
  fu : Nat
abbrev XP := Str → List (Str × T) → Sl → Prop
def RP {α : Type} (r : R α) (k : α → Sl → Prop) (x : XP) : Prop := match r with
  | .ok a G => k a G
  | .exc n p G => x n p G
  | .no => False
def SRP (r : SR) (N : Sl → Prop) (Rt : T → Sl → Prop) (B C : Sl → Prop) (x : XP) : Prop := match r with
  | .nx G => N G
  | .ret t G => Rt t G
  | .brk G => B G
  | .cnt G => C G
  | .exc n p G => x n p G
  | .no => False
theorem RP.mono {α : Type} {r : R α} {k k' : α → Sl → Prop} {x : XP} (h : RP r k x) (hk : ∀ a G, k a G → k' a G) : RP r k' x := by
  cases r with
  | ok a G => exact hk _ _ h
  | exc n p G => exact h
  | no => exact h
theorem RP.bd {α β : Type} {r : R α} {f : α → Sl → R β} {k : β → Sl → Prop} {x : XP} (h : RP r (fun a G => RP (f a G) k x) x) : RP (r.bd f) k x := by
  cases r with
  | ok a G => exact h
  | exc n p G => exact h
  | no => exact h
theorem RP.of {α : Type} {G : Sl} {o : Option α} {k : α → Sl → Prop} {x : XP} (h : ∃ a, o = some a ∧ k a G) : RP (R.of G o) k x := by
  obtain ⟨a, rfl, h⟩ := h
  exact h
theorem SRP.bs {α : Type} {r : R α} {f : α → Sl → SR} {N : Sl → Prop} {Rt : T → Sl → Prop} {B C : Sl → Prop} {x : XP} (h : RP r (fun a G => SRP (f a G) N Rt B C x) x) : SRP (r.bs f) N Rt B C x := by
  cases r with
  | ok a G => exact h
  | exc n p G => exact h
  | no => exact h
theorem SRP.bd {r : SR} {f : Sl → SR} {N : Sl → Prop} {Rt : T → Sl → Prop} {B C : Sl → Prop} {x : XP} (h : SRP r (fun G => SRP (f G) N Rt B C x) Rt B C x) : SRP (r.bd f) N Rt B C x := by
  cases r <;> exact h

@[irreducible] def WE (c : En) (e : Ex) (G : Sl) (k : Ev → Sl → Prop) (x : XP) : Prop := RP (evalE c.Φ c.gl e G) k x
@[irreducible] def WL (c : En) (es : List Ex) (G : Sl) (k : List Ev → Sl → Prop) (x : XP) : Prop := RP (evalL c.Φ c.gl es G) k x
@[irreducible] def WS (c : En) (s : Sm) (G : Sl) (N : Sl → Prop) (Rt : T → Sl → Prop) (B C : Sl → Prop) (x : XP) : Prop := SRP (evalS c.Φ c.gl c.fu s G) N Rt B C x
@[irreducible] def WB (c : En) (ss : List Sm) (G : Sl) (N : Sl → Prop) (Rt : T → Sl → Prop) (B C : Sl → Prop) (x : XP) : Prop := SRP (evalSs c.Φ c.gl c.fu ss G) N Rt B C x
/-- a value is told by a table -/
inductive Wt where
  | bin (op : Bop) | cmp (op : Cop) | tru | own | atr | ix | sl | rv | lr | bf (f : Bfn) | isi | met (m : Mth) | it (k : Ik) | fm | bt | bl | neg | isn | blo
@[irreducible] def WO {α : Type} (g : Wt) (o : Option α) (k : α → Prop) : Prop := ∃ a, o = some a ∧ k a
@[irreducible] def WIf (b : Bool) (p q : Prop) : Prop := if b = true then p else q
@[irreducible] def WCall (Φ : Str → List T → FR) (f : Str) (vs : List Ev) (G : Sl) (k : Ev → Sl → Prop) (x : XP) : Prop := RP (callE (Φ f) vs G) k x
@[irreducible] def WFor (c : En) (tg : Tg) (body : List Sm) (ts : List T) (G : Sl) (N : Sl → Prop) (Rt : T → Sl → Prop) (x : XP) : Prop := SRP (loopS (turnS c.Φ c.gl c.fu tg body) ts G) N Rt (fun _ => False) (fun _ => False) x
@[irreducible] def WSet (i : Nat) (t : T) (G : Sl) (N : Sl → Prop) : Prop := i < G.length ∧ N (G.set i (some t))
/-- a store to a place -/
@[irreducible] def WSt (i : Nat) (y : Ev) (t : T) (G : Sl) (N : Sl → Prop) : Prop := ∃ ts k j, slotT G i = some (.lst true ts) ∧ y.tr = some (.int k) ∧ L2.ixN ts.length k = some j ∧ N (G.set i (some (.lst true (ts.set j t.fz))))
@[irreducible] def WBd (c : En) (g : Ts) (t : T) (G : Sl) (N : Sl → Prop) (x : XP) : Prop := SRP (bindS c.Φ c.gl g t G) N (fun _ _ => False) (fun _ => False) (fun _ => False) x
@[irreducible] def WBds (c : En) (g : List Ts) (t : List T) (G : Sl) (N : Sl → Prop) (x : XP) : Prop := SRP (bindSs c.Φ c.gl g t G) N (fun _ _ => False) (fun _ => False) (fun _ => False) x
@[irreducible] def WMut (m : Mut) (i : Nat) (vs : List Ev) (G : Sl) (k : Ev → Sl → Prop) : Prop := ∃ ts t us, slotT G i = some (.lst true ts) ∧ mutop m ts vs = some (t, us) ∧ k (.own t) (G.set i (some (.lst true us)))
/-- a comprehension's turns -/
@[irreducible] def WLc (c : En) (elt : Ex) (tg : Tg) (ifs : List Ex) (own : List Nat) (ts : List T) (G : Sl) (k : Ev → Sl → Prop) (x : XP) : Prop :=
  RP ((loopC (turnC tg (evalAll c.Φ c.gl ifs) (evalE c.Φ c.gl elt) own) ts (outS G own)).bd fun us G6 => if us.length ≤ sizeLine then .ok (.own (.lst true us)) (backS G6 G own) else .no) k x

def negop (v : Ev) : Option Int := match v.tr with
  | some (.int i) => some (-i)
  | _ => none
def isNop (v : Ev) : Option Bool := match v.tr with
  | some .non => some true
  | some (.opq _) => none
  | some _ => some false
  | none => none
def blop (v : Ev) : Option Bool := match v.tr with
  | some (.bl b) => some b
  | _ => none
/-- a whole number from 0 on -/
@[irreducible] def WNat (v : Ev) (k : Nat → Prop) : Prop := ∃ m : Nat, v = .own (.int m) ∧ k m
@[irreducible] def oBin (op : Bop) (v w : Ev) := binop op v w
theorem oBin_eq (op : Bop) (v w : Ev) : oBin op v w = binop op v w := by unfold oBin; rfl
@[irreducible] def oCmp (op : Cop) (v w : Ev) := cmpop op v w
theorem oCmp_eq (op : Cop) (v w : Ev) : oCmp op v w = cmpop op v w := by unfold oCmp; rfl
@[irreducible] def oIx (v w : Ev) := ixop v w
theorem oIx_eq (v w : Ev) : oIx v w = ixop v w := by unfold oIx; rfl
@[irreducible] def oBf (f : Bfn) (vs : List Ev) := bfnop f vs
theorem oBf_eq (f : Bfn) (vs : List Ev) : oBf f vs = bfnop f vs := by unfold oBf; rfl
@[irreducible] def oIt (q : Ik) (vs : List Ev) := iterOf q vs
theorem oIt_eq (q : Ik) (vs : List Ev) : oIt q vs = iterOf q vs := by unfold oIt; rfl
@[irreducible] def oSl (v : Ev) (lo hi : Option Int) := slop v lo hi
theorem oSl_eq (v : Ev) (lo hi : Option Int) : oSl v lo hi = slop v lo hi := by unfold oSl; rfl
@[irreducible] def oSlL (v w : Ev) := slLo v w
theorem oSlL_eq (v w : Ev) : oSlL v w = slLo v w := by unfold oSlL; rfl
@[irreducible] def oSlH (v w : Ev) := slHi v w
theorem oSlH_eq (v w : Ev) : oSlH v w = slHi v w := by unfold oSlH; rfl
@[irreducible] def oSlB (v w z : Ev) := slBo v w z
theorem oSlB_eq (v w z : Ev) : oSlB v w z = slBo v w z := by unfold oSlB; rfl
section
variable {c : En} {G : Sl} {k : Ev → Sl → Prop} {kl : List Ev → Sl → Prop} {x : XP} {N : Sl → Prop} {Rt : T → Sl → Prop} {B C : Sl → Prop}
variable {tg : Tg} {body : List Sm} {e a b d : Ex} {es : List Ex} {i j : Nat} {t : T} {ts us : List T} {v w : Ev} {vs : List Ev}

/-! ### tables -/
theorem wo {α : Type} {g : Wt} {o : Option α} {k : α → Prop} {u : α} (e : o = some u) (h : k u) : WO g o k := by unfold WO; exact ⟨u, e, h⟩
theorem WO.un {α : Type} {g : Wt} {o : Option α} {k : α → Prop} (h : WO g o k) : ∃ a, o = some a ∧ k a := by unfold WO at h; exact h
theorem WO.as {α : Type} {g : Wt} {o o' : Option α} {k : α → Prop} (h : WO g o k) (e : o = o') : ∃ a, o' = some a ∧ k a := by rw [← e]; exact h.un
theorem wif_t {b : Bool} {p q : Prop} (e : b = true) (h : p) : WIf b p q := by unfold WIf; rw [if_pos e]; exact h
theorem wif_f {b : Bool} {p q : Prop} (e : b = false) (h : q) : WIf b p q := by unfold WIf; rw [e]; exact h
theorem wif_b {b : Bool} {p q : Prop} (h1 : b = true → p) (h2 : b = false → q) : WIf b p q := by
  unfold WIf
  cases b
  · exact h2 rfl
  · exact h1 rfl
theorem wif_d {P : Prop} [Decidable P] {p q : Prop} (h1 : P → p) (h2 : ¬ P → q) : WIf (decide P) p q := wif_b (fun e => h1 (of_decide_eq_true e)) fun e => h2 (of_decide_eq_false e)
theorem wif_nd {P : Prop} [Decidable P] {p q : Prop} (h1 : ¬ P → p) (h2 : P → q) : WIf (!decide P) p q := wif_b (fun e => h1 (of_decide_eq_false (by simpa using e))) fun e => h2 (of_decide_eq_true (by simpa using e))
theorem WIf.un {b : Bool} {p q : Prop} (h : WIf b p q) : if b = true then p else q := by unfold WIf at h; exact h

/-! ### expressions -/
theorem WL.un (h : WL c es G kl x) : RP (evalL c.Φ c.gl es G) kl x := by unfold WL at h; exact h
theorem WE.un (h : WE c e G k x) : RP (evalE c.Φ c.gl e G) k x := by unfold WE at h; exact h
theorem we_var_lt (h : slotT G i = some (.lst true ts)) (hk : k (.vw (.lst true ts)) G) : WE c (.var i) G k x := by
  unfold WE; simp only [evalE, h, RP]; exact hk
theorem we_var (h : slotT G i = some t) (hf : t.isF = true) (hk : k (.own t) G) : WE c (.var i) G k x := by
  unfold WE; simp only [evalE, h, RP, hf, if_true]; exact hk
theorem we_var_vw (h : slotT G i = some t) (hf : t.isF = false) (hk : k (.vw t) G) : WE c (.var i) G k x := by
  unfold WE; simp only [evalE, h, RP, hf]; exact hk
theorem we_mov (h : slotT G i = some t) {G' : Sl} (e : G.set i none = G') (hk : k (.own t) G') : WE c (.mov i) G k x := by
  unfold WE; subst e; simp only [evalE, h, RP]; exact hk
theorem we_shr (h : slotT G i = some t) {t' : T} (et : t.fz = t') {G' : Sl} (e : G.set i (some t') = G') (hk : k (.own t') G') : WE c (.shr i) G k x := by
  unfold WE; subst e; subst et; simp only [evalE, h, RP]; exact hk
theorem we_ref (h : slotT G i = some t) (hk : k (.rf i) G) : WE c (.ref i) G k x := by
  unfold WE; simp only [evalE, h, RP]; exact hk
theorem we_glo {y : Str} (h : c.gl y = some t) (hf : t.isF = true) (hk : k (.own t) G) : WE c (.glo y) G k x := by
  unfold WE; simp only [evalE, h, RP, hf, if_true]; exact hk
theorem we_int {n : Int} (hk : k (.own (.int n)) G) : WE c (.int n) G k x := by unfold WE; simp only [evalE, RP]; exact hk
theorem we_intL {n : Nat} (hk : k (.own (.int ((OfNat.ofNat n : Nat) : Int))) G) : WE c (.int (OfNat.ofNat n)) G k x := by unfold WE; simp only [evalE, RP]; exact hk
theorem we_str {n : Str} (hk : k (.own (.str n)) G) : WE c (.str n) G k x := by unfold WE; simp only [evalE, RP]; exact hk
theorem we_bl {n : Bool} (hk : k (.own (.bl n)) G) : WE c (.bl n) G k x := by unfold WE; simp only [evalE, RP]; exact hk
theorem we_non (hk : k (.own .non) G) : WE c .non G k x := by unfold WE; simp only [evalE, RP]; exact hk
theorem we_bin {op : Bop} (h : WE c a G (fun v G1 => WE c b G1 (fun w G2 => (v.firm || quiet b) = true ∧ WO (.bin op) (oBin op v w) fun u => k u G2) x) x) : WE c (.bin op a b) G k x := by
  unfold WE
  simp only [evalE]
  refine RP.bd (h.un.mono fun v G1 h1 => RP.bd (RP.mono h1.un fun w G2 ⟨h2, h3⟩ => ?_))
  rw [if_pos h2]; exact RP.of (h3.as (oBin_eq _ _ _))
theorem we_neg (h : WE c a G (fun v G1 => WO .neg (negop v) fun n => k (.own (.int n)) G1) x) : WE c (.neg a) G k x := by
  unfold WE
  simp only [evalE]
  refine RP.bd (h.un.mono fun v G1 h0 => ?_)
  obtain ⟨n, h1, h2⟩ := h0.un
  unfold negop at h1
  split at h1
  · rename_i i e
    cases h1
    first | exact h2 | (simp only [e]; exact h2)
  · cases h1
theorem we_neg1 {n : Int} (hk : k (.own (.int (-n))) G) : WE c (.neg (.int n)) G k x := we_neg (by unfold WE; exact (show RP _ _ _ from by simp only [evalE, RP]; unfold WO; exact ⟨_, rfl, hk⟩))
theorem we_cmp {op : Cop} (h : WE c a G (fun v G1 => WE c b G1 (fun w G2 => (v.firm || quiet b) = true ∧ WO (.cmp op) (oCmp op v w) fun u => k (.own (.bl u)) G2) x) x) : WE c (.cmp op a b) G k x := by
  unfold WE
  simp only [evalE]
  refine RP.bd (h.un.mono fun v G1 h1 => RP.bd (RP.mono h1.un fun w G2 ⟨h2, h3⟩ => ?_))
  rw [if_pos h2]
  obtain ⟨u, h4, h5⟩ := h3.as (oCmp_eq _ _ _)
  rw [h4]; exact h5
theorem we_chn {op op' : Cop} (h : WE c a G (fun v G1 => WE c b G1 (fun w G2 => (v.firm || quiet b) = true ∧ WO (.cmp op) (oCmp op v w) fun u => WIf u
    (WE c d G2 (fun z G3 => ((v.firm || quiet d) && w.firm) = true ∧ WO (.cmp op') (oCmp op' w z) fun u => k (.own (.bl u)) G3) x) (k (.own (.bl false)) G2)) x) x) : WE c (.chn op op' a b d) G k x := by
  unfold WE
  simp only [evalE]
  refine RP.bd (h.un.mono fun v G1 h1 => RP.bd (RP.mono h1.un fun w G2 ⟨h2, h3⟩ => ?_))
  rw [if_pos h2]
  obtain ⟨u, h4, h5⟩ := h3.as (oCmp_eq _ _ _)
  rw [h4]
  have h6 := h5.un
  cases u with
  | false => exact h6
  | true =>
    have h6 : WE c d G2 _ x := h6
    refine RP.bd (h6.un.mono fun z G3 ⟨h7, h8⟩ => ?_)
    rw [if_pos h7]
    obtain ⟨u, h9, h10⟩ := h8.as (oCmp_eq _ _ _)
    rw [h9]; exact h10
theorem we_negL {n : Nat} (hk : k (.own (.int (-((OfNat.ofNat n : Nat) : Int)))) G) : WE c (.neg (.int (OfNat.ofNat n))) G k x := we_neg1 hk
theorem we_isN (h : WE c a G (fun v G1 => WO .isn (isNop v) fun u => k (.own (.bl u)) G1) x) : WE c (.isN a) G k x := by
  unfold WE
  simp only [evalE]
  refine RP.bd (h.un.mono fun v G1 h0 => ?_)
  obtain ⟨u, h1, h2⟩ := h0.un
  unfold isNop at h1
  split at h1 <;> simp_all [RP]
theorem we_noN (h : WE c a G (fun v G1 => WO .isn (isNop v) fun u => k (.own (.bl (!u))) G1) x) : WE c (.noN a) G k x := by
  unfold WE
  simp only [evalE]
  refine RP.bd (h.un.mono fun v G1 h0 => ?_)
  obtain ⟨u, h1, h2⟩ := h0.un
  unfold isNop at h1
  split at h1 <;> first | (cases h1; simp_all [RP]; done) | cases h1
theorem we_isB {q : Bool} (h : WE c a G (fun v G1 => WO .blo (blop v) fun b => k (.own (.bl (decide (b = q)))) G1) x) : WE c (.isB q a) G k x := by
  unfold WE
  simp only [evalE]
  refine RP.bd (h.un.mono fun v G1 h0 => ?_)
  obtain ⟨u, h1, h2⟩ := h0.un
  unfold blop at h1
  split at h1
  · rename_i i e
    cases h1
    first | exact h2 | (simp only [e]; exact h2)
  · cases h1
theorem we_noB {q : Bool} (h : WE c a G (fun v G1 => WO .blo (blop v) fun b => k (.own (.bl (!decide (b = q)))) G1) x) : WE c (.noB q a) G k x := by
  unfold WE
  simp only [evalE]
  refine RP.bd (h.un.mono fun v G1 h0 => ?_)
  obtain ⟨u, h1, h2⟩ := h0.un
  unfold blop at h1
  split at h1
  · rename_i i e
    cases h1
    first | exact h2 | (simp only [e]; exact h2)
  · cases h1
theorem we_not (h : WE c a G (fun v G1 => WO .tru v.truth fun u => k (.own (.bl (!u))) G1) x) : WE c (.not a) G k x := by
  unfold WE
  simp only [evalE]
  refine RP.bd (h.un.mono fun v G1 h1 => ?_)
  obtain ⟨u, h2, h3⟩ := h1.un
  rw [h2]; exact h3
theorem we_ite (h : WE c d G (fun v G1 => WO .tru v.truth fun u => WIf u (WE c a G1 k x) (WE c b G1 k x)) x) : WE c (.ite d a b) G k x := by
  unfold WE
  simp only [evalE]
  refine RP.bd (h.un.mono fun v G1 h1 => ?_)
  obtain ⟨u, h2, h3⟩ := h1.un
  rw [h2]
  have h4 := h3.un
  cases u with
  | true => have h4 : WE c a G1 k x := h4; exact h4.un
  | false => have h4 : WE c b G1 k x := h4; exact h4.un
theorem we_and1 (h : WE c e G k x) : WE c (.and [e]) G k x := by
  unfold WE; simpa only [evalE, evalAnd] using h.un
theorem we_or1 (h : WE c e G k x) : WE c (.or [e]) G k x := by
  unfold WE; simpa only [evalE, evalAnd] using h.un
theorem we_and (h : WE c e G (fun v G1 => WO .tru v.truth fun u => WIf u (WE c (.and (a :: es)) G1 k x) (k v G1)) x) : WE c (.and (e :: a :: es)) G k x := by
  unfold WE
  simp only [evalE]
  rw [evalAnd]
  unfold logic
  refine RP.bd (h.un.mono fun v G1 h1 => ?_)
  obtain ⟨u, h2, h3⟩ := h1.un
  rw [h2]
  have h4 := h3.un
  cases u with
  | true =>
    have h4 : WE c (.and (a :: es)) G1 k x := h4
    have h5 := h4.un
    rw [evalE] at h5
    exact h5
  | false => exact h4
theorem we_or (h : WE c e G (fun v G1 => WO .tru v.truth fun u => WIf u (k v G1) (WE c (.or (a :: es)) G1 k x)) x) : WE c (.or (e :: a :: es)) G k x := by
  unfold WE
  simp only [evalE]
  rw [evalAnd]
  unfold logic
  refine RP.bd (h.un.mono fun v G1 h1 => ?_)
  obtain ⟨u, h2, h3⟩ := h1.un
  rw [h2]
  have h4 := h3.un
  cases u with
  | false =>
    have h4 : WE c (.or (a :: es)) G1 k x := h4
    have h5 := h4.un
    rw [evalE] at h5
    exact h5
  | true => exact h4
theorem we_tup (h : WL c es G (fun vs G1 => vs.length ≤ 16777216 ∧ WO .own (allOwn vs) fun ts => k (.own (.tup ts)) G1) x) : WE c (.tup es) G k x := by
  unfold WE
  simp only [evalE]
  refine RP.bd (h.un.mono fun v G1 ⟨h1, h2⟩ => ?_)
  rw [if_pos (by rw [sizeLine_eq]; exact h1)]
  obtain ⟨u, h3, h4⟩ := h2.un
  rw [h3]; exact h4
theorem we_lst (h : WL c es G (fun vs G1 => vs.length ≤ 16777216 ∧ WO .own (allOwn vs) fun ts => k (.own (.lst true ts)) G1) x) : WE c (.lst es) G k x := by
  unfold WE
  simp only [evalE]
  refine RP.bd (h.un.mono fun v G1 ⟨h1, h2⟩ => ?_)
  rw [if_pos (by rw [sizeLine_eq]; exact h1)]
  obtain ⟨u, h3, h4⟩ := h2.un
  rw [h3]; exact h4
theorem we_lst_vw (h : WL c es G (fun vs G1 => vs.length ≤ 16777216 ∧ allOwn vs = none ∧ WO .atr (allTr vs) fun ts => k (.vw (.lst true ts)) G1) x) : WE c (.lst es) G k x := by
  unfold WE
  simp only [evalE]
  refine RP.bd (h.un.mono fun v G1 ⟨h1, h0, h2⟩ => ?_)
  rw [if_pos (by rw [sizeLine_eq]; exact h1)]
  obtain ⟨u, h3, h4⟩ := h2.un
  rw [h0, h3]; exact h4
theorem we_ix (h : WE c a G (fun v G1 => WE c b G1 (fun w G2 => (v.firm || quiet b) = true ∧ WO .ix (oIx v w) fun u => k u G2) x) x) : WE c (.ix a b) G k x := by
  unfold WE
  simp only [evalE]
  refine RP.bd (h.un.mono fun v G1 h1 => RP.bd (RP.mono h1.un fun w G2 ⟨h2, h3⟩ => ?_))
  rw [if_pos h2]; exact RP.of (h3.as (oIx_eq _ _))
theorem we_sl0 (h : WE c a G (fun v G1 => WO .sl (oSl v none none) fun u => k u G1) x) : WE c (.sl0 a) G k x := by
  unfold WE
  simp only [evalE]
  exact RP.bd (h.un.mono fun v G1 h1 => RP.of (h1.as (oSl_eq _ _ _)))
theorem we_slL (h : WE c a G (fun v G1 => WE c b G1 (fun w G2 => (v.firm || quiet b) = true ∧ WO .sl (oSlL v w) fun u => k u G2) x) x) : WE c (.slL a b) G k x := by
  unfold WE
  simp only [evalE]
  refine RP.bd (h.un.mono fun v G1 h1 => RP.bd (RP.mono h1.un fun w G2 ⟨h2, h3⟩ => ?_))
  rw [if_pos h2]; exact RP.of (h3.as (oSlL_eq _ _))
theorem we_slH (h : WE c a G (fun v G1 => WE c b G1 (fun w G2 => (v.firm || quiet b) = true ∧ WO .sl (oSlH v w) fun u => k u G2) x) x) : WE c (.slH a b) G k x := by
  unfold WE
  simp only [evalE]
  refine RP.bd (h.un.mono fun v G1 h1 => RP.bd (RP.mono h1.un fun w G2 ⟨h2, h3⟩ => ?_))
  rw [if_pos h2]; exact RP.of (h3.as (oSlH_eq _ _))
theorem we_slB (h : WE c a G (fun v G1 => WE c b G1 (fun w G2 => (v.firm || quiet b) = true ∧ (∃ n : Int, w.tr = some (.int n)) ∧ WE c d G2 (fun z G3 => ((v.firm || quiet d) && w.firm) = true ∧ WO .sl (oSlB v w z) fun u => k u G3) x) x) x) : WE c (.slB a b d) G k x := by
  unfold WE
  simp only [evalE]
  refine RP.bd (h.un.mono fun v G1 h1 => RP.bd (RP.mono h1.un fun w G2 ⟨h2, ⟨n, h3⟩, h4⟩ => ?_))
  rw [if_pos h2]
  have e : intq v w = some true := by unfold intq; rw [h3]
  rw [e]
  refine RP.bd (RP.mono h4.un fun z G3 ⟨h5, h6⟩ => ?_)
  rw [if_pos h5]; exact RP.of (h6.as (oSlB_eq _ _ _))
theorem we_rev (h : WE c a G (fun v G1 => WO .rv (revop v) fun u => k u G1) x) : WE c (.rev a) G k x := by
  unfold WE
  simp only [evalE]
  exact RP.bd (h.un.mono fun v G1 h1 => RP.of h1.un)
theorem we_lrg (h : WE c a G (fun v G1 => WO .lr (lrgop v) fun u => k u G1) x) : WE c (.lrg a) G k x := by
  unfold WE
  simp only [evalE]
  exact RP.bd (h.un.mono fun v G1 h1 => RP.of h1.un)
theorem we_bfn {f : Bfn} (h : WL c es G (fun vs G1 => WO (.bf f) (oBf f vs) fun u => k u G1) x) : WE c (.bfn f es) G k x := by
  unfold WE
  simp only [evalE]
  exact RP.bd (h.un.mono fun v G1 h1 => RP.of (h1.as (oBf_eq _ _)))
theorem we_isi {ty : List String} (h : WE c a G (fun v G1 => WO .isi (isiop v ty) fun u => k (.own (.bl u)) G1) x) : WE c (.isi a ty) G k x := by
  unfold WE
  simp only [evalE]
  refine RP.bd (h.un.mono fun v G1 h1 => ?_)
  obtain ⟨u, h2, h3⟩ := h1.un
  rw [h2]; exact h3
theorem we_cal {f : Str} (h : WL c es G (fun vs G1 => WCall c.Φ f vs G1 k x) x) : WE c (.cal f es) G k x := by
  unfold WE
  simp only [evalE]
  refine RP.bd (h.un.mono fun v G1 h1 => ?_)
  unfold WCall at h1; exact h1
theorem we_clk {f : Str} {ks : List Str} {p : List Nat} (h : WL c es G (fun vs G1 => WCall (fun f ts => c.Φ f (p.filterMap fun j => ts[j]?)) f vs G1 k x) x) : WE c (.clk f es ks p) G k x := by
  unfold WE
  simp only [evalE]
  refine RP.bd (h.un.mono fun v G1 h1 => ?_)
  unfold WCall at h1; exact h1
theorem we_met {m : Mth} (h : WE c a G (fun v G1 => m.on v = true ∧ WL c es G1 (fun vs G2 => (v.firm || quietL es) = true ∧ WO (.met m) (metop m v vs) fun u => k u G2) x) x) : WE c (.met m a es) G k x := by
  unfold WE
  simp only [evalE]
  refine RP.bd (h.un.mono fun v G1 ⟨h0, h1⟩ => ?_)
  rw [if_pos h0]
  refine RP.bd (RP.mono h1.un fun w G2 ⟨h2, h3⟩ => ?_)
  rw [if_pos h2]; exact RP.of h3.un
theorem we_mut {m : Mut} (h0 : slotT G i = some (.lst true ts)) (h : WL c es G (fun vs G1 => WMut m i vs G1 k) x) : WE c (.mut m i es) G k x := by
  unfold WE
  simp only [evalE, h0]
  refine RP.bd (h.un.mono fun vs G1 h1 => ?_)
  unfold WMut at h1
  obtain ⟨ts, t, us, h1, h2, h3⟩ := h1
  simp only [h1, h2]; exact h3
theorem we_lc {tg : Tg} {q : Ik} {its ifs : List Ex} {own : List Nat} (h : WL c its G (fun vs G1 => WO (.it q) (oIt q vs) fun r => (r.2 || (quiet e && quietL ifs)) = true ∧ freeS G1 own = true ∧ WLc c e tg ifs own r.1 G1 k x) x) : WE c (.lc e tg q its ifs own) G k x := by
  unfold WE
  simp only [evalE]
  refine RP.bd (h.un.mono fun vs G1 h1 => ?_)
  obtain ⟨r, h2, h3, h4, h5⟩ := h1.as (oIt_eq _ _)
  rw [h2]
  simp only
  rw [if_pos (by rw [h3, h4]; rfl)]
  unfold WLc at h5; exact h5

/-! ### lists of expressions -/
theorem wl_nil (h : kl [] G) : WL c [] G kl x := by unfold WL; simp only [evalL]; exact h
theorem wl_cons (h : WE c e G (fun v G1 => WL c es G1 (fun vs G2 => ((v.firm || quietL es) && (!quiet e || !v.isRf)) = true ∧ kl (v :: vs) G2) x) x) : WL c (e :: es) G kl x := by
  unfold WL
  simp only [evalL]
  refine RP.bd (h.un.mono fun v G1 h1 => RP.bd (h1.un.mono fun vs G2 ⟨h2, h3⟩ => ?_))
  simp only [Bool.and_eq_true] at h2
  rw [if_pos h2.1, if_pos h2.2]; exact h3

/-! ### blocks -/
theorem wb_nil (h : N G) : WB c [] G N Rt B C x := by unfold WB; simp only [evalSs]; exact h
theorem wb_cons {s : Sm} {ss : List Sm} (h : WS c s G (fun G1 => WB c ss G1 N Rt B C x) Rt B C x) : WB c (s :: ss) G N Rt B C x := by
  unfold WB
  simp only [evalSs]
  refine SRP.bd ?_
  unfold WS WB at h; exact h
theorem WB.un {ss : List Sm} (h : WB c ss G N Rt B C x) : SRP (evalSs c.Φ c.gl c.fu ss G) N Rt B C x := by unfold WB at h; exact h
theorem ws_asg {g : Ts} (h : WE c e G (fun v G1 => WO .fm v.fm fun t => WBd c g t G1 N x) x) : WS c (.asg g e) G N Rt B C x := by
  unfold WS
  simp only [evalS]
  refine SRP.bs (h.un.mono fun v G1 h1 => ?_)
  obtain ⟨t, h2, h3⟩ := h1.un
  rw [h2]
  unfold WBd at h3
  revert h3
  simp only
  cases bindS c.Φ c.gl g t G1 <;> intro h3 <;> first | exact h3 | exact h3.elim
theorem ws_asl (h : WE c e G (fun v G1 => WO .fm v.fm fun t => WSet i t G1 N) x) : WS c (.asl i e) G N Rt B C x := by
  unfold WS
  simp only [evalS]
  refine SRP.bs (h.un.mono fun v G1 h1 => ?_)
  obtain ⟨t, h2, h3⟩ := h1.un
  unfold WSet at h3
  rw [h2]
  simp only
  rw [if_pos h3.1]; exact h3.2
theorem wbd_nm (h : WSet i t G N) : WBd c (.nm i) t G N x := by
  unfold WBd
  unfold WSet at h
  simp only [bindS]
  rw [if_pos h.1]; exact h.2
theorem wbd_sb {us : T} (h0 : slotT G i = some us) (h : WE c e G (fun y G1 => WSt i y t G1 N) x) : WBd c (.sb i e) t G N x := by
  unfold WBd
  simp only [bindS, h0]
  refine SRP.bs (h.un.mono fun y G1 h1 => ?_)
  unfold WSt at h1
  obtain ⟨ts, n, j, h1, h2, h3, h4⟩ := h1
  simp only [h1, h2, h3]; exact h4
theorem wbd_tp {gs : List Ts} (e : ts.length = gs.length) (h : WBds c gs ts G N x) : WBd c (.tp gs) (.tup ts) G N x := by
  unfold WBd
  simp only [bindS]
  rw [if_pos e]
  unfold WBds at h; exact h
theorem wbds_nil (h : N G) : WBds c [] [] G N x := by unfold WBds; simp only [bindSs]; exact h
theorem wbds_cons {g : Ts} {gs : List Ts} (h : WBd c g t G (fun G1 => WBds c gs ts G1 N x) x) : WBds c (g :: gs) (t :: ts) G N x := by
  unfold WBds
  simp only [bindSs]
  refine SRP.bd ?_
  unfold WBd WBds at h; exact h
theorem ws_par (h : WL c [a, b] G (fun vs G1 => ∃ t u, allOwn vs = some [t, u] ∧ (i < G1.length ∧ j < G1.length) ∧ N ((G1.set i (some t)).set j (some u))) x) : WS c (.par i j a b) G N Rt B C x := by
  unfold WS
  simp only [evalS]
  refine SRP.bs (h.un.mono fun v G1 ⟨t, u, h1, h2, h3⟩ => ?_)
  rw [h1]
  simp only
  rw [if_pos h2]; exact h3
theorem ws_aug {op : Bop} {n : Int} {f : Int → Int → Int} (h0 : slotT G i = some (.int n)) (hf : intBop op = some f) (h : WE c e G (fun v G1 => ∃ m : Int, v.tr = some (.int m) ∧ WSet i (.int (f n m)) G1 N) x) : WS c (.aug i op e) G N Rt B C x := by
  unfold WS
  simp only [evalS, h0]
  refine SRP.bs (h.un.mono fun v G1 ⟨m, h1, h2⟩ => ?_)
  unfold WSet at h2
  simp only [hf, h1]
  rw [if_pos h2.1]; exact h2.2
theorem ws_exp (h : WE c e G (fun _ G1 => N G1) x) : WS c (.exp e) G N Rt B C x := by
  unfold WS
  simp only [evalS]
  exact SRP.bs (h.un.mono fun v G1 h1 => h1)
theorem ws_ret (h : WE c e G (fun v G1 => WO .fm v.fm fun t => Rt t G1) x) : WS c (.ret e) G N Rt B C x := by
  unfold WS
  simp only [evalS]
  refine SRP.bs (h.un.mono fun v G1 h1 => ?_)
  obtain ⟨t, h2, h3⟩ := h1.un
  rw [h2]; exact h3
theorem ws_retN (h : Rt .non G) : WS c .retN G N Rt B C x := by
  unfold WS
  simp only [evalS]; exact h
theorem ws_iff {p q : List Sm} (h : WE c e G (fun v G1 => WO .tru v.truth fun u => WIf u (WB c p G1 N Rt B C x) (WB c q G1 N Rt B C x)) x) : WS c (.iff e p q) G N Rt B C x := by
  unfold WS
  simp only [evalS]
  refine SRP.bs (h.un.mono fun v G1 h1 => ?_)
  obtain ⟨u, h2, h3⟩ := h1.un
  rw [h2]
  have h4 := h3.un
  cases u with
  | true => have h4 : WB c p G1 N Rt B C x := h4; exact h4.un
  | false => have h4 : WB c q G1 N Rt B C x := h4; exact h4.un
theorem ws_frr {tg : Tg} {q : Ik} {body : List Sm} (h : WL c es G (fun vs G1 => WO (.it q) (oIt q vs) fun r => r.2 = true ∧ WFor c tg body r.1 G1 N Rt x) x) : WS c (.frr tg q es body) G N Rt B C x := by
  unfold WS
  simp only [evalS]
  refine SRP.bs (h.un.mono fun vs G1 h1 => ?_)
  obtain ⟨r, h2, h3, h4⟩ := h1.as (oIt_eq _ _)
  rw [h2]
  simp only
  rw [if_pos h3]
  unfold WFor at h4
  show SRP (loopS (turnS c.Φ c.gl c.fu tg body) r.1 G1) N Rt B C x
  revert h4
  cases loopS (turnS c.Φ c.gl c.fu tg body) r.1 G1 <;> intro h4 <;> first | exact h4 | exact h4.elim
theorem ws_frh {tg : Tg} {body : List Sm} (h0 : slotT G i = some (.lst true ts)) (hf : isFL ts = true) (h : WFor c tg body ts (G.set i none) (fun G1 => G1[i]? = some none ∧ N (G1.set i (some (.lst true ts)))) (fun t G1 => G1[i]? = some none ∧ Rt t (G1.set i (some (.lst true ts)))) x) : WS c (.frh tg i body) G N Rt B C x := by
  unfold WS
  simp only [evalS, h0, hf, if_true]
  unfold WFor at h
  show SRP (backR i (.lst true ts) (loopS (turnS c.Φ c.gl c.fu tg body) ts (G.set i none))) N Rt B C x
  revert h
  cases loopS (turnS c.Φ c.gl c.fu tg body) ts (G.set i none) with
  | nx G1 => intro h; obtain ⟨h1, h2⟩ := h; simp only [backR, backO, h1]; exact h2
  | ret u G1 => intro h; obtain ⟨h1, h2⟩ := h; simp only [backR, backO, h1]; exact h2
  | exc n p G1 => intro h; exact h
  | brk G1 => intro h; exact h.elim
  | cnt G1 => intro h; exact h.elim
  | no => intro h; exact h.elim
@[irreducible] def WFrz (i : Nat) (G : Sl) (N : Sl → Prop) : Prop := match slotT G i with
  | some t => N (G.set i (some t.fz))
  | none => N G
theorem wfrz {G' : Sl} {t' : T} (h : slotT G i = some t) (e : t.fz = t') (e2 : G.set i (some t') = G') (hk : N G') : WFrz i G N := by
  unfold WFrz; subst e; subst e2; rw [h]; exact hk
theorem ws_frz {s : Sm} (h : WS c s G (fun G1 => WFrz i G1 N) Rt B C x) : WS c (.frz i s) G N Rt B C x := by
  unfold WS
  simp only [evalS]
  refine SRP.bd ?_
  unfold WS at h
  revert h
  cases evalS c.Φ c.gl c.fu s G with
  | nx G1 =>
    intro h
    have h : WFrz i G1 N := h
    unfold WFrz at h
    show SRP (frzS i G1) N Rt B C x
    unfold frzS
    revert h
    cases slotT G1 i <;> exact id
  | ret t G1 => exact id
  | brk G1 => exact id
  | cnt G1 => exact id
  | exc a p G1 => exact id
  | no => exact id
theorem ws_brk (h : B G) : WS c .brk G N Rt B C x := by unfold WS; simp only [evalS]; exact h
theorem ws_cnt (h : C G) : WS c .cnt G N Rt B C x := by unfold WS; simp only [evalS]; exact h
theorem ws_pas (h : N G) : WS c .pas G N Rt B C x := by unfold WS; simp only [evalS]; exact h
theorem ws_rse {n : Str} (h : WL c es G (fun vs G1 => vs.length ≤ 16777216 ∧ x n [] G1) x) : WS c (.rse n es) G N Rt B C x := by
  unfold WS
  simp only [evalS]
  refine SRP.bs (h.un.mono fun vs G1 ⟨h1, h2⟩ => ?_)
  rw [if_pos (by rw [sizeLine_eq]; exact h1)]; exact h2
theorem ws_whl {body : List Sm} (I : Sl → Prop) (m : Sl → Nat) (h0 : I G) (hm : m G < c.fu)
    (h : ∀ G, I G → WE c e G (fun v G1 => WO .tru v.truth fun u => WIf u (WB c body G1 (fun G2 => I G2 ∧ m G2 < m G) Rt N (fun G2 => I G2 ∧ m G2 < m G) x) (N G1)) x) : WS c (.whl e body) G N Rt B C x := by
  unfold WS
  simp only [evalS]
  suffices z : ∀ n G, I G → m G < n → SRP (whileS (fun G => (evalE c.Φ c.gl e G).bd fun v G1 => R.of G1 v.truth) (evalSs c.Φ c.gl c.fu body) n G) N Rt B C x from z _ _ h0 hm
  intro n
  induction n with
  | zero => intro G _ z; omega
  | succ n ih =>
    intro G hI hn
    rw [whileS]
    refine SRP.bs (RP.bd ((h G hI).un.mono fun v G1 h1 => RP.of ?_))
    obtain ⟨u, h2, h3⟩ := h1.un
    refine ⟨u, h2, ?_⟩
    have h4 := h3.un
    cases u with
    | false => exact h4
    | true =>
      have h4 : WB c body G1 _ Rt N _ x := h4
      have h5 := h4.un
      simp only [if_true]
      revert h5
      cases evalSs c.Φ c.gl c.fu body G1 with
      | nx G2 => intro h5; exact ih G2 h5.1 (by have := h5.2; omega)
      | cnt G2 => intro h5; exact ih G2 h5.1 (by have := h5.2; omega)
      | ret u G2 => intro h5; exact h5
      | brk G2 => intro h5; exact h5
      | exc a p G2 => intro h5; exact h5
      | no => intro h5; exact h5.elim

/-! ### loops -/
theorem wfor_nil (h : N G) : WFor c tg body [] G N Rt x := by unfold WFor; exact h
/-- turn by turn -/
theorem wfor {tg : Tg} {body : List Sm} {α : Type} {f : α → T} {l : List α} (I : List α → Sl → Prop) (h0 : I l G)
    (step : ∀ a r G, I (a :: r) G → WO .bt (bindT tg (f a) G) fun G1 => WB c body G1 (I r) Rt N (I r) x) (done : ∀ G, I [] G → N G) : WFor c tg body (l.map f) G N Rt x := by
  unfold WFor
  induction l generalizing G with
  | nil => exact done _ h0
  | cons a r ih =>
    obtain ⟨G1, h1, h2⟩ := (step a r G h0).un
    have h3 := h2.un
    rw [List.map_cons, loopS]
    unfold turnS
    simp only [h1]
    revert h3
    cases evalSs c.Φ c.gl c.fu body G1 with
    | nx G2 => intro h3; exact ih h3
    | cnt G2 => intro h3; exact ih h3
    | ret u G2 => intro h3; exact h3
    | brk G2 => intro h3; exact h3
    | exc a p G2 => intro h3; exact h3
    | no => intro h3; exact h3.elim
/-- a comprehension over pure items -/
theorem wlc {tg : Tg} {ifs : List Ex} {own : List Nat} {α : Type} {f : α → T} {l : List α} {G0 : Sl} {q : α → Bool} {g : α → T} (e0 : outS G own = G0) (hl : l.length ≤ 16777216)
    (turn : ∀ a ∈ l, WO .bt (bindT tg (f a) G0) fun G1 => RP (evalAll c.Φ c.gl ifs G1) (fun u G2 => u = q a ∧ (q a = true → WE c e G2 (fun v G3 => (∃ t, v.fm = some t ∧ t.fz = g a) ∧ outS G3 own = G0) (fun _ _ _ => False)) ∧ (q a = false → outS G2 own = G0)) (fun _ _ _ => False))
    (done : k (.own (.lst true ((l.filter q).map g))) (backS G0 G own)) : WLc c e tg ifs own (l.map f) G k x := by
  unfold WLc
  rw [e0]
  have key : loopC (turnC tg (evalAll c.Φ c.gl ifs) (evalE c.Φ c.gl e) own) (l.map f) G0 = .ok ((l.filter q).map g) G0 := by
    clear done hl e0
    induction l with
    | nil => rfl
    | cons a r ih =>
      have h3 := ih fun b m => turn b (List.mem_cons_of_mem _ m)
      have ht : turnC tg (evalAll c.Φ c.gl ifs) (evalE c.Φ c.gl e) own (f a) G0 = .ok (if q a = true then some (g a) else none) G0 := by
        obtain ⟨G1, h1, h2⟩ := (turn a List.mem_cons_self).un
        unfold turnC
        rw [h1]
        simp only
        revert h2
        cases evalAll c.Φ c.gl ifs G1 with
        | no => intro h2; exact h2.elim
        | exc n p G => intro h2; exact h2.elim
        | ok u G2 =>
          intro h2
          obtain ⟨rfl, h4, h5⟩ := h2
          by_cases hq : q a = true
          · have h6 := (h4 hq).un
            simp only [R.nx, R.bd_ok, hq, if_true]
            revert h6
            cases evalE c.Φ c.gl e G2 with
            | no => intro h6; exact h6.elim
            | exc n p G => intro h6; exact h6.elim
            | ok v G3 =>
              intro h6
              obtain ⟨⟨t, h7, h8⟩, h9⟩ := h6
              simp only [R.bd_ok, h7, h9, h8]
          · have hq' : q a = false := by simpa using hq
            simp only [R.nx, R.bd_ok, hq', Bool.false_eq_true, if_false, h5 hq']
      rw [List.map_cons, loopC, ht, R.bd_ok, h3, R.bd_ok]
      by_cases hq : q a = true
      · simp only [hq, if_true, List.filter_cons, List.map_cons]
      · simp only [hq, if_false, List.filter_cons, Bool.false_eq_true]
  rw [key]
  simp only [R.bd_ok]
  have hz : ((l.filter q).map g).length ≤ sizeLine := by
    rw [sizeLine_eq, List.length_map]
    exact Nat.le_trans (List.length_filter_le _ _) hl
  rw [if_pos hz]
  exact done
end
end QX

set_option Elab.async false
set_option linter.all false
set_option maxRecDepth 100000
/-! tables, calls, what is written as trees -/
namespace QX
open PySem

class Enc (α : Type) where
  enc : α → T
  f : ∀ a, (enc a).isF = true
abbrev en {α : Type} [Enc α] (a : α) : T := Enc.enc a
instance : Enc Int := ⟨.int, fun _ => rfl⟩
instance : Enc Nat := ⟨fun n => .int (n : Int), fun _ => rfl⟩
instance : Enc Bool := ⟨.bl, fun _ => rfl⟩
instance : Enc Str := ⟨.str, fun _ => rfl⟩
theorem en_f {α : Type} [Enc α] (a : α) : (en a).isF = true := Enc.f a
theorem en_fl {α : Type} [Enc α] (l : List α) : isFL (l.map en) = true := isFL_map fun a _ => Enc.f a
instance {α : Type} [Enc α] : Enc (List α) := ⟨fun l => .lst false (l.map en), fun l => en_fl l⟩
instance {α : Type} [Enc α] : Enc (Option α) := ⟨fun o => match o with | some a => en a | none => .non, fun o => by cases o <;> first | rfl | exact en_f _⟩
instance {α β : Type} [Enc α] [Enc β] : Enc (α × β) := ⟨fun p => .tup [en p.1, en p.2], fun p => by
  show isFL [en p.1, en p.2] = true
  simp [en_f]⟩
theorem en_fz {α : Type} [Enc α] (a : α) : (en a).fz = en a := T.fz_isF _ (en_f a)
theorem en_fzl {α : Type} [Enc α] (l : List α) : fzL (l.map en) = l.map en := fzL_isF _ (en_fl l)
/-- a list of ours -/
abbrev lo {α : Type} [Enc α] (l : List α) : T := .lst true (l.map en)
/-- a list given away -/
abbrev ls {α : Type} [Enc α] (l : List α) : T := .lst false (l.map en)

theorem lo_fz {α : Type} [Enc α] (l : List α) : (lo l).fz = ls l := by show T.lst false (fzL (l.map en)) = _; rw [en_fzl]
/-- a list of lists, all ours -/
abbrev lol {α : Type} [Enc α] (l : List (List α)) : T := .lst true (l.map lo)
theorem lol_fz {α : Type} [Enc α] (l : List (List α)) : (lol l).fz = ls l := by
  show T.lst false (fzL (l.map lo)) = _
  rw [fzL_map, List.map_map]
  congr 1
  exact List.map_congr_left fun r _ => lo_fz r
theorem lol_noF {α : Type} [Enc α] (h : ∀ a : α, (en a).noF = true) (l : List (List α)) : (lol l).noF = true := by
  show (true && noFL (l.map lo)) = true
  rw [noFL_all, List.all_map, Bool.true_and, List.all_eq_true]
  intro r _
  show (true && noFL (r.map en)) = true
  rw [noFL_all, List.all_map, Bool.true_and, List.all_eq_true]
  exact fun a _ => h a
section
variable {c : En} {G G' : Sl} {k : Ev → Sl → Prop} {kl : List Ev → Sl → Prop} {x : XP} {N : Sl → Prop} {Rt : T → Sl → Prop} {B C : Sl → Prop}
variable {tg : Tg} {body : List Sm} {e a b d : Ex} {es : List Ex} {i j : Nat} {t t' : T} {ts us : List T} {v w : Ev} {vs : List Ev}

theorem tr_and {b : Bool} {q : Prop} (h1 : b = true) (h2 : q) : b = true ∧ q := ⟨h1, h2⟩
theorem le_and {n m : Nat} {q : Prop} (h1 : n ≤ m) (h2 : q) : n ≤ m ∧ q := ⟨h1, h2⟩
theorem atWE (h : WE c e G k x) : WE c e G k x := h
theorem atWL (h : WL c es G kl x) : WL c es G kl x := h
theorem atWS {s : Sm} (h : WS c s G N Rt B C x) : WS c s G N Rt B C x := h
theorem atWB {ss : List Sm} (h : WB c ss G N Rt B C x) : WB c ss G N Rt B C x := h
theorem atWO {α : Type} {g : Wt} {o : Option α} {q : α → Prop} (h : WO g o q) : WO g o q := h
theorem atBin {α : Type} {op : Bop} {o : Option α} {q : α → Prop} (h : WO (.bin op) o q) : WO (.bin op) o q := h
theorem atCmp {α : Type} {op : Cop} {o : Option α} {q : α → Prop} (h : WO (.cmp op) o q) : WO (.cmp op) o q := h
theorem atIx {α : Type} {o : Option α} {q : α → Prop} (h : WO .ix o q) : WO .ix o q := h
theorem atBf {α : Type} {f : Bfn} {o : Option α} {q : α → Prop} (h : WO (.bf f) o q) : WO (.bf f) o q := h
theorem atIt {α : Type} {f : Ik} {o : Option α} {q : α → Prop} (h : WO (.it f) o q) : WO (.it f) o q := h
theorem atSl {α : Type} {o : Option α} {q : α → Prop} (h : WO .sl o q) : WO .sl o q := h
theorem wint {n : Int} {q : Prop} (hv : v.tr = some (.int n)) (h : q) : (∃ n : Int, v.tr = some (.int n)) ∧ q := ⟨⟨n, hv⟩, h⟩
theorem atIf {b : Bool} {p q : Prop} (h : WIf b p q) : WIf b p q := h
theorem atBd {g : Ts} (h : WBd c g t G N x) : WBd c g t G N x := h
theorem atMut {m : Mut} (h : WMut m i vs G k) : WMut m i vs G k := h
@[irreducible] def isA (a : String) (ty : List String) : Option Bool := isiAny a ty
theorem wo_isi {ty : List String} {a : String} {u : Bool} {p : Bool → Prop} (h : v.tr.bind T.ty = some a) (h2 : isA a ty = some u) (hk : p u) : WO .isi (isiop v ty) p := by
  refine wo (u := u) ?_ hk
  unfold isiop
  rw [h]
  unfold isA at h2
  exact h2
theorem isT_int_int : isA "int" ["int"] = some true := by unfold isA; decide +kernel
theorem isT_int_bool : isA "int" ["bool"] = some false := by unfold isA; decide +kernel
theorem isT_int_str : isA "int" ["str"] = some false := by unfold isA; decide +kernel
theorem isT_int_tuple : isA "int" ["tuple"] = some false := by unfold isA; decide +kernel
theorem isT_int_list : isA "int" ["list"] = some false := by unfold isA; decide +kernel
theorem isT_int_list_tuple : isA "int" ["list", "tuple"] = some false := by unfold isA; decide +kernel
theorem isT_bool_int : isA "bool" ["int"] = some true := by unfold isA; decide +kernel
theorem isT_bool_bool : isA "bool" ["bool"] = some true := by unfold isA; decide +kernel
theorem isT_bool_str : isA "bool" ["str"] = some false := by unfold isA; decide +kernel
theorem isT_bool_tuple : isA "bool" ["tuple"] = some false := by unfold isA; decide +kernel
theorem isT_bool_list : isA "bool" ["list"] = some false := by unfold isA; decide +kernel
theorem isT_bool_list_tuple : isA "bool" ["list", "tuple"] = some false := by unfold isA; decide +kernel
theorem isT_str_int : isA "str" ["int"] = some false := by unfold isA; decide +kernel
theorem isT_str_bool : isA "str" ["bool"] = some false := by unfold isA; decide +kernel
theorem isT_str_str : isA "str" ["str"] = some true := by unfold isA; decide +kernel
theorem isT_str_tuple : isA "str" ["tuple"] = some false := by unfold isA; decide +kernel
theorem isT_str_list : isA "str" ["list"] = some false := by unfold isA; decide +kernel
theorem isT_str_list_tuple : isA "str" ["list", "tuple"] = some false := by unfold isA; decide +kernel
theorem isT_tuple_int : isA "tuple" ["int"] = some false := by unfold isA; decide +kernel
theorem isT_tuple_bool : isA "tuple" ["bool"] = some false := by unfold isA; decide +kernel
theorem isT_tuple_str : isA "tuple" ["str"] = some false := by unfold isA; decide +kernel
theorem isT_tuple_tuple : isA "tuple" ["tuple"] = some true := by unfold isA; decide +kernel
theorem isT_tuple_list : isA "tuple" ["list"] = some false := by unfold isA; decide +kernel
theorem isT_tuple_list_tuple : isA "tuple" ["list", "tuple"] = some true := by unfold isA; decide +kernel
theorem isT_list_int : isA "list" ["int"] = some false := by unfold isA; decide +kernel
theorem isT_list_bool : isA "list" ["bool"] = some false := by unfold isA; decide +kernel
theorem isT_list_str : isA "list" ["str"] = some false := by unfold isA; decide +kernel
theorem isT_list_tuple : isA "list" ["tuple"] = some false := by unfold isA; decide +kernel
theorem isT_list_list : isA "list" ["list"] = some true := by unfold isA; decide +kernel
theorem isT_list_list_tuple : isA "list" ["list", "tuple"] = some true := by unfold isA; decide +kernel
theorem isT_NoneType_int : isA "NoneType" ["int"] = some false := by unfold isA; decide +kernel
theorem isT_NoneType_bool : isA "NoneType" ["bool"] = some false := by unfold isA; decide +kernel
theorem isT_NoneType_str : isA "NoneType" ["str"] = some false := by unfold isA; decide +kernel
theorem isT_NoneType_tuple : isA "NoneType" ["tuple"] = some false := by unfold isA; decide +kernel
theorem isT_NoneType_list : isA "NoneType" ["list"] = some false := by unfold isA; decide +kernel
theorem isT_NoneType_list_tuple : isA "NoneType" ["list", "tuple"] = some false := by unfold isA; decide +kernel
theorem ao_nil : allOwn [] = some [] := rfl
theorem ao_cons (h : allOwn vs = some ts) : allOwn (.own t :: vs) = some (t :: ts) := by rw [allOwn, h]; rfl
/-! ### slots -/
theorem wset (h : i < G.length) (e : G.set i (some t) = G') (hk : N G') : WSet i t G N := by
  unfold WSet; subst e; exact ⟨h, hk⟩
theorem wbt_nm {p : Sl → Prop} (h : i < G.length) (e : G.set i (some t) = G') (hk : p G') : WO .bt (bindT (.nm i) t G) p := by
  refine wo ?_ hk
  unfold bindT; rw [if_pos h, e]
theorem wbt_tp {p : Sl → Prop} {gs : List Tg} (h : WO .bl (bindL gs ts G) p) : WO .bt (bindT (.tp gs) (.tup ts) G) p := by
  obtain ⟨G1, h1, h2⟩ := h.un
  exact wo (by rw [bindT]; exact h1) h2
theorem wbl_nil {p : Sl → Prop} (h : p G) : WO .bl (bindL [] [] G) p := wo (by rw [bindL]) h
theorem wbl_cons {p : Sl → Prop} {g : Tg} {gs : List Tg} (h : WO .bt (bindT g t G) fun G1 => WO .bl (bindL gs ts G1) p) : WO .bl (bindL (g :: gs) (t :: ts) G) p := by
  obtain ⟨G1, h1, h2⟩ := h.un
  obtain ⟨G2, h3, h4⟩ := h2.un
  exact wo (by rw [bindL, h1]; exact h3) h4
theorem wfm_own {p : T → Prop} (h : p t) : WO .fm (Ev.own t).fm p := wo rfl h
theorem wfm_vw {p : T → Prop} (hf : t.isF = true) (h : p t) : WO .fm (Ev.vw t).fm p := wo (by rw [fm_vw, if_pos hf]) h
/-- a store to a place of a list -/
theorem wst_map {α : Type} {f : α → T} {l : List α} {z : α} {t : T} (h : slotT G i = some (.lst true (l.map f))) (hk : j < l.length) (ht : t.fz = f z) (e : G.set i (some (.lst true ((l.set j z).map f))) = G') (hN : N G') : WSt i (.own (.int (j : Nat))) t G N := by
  unfold WSt
  refine ⟨l.map f, (j : Nat), j, h, rfl, ?_, ?_⟩
  · unfold L2.ixN; simp [hk]
  · rw [ht, ← List.map_set, e]; exact hN
theorem wst_en {α : Type} [Enc α] {l : List α} {z : α} (h : slotT G i = some (.lst true (l.map en))) (hk : j < l.length) (e : G.set i (some (.lst true ((l.set j z).map en))) = G') (hN : N G') : WSt i (.own (.int (j : Nat))) (en z) G N :=
  wst_map h hk (en_fz z) e hN
theorem wst_lit {n : Int} {ts' : List T} (h : slotT G i = some (.lst true ts)) (hk : L2.ixN ts.length n = some j) (e1 : ts.set j t.fz = ts') (e : G.set i (some (.lst true ts')) = G') (hN : N G') : WSt i (.own (.int n)) t G N := by
  unfold WSt
  subst e1; subst e
  exact ⟨ts, n, j, h, rfl, hk, hN⟩

/-! ### operations -/
theorem bin_addN (a b : Nat) : binop .add (.own (.int a)) (.own (.int b)) = some (.own (.int ((a + b : Nat) : Int))) := by
  rw [bin_add]; simp
theorem bin_subN {a b : Nat} (h : b ≤ a) : binop .sub (.own (.int a)) (.own (.int b)) = some (.own (.int ((a - b : Nat) : Int))) := by
  rw [bin_sub]; congr 3; omega
theorem bin_addM {a b : Nat} (h : b ≤ a) : binop .add (.own (.int a)) (.own (.int (-(b : Int)))) = some (.own (.int ((a - b : Nat) : Int))) := by
  rw [bin_add]; congr 3; omega
theorem bin_mulN {a b : Nat} (h1 : a < 2 ^ 255) (h2 : b < 2 ^ 255) : binop .mul (.own (.int a)) (.own (.int b)) = some (.own (.int ((a * b : Nat) : Int))) := by
  rw [mul_ok (by omega) (by omega)]; simp
theorem bin_modN {a b : Nat} (h : 0 < b) : binop .mod (.own (.int a)) (.own (.int b)) = some (.own (.int ((a % b : Nat) : Int))) := by
  rw [bin_mod _ _ (by omega)]; simp
theorem bin_divN {a b : Nat} (h : 0 < b) (h2 : b < 2 ^ 255) : binop .fdiv (.own (.int a)) (.own (.int b)) = some (.own (.int ((a / b : Nat) : Int))) := by
  rw [div_ok (by omega) (by omega)]; simp
theorem cmp_ltN (a b : Nat) : cmpop .lt (.own (.int a)) (.own (.int b)) = some (decide (a < b)) := by rw [cmp_lt]; simp
theorem cmp_leN (a b : Nat) : cmpop .le (.own (.int a)) (.own (.int b)) = some (decide (a ≤ b)) := by rw [cmp_le]; simp
theorem cmp_gtN (a b : Nat) : cmpop .gt (.own (.int a)) (.own (.int b)) = some (decide (b < a)) := by rw [cmp_gt]; simp
theorem cmp_geN (a b : Nat) : cmpop .ge (.own (.int a)) (.own (.int b)) = some (decide (b ≤ a)) := by rw [cmp_ge]; simp
theorem eq_nat (a b : Nat) : eqTT (.int a) (.int b) = some (decide (a = b)) := by
  rw [eq_int]; exact congrArg some (decide_eq_decide.mpr (by omega))
theorem wo_eq {p : Bool → Prop} {u : Bool} (hv : v.tr = some t) (hw : w.tr = some t') (h : eqTT t t' = some u) (hk : p u) : WO (.cmp .eq) (oCmp .eq v w) p := by
  refine wo (u := u) ?_ hk
  rw [oCmp_eq]; unfold cmpop; rw [hv, hw]; exact h
theorem wo_ne {p : Bool → Prop} {u : Bool} (hv : v.tr = some t) (hw : w.tr = some t') (h : eqTT t t' = some u) (hk : p (!u)) : WO (.cmp .ne) (oCmp .ne v w) p := by
  refine wo (u := !u) ?_ hk
  rw [oCmp_eq]; unfold cmpop; rw [hv, hw]
  show (eqTT t t').map _ = _
  rw [h]; rfl
theorem wo_in {p : Bool → Prop} {u : Bool} (hv : v.tr = some t) (hw : w.tr = some t') (h : inOp t t' = some u) (hk : p u) : WO (.cmp .inn) (oCmp .inn v w) p := by
  refine wo (u := u) ?_ hk
  rw [oCmp_eq]; unfold cmpop; rw [hv, hw]; exact h
theorem wo_nin {p : Bool → Prop} {u : Bool} (hv : v.tr = some t) (hw : w.tr = some t') (h : inOp t t' = some u) (hk : p (!u)) : WO (.cmp .nin) (oCmp .nin v w) p := by
  refine wo (u := !u) ?_ hk
  rw [oCmp_eq]; unfold cmpop; rw [hv, hw]
  show (inOp t t').map _ = _
  rw [h]; rfl
theorem eqS_t (y : Str) (h : PyData.strOk y = true) : eqTT (.str y) (.str y) = some true := by rw [eq_str h h]; simp
theorem eqS_f (y z : Str) (h : PyData.strOk y = true) (h' : PyData.strOk z = true) (hn : y ≠ z) : eqTT (.str y) (.str z) = some false := by rw [eq_str h h']; simp [hn]
theorem lk_o {o : Bool} : (Ev.own (.lst o ts)).lk = some ts := rfl
theorem lk_v {o : Bool} (h : isFL ts = true) : (Ev.vw (.lst o ts)).lk = some ts := by show (if isFL ts then some ts else none) = _; rw [if_pos h]
theorem add_lists {o o' : Bool} (hv : v.tr = some (.lst o ts)) (hw : w.tr = some (.lst o' us)) (h1 : v.lk = some ts) (h2 : w.lk = some us) (hl : ts.length + us.length ≤ 16777216) : binop .add v w = some (.own (.lst true (ts ++ us))) := by
  unfold binop
  rw [hv, hw]
  simp only [h1, h2]
  rw [if_pos (by rw [sizeLine_eq]; exact hl)]
theorem add_map {α : Type} {f : α → T} {l l' : List α} {o o' : Bool} (hv : v.tr = some (.lst o (l.map f))) (hw : w.tr = some (.lst o' (l'.map f))) (h1 : v.lk = some (l.map f)) (h2 : w.lk = some (l'.map f)) (hl : l.length + l'.length ≤ 16777216) : binop .add v w = some (.own (.lst true ((l ++ l').map f))) := by
  rw [List.map_append]
  exact add_lists hv hw h1 h2 (by simpa using hl)
theorem add_snoc {α : Type} {f : α → T} {l : List α} {o o' : Bool} (z : α) (hv : v.tr = some (.lst o (l.map f))) (h1 : v.lk = some (l.map f)) (ht : t = f z) (hl : l.length < 16777216) : binop .add v (.own (.lst o' [t])) = some (.own (.lst true ((l ++ [z]).map f))) := by
  subst ht
  exact add_map (l' := [z]) hv rfl h1 rfl (by simp; omega)
theorem range'_cons {a : Nat} {r : List Nat} {i n : Nat} (h : a :: r = List.range' i n) : a = i ∧ 0 < n ∧ r = List.range' (i + 1) (n - 1) := by
  cases n with
  | zero => simp at h
  | succ n =>
    rw [List.range'_succ] at h
    injection h with h1 h2
    exact ⟨h1, by omega, h2⟩
theorem add_strs {y z : Str} (hl : y.length + z.length ≤ 16777216) : binop .add (.own (.str y)) (.own (.str z)) = some (.own (.str (y ++ z))) := by
  show (if y.length + z.length ≤ sizeLine then _ else _) = _
  rw [if_pos (by rw [sizeLine_eq]; exact hl)]
theorem rep_map {α : Type} {f : α → T} {z : α} {n : Nat} (hf : (f z).isF = true) (h : n < 16777216) : binop .mul (.own (.lst true [f z])) (.own (.int (n : Nat))) = some (.own (.lst true ((List.replicate n z).map f))) := by
  show repop [f z] n = _
  unfold repop
  rw [if_pos (by simp [sizeLine_eq, hf]; omega)]
  congr 3
  rw [Int.toNat_natCast]
  clear h
  induction n with
  | zero => rfl
  | succ n ih => rw [List.replicate_succ, List.replicate_succ, List.flatten_cons, List.map_cons, ih]; rfl
theorem ix_mapO {α : Type} {f : α → T} {l : List α} {o : Bool} (h : j < l.length) : ixop (.own (.lst o (l.map f))) (.own (.int (j : Nat))) = some (.own (f l[j])) := by
  rw [ix_lst, atI_nat _ _ (by simpa using h)]; simp [h]
theorem ix_mapV {α : Type} {f : α → T} {l : List α} {o : Bool} (h : j < l.length) (hf : (f l[j]).isF = true) : ixop (.vw (.lst o (l.map f))) (.own (.int (j : Nat))) = some (.own (f l[j])) := by
  rw [ix_lstV, atI_nat _ _ (by simpa using h)]; simp [h, hf]
theorem ix_O {o : Bool} {n : Int} (h : L2.atI ts n = some t) : ixop (.own (.lst o ts)) (.own (.int n)) = some (.own t) := by rw [ix_lst, h]; rfl
theorem ix_V {o : Bool} {n : Int} (h : L2.atI ts n = some t) (hf : t.isF = true) : ixop (.vw (.lst o ts)) (.own (.int n)) = some (.own t) := by rw [ix_lstV, h]; simp [hf]
theorem ix_Vv {o : Bool} {n : Int} (h : L2.atI ts n = some t) (hf : t.isF = false) : ixop (.vw (.lst o ts)) (.own (.int n)) = some (.vw t) := by rw [ix_lstV, h]; simp [hf]
theorem ix_T {n : Int} (h : L2.atI ts n = some t) : ixop (.own (.tup ts)) (.own (.int n)) = some (.own t) := by rw [ix_tup, h]; rfl
theorem ix_Tn (h : j < ts.length) : ixop (.own (.tup ts)) (.own (.int (j : Nat))) = some (.own ts[j]) := ix_T (by rw [atI_nat _ _ h]; simp [h])
theorem ix_On {o : Bool} (h : j < ts.length) : ixop (.own (.lst o ts)) (.own (.int (j : Nat))) = some (.own ts[j]) := ix_O (by rw [atI_nat _ _ h]; simp [h])
theorem s_ix_Tn (h : j < ts.length) : oIx (.own (.tup ts)) (.own (.int (j : Nat))) = some (.own ts[j]) := by rw [oIx_eq]; exact ix_Tn h
theorem s_ix_On {o : Bool} (h : j < ts.length) : oIx (.own (.lst o ts)) (.own (.int (j : Nat))) = some (.own ts[j]) := by rw [oIx_eq]; exact ix_On h
theorem eq_bl (a b : Bool) : eqTT (.bl a) (.bl b) = some (decide (a = b)) := by rw [eq_val rfl rfl]; cases a <;> cases b <;> rfl
theorem eq_non : eqTT .non .non = some true := by rw [eq_val rfl rfl]; rfl
theorem at_last {α : Type} {f : α → T} {l : List α} (h : l ≠ []) : L2.atI (l.map f) (-1) = some (f (l.getLast h)) := by
  obtain ⟨r, z, rfl⟩ : ∃ r z, l = r ++ [z] := ⟨l.dropLast, l.getLast h, (List.dropLast_concat_getLast h).symm⟩
  simp
theorem at_snoc {α : Type} {f : α → T} {l : List α} {z : α} : L2.atI ((l ++ [z]).map f) (-1) = some (f z) := by simp
theorem len_map {α : Type} {f : α → T} {l : List α} (hv : ∃ o, v.tr = some (.lst o (l.map f))) : bfnop .len [v] = some (.own (.int (l.length : Nat))) := by
  obtain ⟨o, hv⟩ := hv
  unfold bfnop
  simp only [hv, Option.bind_some, lenT, List.length_map]
theorem len_l (hv : ∃ o, v.tr = some (.lst o ts)) : bfnop .len [v] = some (.own (.int (ts.length : Nat))) := by
  obtain ⟨o, hv⟩ := hv
  unfold bfnop
  simp only [hv, Option.bind_some, lenT]
theorem len_t (hv : v.tr = some (.tup ts)) : bfnop .len [v] = some (.own (.int (ts.length : Nat))) := by
  unfold bfnop
  simp only [hv, Option.bind_some, lenT]
theorem maxI_nat : ∀ (l : List Nat) (a : Nat), maxI a (l.map fun x : Nat => (x : Int)) = ((l.foldl max a : Nat) : Int)
  | [], a => rfl
  | b :: l, a => by
    rw [List.map_cons, maxI, List.foldl_cons, ← maxI_nat l (max a b)]
    congr 1
    split <;> omega
theorem minI_nat : ∀ (l : List Nat) (a : Nat), minI a (l.map fun x : Nat => (x : Int)) = ((l.foldl min a : Nat) : Int)
  | [], a => rfl
  | b :: l, a => by
    rw [List.map_cons, minI, List.foldl_cons, ← minI_nat l (min a b)]
    congr 1
    split <;> omega
theorem intsOf_nat : ∀ l : List Nat, intsOf (l.map en) = some (l.map fun x : Nat => (x : Int))
  | [] => rfl
  | a :: l => by
    show (intsOf (l.map en)).map ((a : Int) :: ·) = _
    rw [intsOf_nat l]; rfl
theorem max_list {a : Nat} {l : List Nat} (hv : ∃ o, v.tr = some (.lst o ((a :: l).map en))) : bfnop .max [v] = some (.own (.int ((l.foldl max a : Nat) : Int))) := by
  obtain ⟨o, hv⟩ := hv
  unfold bfnop
  have e := intsOf_nat (a :: l)
  simp only [hv, e]
  simp only [List.map_cons, maxI_nat]
theorem min_list {a : Nat} {l : List Nat} (hv : ∃ o, v.tr = some (.lst o ((a :: l).map en))) : bfnop .min [v] = some (.own (.int ((l.foldl min a : Nat) : Int))) := by
  obtain ⟨o, hv⟩ := hv
  unfold bfnop
  have e := intsOf_nat (a :: l)
  simp only [hv, e]
  simp only [List.map_cons, minI_nat]
theorem max_nat (a b : Nat) : bfnop .max [.own (.int a), .own (.int b)] = some (.own (.int ((max a b : Nat) : Int))) := by
  rw [max_int]; congr 3; split <;> omega
theorem min_nat (a b : Nat) : bfnop .min [.own (.int a), .own (.int b)] = some (.own (.int ((min a b : Nat) : Int))) := by
  rw [min_int]; congr 3; split <;> omega
theorem list_l {o : Bool} (hv : v.tr = some (.lst o ts)) (h : v.lk = some ts) : bfnop .list [v] = some (.own (.lst true ts)) := by
  unfold bfnop; simp only [hv, h]; rfl
theorem tuple_l {o : Bool} (hv : v.tr = some (.lst o ts)) (h : v.lk = some ts) : bfnop .tuple [v] = some (.own (.tup ts)) := by
  unfold bfnop; simp only [hv, h]; rfl
theorem list_t (hf : isFL ts = true) : bfnop .list [.own (.tup ts)] = some (.own (.lst true ts)) := rfl
theorem bls_map {α : Type} (f : α → Bool) : ∀ l : List α, blsOf (l.map fun a => T.bl (f a)) = some (l.map f)
  | [] => rfl
  | a :: l => by rw [List.map_cons, blsOf, bls_map f l]; rfl
theorem all_map {α : Type} {f : α → Bool} {l : List α} (hv : ∃ o, v.tr = some (.lst o (l.map fun a => T.bl (f a)))) : bfnop .all [v] = some (.own (.bl (l.all f))) := by
  obtain ⟨o, hv⟩ := hv
  unfold bfnop; simp only [hv, bls_map]; simp [List.all_map]
theorem lrg_ok {n : Nat} (h : n ≤ 16777216) : lrgop (.own (.int n)) = some (.own (.lst true ((List.range n).map en))) := by
  show (if decide (-(2 ^ 62) ≤ (n : Int)) && decide ((n : Int) ≤ 2 ^ 24) then _ else _) = _
  rw [if_pos (by simp; omega), Int.toNat_natCast]
  rfl
theorem wnat {m : Nat} {p : Nat → Prop} (h : p m) : WNat (.own (.int m)) p := by unfold WNat; exact ⟨m, rfl, h⟩
theorem ws_aug_add {n : Nat} (h0 : slotT G i = some (.int n)) (h : WE c e G (fun v G1 => WNat v fun m => WSet i (.int ((n + m : Nat) : Int)) G1 N) x) : WS c (.aug i .add e) G N Rt B C x := by
  refine ws_aug h0 rfl ?_
  unfold WE at *
  refine h.mono fun v G1 h => ?_
  unfold WNat at h
  obtain ⟨m, h1, h2⟩ := h
  exact ⟨m, by rw [h1]; rfl, by simpa using h2⟩
theorem ws_aug_sub {n : Nat} (h0 : slotT G i = some (.int n)) (h : WE c e G (fun v G1 => WNat v fun m => m ≤ n ∧ WSet i (.int ((n - m : Nat) : Int)) G1 N) x) : WS c (.aug i .sub e) G N Rt B C x := by
  refine ws_aug h0 rfl ?_
  unfold WE at *
  refine h.mono fun v G1 h => ?_
  unfold WNat at h
  obtain ⟨m, h1, h3, h2⟩ := h
  exact ⟨m, by rw [h1]; rfl, by
    have e : ((n - m : Nat) : Int) = (n : Int) - m := by omega
    rw [e] at h2; exact h2⟩

/-! ### slices -/
theorem cut_H (ts : List T) (m : Nat) : cutT ts none (some (m : Int)) = ts.take m := by
  unfold cutT
  rw [HT.sIx_nat, HT.sIx_none]
  simp
theorem cut_L (ts : List T) (m : Nat) : cutT ts (some (m : Int)) none = ts.drop m := by
  unfold cutT
  rw [HT.sIx_nat, HT.sIx_none]
  by_cases h : m ≤ ts.length
  · rw [Nat.min_eq_left h]
    exact List.take_of_length_le (by simp)
  · rw [Nat.min_eq_right (by omega), List.drop_eq_nil_of_le (Nat.le_refl _), List.drop_eq_nil_of_le (by omega)]
    simp
theorem cut_B (ts : List T) (a b : Nat) : cutT ts (some (a : Int)) (some (b : Int)) = (ts.drop a).take (b - a) := by
  unfold cutT
  rw [HT.sIx_nat, HT.sIx_nat]
  by_cases h : a ≤ ts.length
  · rw [Nat.min_eq_left h]
    by_cases h2 : b ≤ ts.length
    · rw [Nat.min_eq_left h2]
    · rw [Nat.min_eq_right (by omega), List.take_of_length_le (by simp), List.take_of_length_le (by simp; omega)]
  · rw [Nat.min_eq_right (show ts.length ≤ a by omega), List.drop_eq_nil_of_le (Nat.le_refl _), List.drop_eq_nil_of_le (show ts.length ≤ a by omega)]
    simp
theorem cut_0 (ts : List T) : cutT ts none none = ts := by
  unfold cutT
  rw [HT.sIx_none, HT.sIx_none]
  simp
theorem cut_Hn (ts : List T) : cutT ts none (some (-1)) = ts.dropLast := by
  unfold cutT
  rw [HT.sIx_none, List.dropLast_eq_take]
  simp only [List.drop_zero, Nat.sub_zero]
  congr 1
  unfold HT.sIx
  simp
  omega
theorem cut_Ln (ts : List T) : cutT ts (some (-1)) none = ts.drop (ts.length - 1) := by
  unfold cutT
  rw [HT.sIx_none]
  have e : HT.sIx ts.length 0 (some (-1)) = ts.length - 1 := by
    unfold HT.sIx
    simp
    omega
  rw [e]
  exact List.take_of_length_le (by simp)
section
variable {α : Type} {f : α → T} {l : List α} {o : Bool} {m n : Nat}
theorem slop_l (lo hi : Option Int) (hv : v.tr = some (.lst o ts)) (hk : v.lk = some ts) : slop v lo hi = some (.own (.lst true (cutT ts lo hi))) := by
  unfold slop; simp only [hv, hk, Option.map_some]
theorem sl_H (hv : v.tr = some (.lst o (l.map f))) (hk : v.lk = some (l.map f)) : slHi v (.own (.int (m : Nat))) = some (.own (.lst true ((l.take m).map f))) := by
  show slop v none (some (m : Int)) = _
  rw [slop_l _ _ hv hk, cut_H, List.map_take]
theorem sl_L (hv : v.tr = some (.lst o (l.map f))) (hk : v.lk = some (l.map f)) : slLo v (.own (.int (m : Nat))) = some (.own (.lst true ((l.drop m).map f))) := by
  show slop v (some (m : Int)) none = _
  rw [slop_l _ _ hv hk, cut_L, List.map_drop]
theorem sl_B (hv : v.tr = some (.lst o (l.map f))) (hk : v.lk = some (l.map f)) : slBo v (.own (.int (m : Nat))) (.own (.int (n : Nat))) = some (.own (.lst true (((l.drop m).take (n - m)).map f))) := by
  show slop v (some (m : Int)) (some (n : Int)) = _
  rw [slop_l _ _ hv hk, cut_B, List.map_take, List.map_drop]
theorem sl_0 (hv : v.tr = some (.lst o (l.map f))) (hk : v.lk = some (l.map f)) : slop v none none = some (.own (.lst true (l.map f))) := by
  rw [slop_l _ _ hv hk, cut_0]
theorem sl_Hn (hv : v.tr = some (.lst o (l.map f))) (hk : v.lk = some (l.map f)) : slHi v (.own (.int (-1))) = some (.own (.lst true (l.dropLast.map f))) := by
  show slop v none (some (-1)) = _
  rw [slop_l _ _ hv hk, cut_Hn, List.map_dropLast]
theorem sl_Ln (hv : v.tr = some (.lst o (l.map f))) (hk : v.lk = some (l.map f)) : slLo v (.own (.int (-1))) = some (.own (.lst true ((l.drop (l.length - 1)).map f))) := by
  show slop v (some (-1)) none = _
  rw [slop_l _ _ hv hk, cut_Ln, List.map_drop, List.length_map]
theorem rev_l (hv : v.tr = some (.lst o (l.map f))) (hk : v.lk = some (l.map f)) : revop v = some (.own (.lst true (l.reverse.map f))) := by
  unfold revop; simp only [hv, hk, Option.map_some, List.map_reverse]
end
/-! ### what is gone through -/
theorem it_val {o : Bool} (hf : isFL ts = true) : iterOf .val [.own (.lst o ts)] = some (ts, true) := by
  show some (fzL ts, true) = _
  rw [fzL_isF _ hf]
theorem it_tup (hf : isFL ts = true) : iterOf .val [.own (.tup ts)] = some (ts, true) := by
  show some (fzL ts, true) = _
  rw [fzL_isF _ hf]
theorem it_vw {o : Bool} (hf : isFL ts = true) : iterOf .val [.vw (.lst o ts)] = some (ts, false) := by
  show (if isFL ts then some ts else none).map _ = _
  rw [if_pos hf]; rfl
theorem it_rng {n : Nat} (h : n < 2 ^ 62) : iterOf .rng [.own (.int n)] = some ((List.range n).map en, true) := by
  rw [rng_ok (by omega) (by omega), Int.toNat_natCast]; rfl
theorem it_rng2 {m n : Nat} (h1 : m < 2 ^ 62) (h : n < 2 ^ 62) : iterOf .rng [.own (.int m), .own (.int n)] = some ((List.range' m (n - m)).map en, true) := by
  show (rngOf [.own (.int m), .own (.int n)]).map (·, true) = _
  unfold rngOf
  simp only [List.map_cons, List.map_nil, tr_own]
  rw [if_pos (by simp; omega)]
  simp only [Option.map_some]
  congr 2
  have e : ((n : Int) - m).toNat = n - m := by omega
  rw [e, List.range'_eq_map_range, List.map_map]
  refine List.map_congr_left fun i _ => ?_
  show T.int _ = T.int _
  simp
theorem it_enm {α : Type} [Enc α] {o : Bool} {l : List α} : iterOf .enm [.own (.lst o (l.map en))] = some (l.zipIdx.map fun p => .tup [.int (p.2 : Nat), en p.1], true) := by
  show some (enT (fzL (l.map en)), true) = _
  rw [en_fzl]
  unfold enT
  rw [List.zipIdx_map, List.map_map]
  rfl

/-! ### the same, sealed -/
section
variable {α : Type} {f : α → T} {l : List α} {o : Bool} {m n : Nat}
theorem s_bin_add (i j : Int) : oBin .add (.own (.int i)) (.own (.int j)) = some (.own (.int (i + j))) := by
  rw [oBin_eq]
  first | exact bin_add .. | (apply bin_add <;> first | assumption | (subst_vars; assumption))
theorem s_bin_sub (i j : Int) : oBin .sub (.own (.int i)) (.own (.int j)) = some (.own (.int (i - j))) := by
  rw [oBin_eq]
  first | exact bin_sub .. | (apply bin_sub <;> first | assumption | (subst_vars; assumption))
theorem s_bin_mod (i j : Int) (h : 0 < j) : oBin .mod (.own (.int i)) (.own (.int j)) = some (.own (.int (i % j))) := by
  rw [oBin_eq]
  first | exact bin_mod .. | (apply bin_mod <;> first | assumption | (subst_vars; assumption))
theorem s_bin_pow (i j : Int) (h : 0 ≤ j) (h2 : (i.natAbs.log2 + 1) * j.toNat ≤ 2 ^ 27) : oBin .pow (.own (.int i)) (.own (.int j)) = some (.own (.int (i ^ j.toNat))) := by
  rw [oBin_eq]
  first | exact bin_pow .. | (apply bin_pow <;> first | assumption | (subst_vars; assumption))
theorem s_mul_ok {i j : Int} (h1 : i.natAbs < 2 ^ 255) (h2 : j.natAbs < 2 ^ 255) : oBin .mul (.own (.int i)) (.own (.int j)) = some (.own (.int (i * j))) := by
  rw [oBin_eq]
  first | exact mul_ok .. | (apply mul_ok <;> first | assumption | (subst_vars; assumption))
theorem s_div_ok {i j : Int} (h : 0 < j) (h2 : j.natAbs < 2 ^ 255) : oBin .fdiv (.own (.int i)) (.own (.int j)) = some (.own (.int (i / j))) := by
  rw [oBin_eq]
  first | exact div_ok .. | (apply div_ok <;> first | assumption | (subst_vars; assumption))
theorem s_cmp_lt (i j : Int) : oCmp .lt (.own (.int i)) (.own (.int j)) = some (decide (i < j)) := by
  rw [oCmp_eq]
  first | exact cmp_lt .. | (apply cmp_lt <;> first | assumption | (subst_vars; assumption))
theorem s_cmp_le (i j : Int) : oCmp .le (.own (.int i)) (.own (.int j)) = some (decide (i ≤ j)) := by
  rw [oCmp_eq]
  first | exact cmp_le .. | (apply cmp_le <;> first | assumption | (subst_vars; assumption))
theorem s_cmp_gt (i j : Int) : oCmp .gt (.own (.int i)) (.own (.int j)) = some (decide (j < i)) := by
  rw [oCmp_eq]
  first | exact cmp_gt .. | (apply cmp_gt <;> first | assumption | (subst_vars; assumption))
theorem s_cmp_ge (i j : Int) : oCmp .ge (.own (.int i)) (.own (.int j)) = some (decide (j ≤ i)) := by
  rw [oCmp_eq]
  first | exact cmp_ge .. | (apply cmp_ge <;> first | assumption | (subst_vars; assumption))
theorem s_max_int (i j : Int) : oBf .max [.own (.int i), .own (.int j)] = some (.own (.int (if j > i then j else i))) := by
  rw [oBf_eq]
  first | exact max_int .. | (apply max_int <;> first | assumption | (subst_vars; assumption))
theorem s_min_int (i j : Int) : oBf .min [.own (.int i), .own (.int j)] = some (.own (.int (if j < i then j else i))) := by
  rw [oBf_eq]
  first | exact min_int .. | (apply min_int <;> first | assumption | (subst_vars; assumption))
theorem s_abs_int (i : Int) : oBf .abs [.own (.int i)] = some (.own (.int (if i < 0 then -i else i))) := by
  rw [oBf_eq]
  first | exact abs_int .. | (apply abs_int <;> first | assumption | (subst_vars; assumption))
theorem s_bin_addN (a b : Nat) : oBin .add (.own (.int a)) (.own (.int b)) = some (.own (.int ((a + b : Nat) : Int))) := by
  rw [oBin_eq]
  first | exact bin_addN .. | (apply bin_addN <;> first | assumption | (subst_vars; assumption))
theorem s_bin_subN {a b : Nat} (h : b ≤ a) : oBin .sub (.own (.int a)) (.own (.int b)) = some (.own (.int ((a - b : Nat) : Int))) := by
  rw [oBin_eq]
  first | exact bin_subN .. | (apply bin_subN <;> first | assumption | (subst_vars; assumption))
theorem s_bin_addM {a b : Nat} (h : b ≤ a) : oBin .add (.own (.int a)) (.own (.int (-(b : Int)))) = some (.own (.int ((a - b : Nat) : Int))) := by
  rw [oBin_eq]
  first | exact bin_addM .. | (apply bin_addM <;> first | assumption | (subst_vars; assumption))
theorem s_bin_mulN {a b : Nat} (h1 : a < 2 ^ 255) (h2 : b < 2 ^ 255) : oBin .mul (.own (.int a)) (.own (.int b)) = some (.own (.int ((a * b : Nat) : Int))) := by
  rw [oBin_eq]
  first | exact bin_mulN .. | (apply bin_mulN <;> first | assumption | (subst_vars; assumption))
theorem s_bin_modN {a b : Nat} (h : 0 < b) : oBin .mod (.own (.int a)) (.own (.int b)) = some (.own (.int ((a % b : Nat) : Int))) := by
  rw [oBin_eq]
  first | exact bin_modN .. | (apply bin_modN <;> first | assumption | (subst_vars; assumption))
theorem s_bin_divN {a b : Nat} (h : 0 < b) (h2 : b < 2 ^ 255) : oBin .fdiv (.own (.int a)) (.own (.int b)) = some (.own (.int ((a / b : Nat) : Int))) := by
  rw [oBin_eq]
  first | exact bin_divN .. | (apply bin_divN <;> first | assumption | (subst_vars; assumption))
theorem s_cmp_ltN (a b : Nat) : oCmp .lt (.own (.int a)) (.own (.int b)) = some (decide (a < b)) := by
  rw [oCmp_eq]
  first | exact cmp_ltN .. | (apply cmp_ltN <;> first | assumption | (subst_vars; assumption))
theorem s_cmp_leN (a b : Nat) : oCmp .le (.own (.int a)) (.own (.int b)) = some (decide (a ≤ b)) := by
  rw [oCmp_eq]
  first | exact cmp_leN .. | (apply cmp_leN <;> first | assumption | (subst_vars; assumption))
theorem s_cmp_gtN (a b : Nat) : oCmp .gt (.own (.int a)) (.own (.int b)) = some (decide (b < a)) := by
  rw [oCmp_eq]
  first | exact cmp_gtN .. | (apply cmp_gtN <;> first | assumption | (subst_vars; assumption))
theorem s_cmp_geN (a b : Nat) : oCmp .ge (.own (.int a)) (.own (.int b)) = some (decide (b ≤ a)) := by
  rw [oCmp_eq]
  first | exact cmp_geN .. | (apply cmp_geN <;> first | assumption | (subst_vars; assumption))
theorem s_add_lists {o o' : Bool} (hv : v.tr = some (.lst o ts)) (hw : w.tr = some (.lst o' us)) (h1 : v.lk = some ts) (h2 : w.lk = some us) (hl : ts.length + us.length ≤ 16777216) : oBin .add v w = some (.own (.lst true (ts ++ us))) := by
  rw [oBin_eq]
  first | exact add_lists .. | (apply add_lists <;> first | assumption | (subst_vars; assumption))
theorem s_add_map {α : Type} {f : α → T} {l l' : List α} {o o' : Bool} (hv : v.tr = some (.lst o (l.map f))) (hw : w.tr = some (.lst o' (l'.map f))) (h1 : v.lk = some (l.map f)) (h2 : w.lk = some (l'.map f)) (hl : l.length + l'.length ≤ 16777216) : oBin .add v w = some (.own (.lst true ((l ++ l').map f))) := by
  rw [oBin_eq]
  first | exact add_map .. | (apply add_map <;> first | assumption | (subst_vars; assumption))
theorem s_add_snoc {α : Type} {f : α → T} {l : List α} {o o' : Bool} (z : α) (hv : v.tr = some (.lst o (l.map f))) (h1 : v.lk = some (l.map f)) (ht : t = f z) (hl : l.length < 16777216) : oBin .add v (.own (.lst o' [t])) = some (.own (.lst true ((l ++ [z]).map f))) := by
  rw [oBin_eq]
  first | exact add_snoc .. | (apply add_snoc <;> first | assumption | (subst_vars; assumption))
theorem s_add_strs {y z : Str} (hl : y.length + z.length ≤ 16777216) : oBin .add (.own (.str y)) (.own (.str z)) = some (.own (.str (y ++ z))) := by
  rw [oBin_eq]
  first | exact add_strs .. | (apply add_strs <;> first | assumption | (subst_vars; assumption))
theorem s_rep_map {α : Type} {f : α → T} {z : α} {n : Nat} (hf : (f z).isF = true) (h : n < 16777216) : oBin .mul (.own (.lst true [f z])) (.own (.int (n : Nat))) = some (.own (.lst true ((List.replicate n z).map f))) := by
  rw [oBin_eq]
  first | exact rep_map .. | (apply rep_map <;> first | assumption | (subst_vars; assumption))
theorem s_ix_mapO {α : Type} {f : α → T} {l : List α} {o : Bool} (h : j < l.length) : oIx (.own (.lst o (l.map f))) (.own (.int (j : Nat))) = some (.own (f l[j])) := by
  rw [oIx_eq]
  first | exact ix_mapO .. | (apply ix_mapO <;> first | assumption | (subst_vars; assumption))
theorem s_ix_mapV {α : Type} {f : α → T} {l : List α} {o : Bool} (h : j < l.length) (hf : (f l[j]).isF = true) : oIx (.vw (.lst o (l.map f))) (.own (.int (j : Nat))) = some (.own (f l[j])) := by
  rw [oIx_eq]
  first | exact ix_mapV .. | (apply ix_mapV <;> first | assumption | (subst_vars; assumption))
theorem s_ix_O {o : Bool} {n : Int} (h : L2.atI ts n = some t) : oIx (.own (.lst o ts)) (.own (.int n)) = some (.own t) := by
  rw [oIx_eq]
  first | exact ix_O .. | (apply ix_O <;> first | assumption | (subst_vars; assumption))
theorem s_ix_V {o : Bool} {n : Int} (h : L2.atI ts n = some t) (hf : t.isF = true) : oIx (.vw (.lst o ts)) (.own (.int n)) = some (.own t) := by
  rw [oIx_eq]
  first | exact ix_V .. | (apply ix_V <;> first | assumption | (subst_vars; assumption))
theorem s_ix_Vv {o : Bool} {n : Int} (h : L2.atI ts n = some t) (hf : t.isF = false) : oIx (.vw (.lst o ts)) (.own (.int n)) = some (.vw t) := by
  rw [oIx_eq]
  first | exact ix_Vv .. | (apply ix_Vv <;> first | assumption | (subst_vars; assumption))
theorem s_ix_T {n : Int} (h : L2.atI ts n = some t) : oIx (.own (.tup ts)) (.own (.int n)) = some (.own t) := by
  rw [oIx_eq]
  first | exact ix_T .. | (apply ix_T <;> first | assumption | (subst_vars; assumption))
theorem s_len_map {α : Type} {f : α → T} {l : List α} (hv : ∃ o, v.tr = some (.lst o (l.map f))) : oBf .len [v] = some (.own (.int (l.length : Nat))) := by
  rw [oBf_eq]
  first | exact len_map .. | (apply len_map <;> first | assumption | (subst_vars; assumption))
theorem s_len_l (hv : ∃ o, v.tr = some (.lst o ts)) : oBf .len [v] = some (.own (.int (ts.length : Nat))) := by
  rw [oBf_eq]
  first | exact len_l .. | (apply len_l <;> first | assumption | (subst_vars; assumption))
theorem s_len_t (hv : v.tr = some (.tup ts)) : oBf .len [v] = some (.own (.int (ts.length : Nat))) := by
  rw [oBf_eq]
  first | exact len_t .. | (apply len_t <;> first | assumption | (subst_vars; assumption))
theorem s_max_list {a : Nat} {l : List Nat} (hv : ∃ o, v.tr = some (.lst o ((a :: l).map en))) : oBf .max [v] = some (.own (.int ((l.foldl max a : Nat) : Int))) := by rw [oBf_eq]; exact max_list hv
theorem s_min_list {a : Nat} {l : List Nat} (hv : ∃ o, v.tr = some (.lst o ((a :: l).map en))) : oBf .min [v] = some (.own (.int ((l.foldl min a : Nat) : Int))) := by rw [oBf_eq]; exact min_list hv
theorem s_max_nat (a b : Nat) : oBf .max [.own (.int a), .own (.int b)] = some (.own (.int ((max a b : Nat) : Int))) := by
  rw [oBf_eq]
  first | exact max_nat .. | (apply max_nat <;> first | assumption | (subst_vars; assumption))
theorem s_min_nat (a b : Nat) : oBf .min [.own (.int a), .own (.int b)] = some (.own (.int ((min a b : Nat) : Int))) := by
  rw [oBf_eq]
  first | exact min_nat .. | (apply min_nat <;> first | assumption | (subst_vars; assumption))
theorem s_list_l {o : Bool} (hv : v.tr = some (.lst o ts)) (h : v.lk = some ts) : oBf .list [v] = some (.own (.lst true ts)) := by
  rw [oBf_eq]
  first | exact list_l .. | (apply list_l <;> first | assumption | (subst_vars; assumption))
theorem s_tuple_l {o : Bool} (hv : v.tr = some (.lst o ts)) (h : v.lk = some ts) : oBf .tuple [v] = some (.own (.tup ts)) := by
  rw [oBf_eq]
  first | exact tuple_l .. | (apply tuple_l <;> first | assumption | (subst_vars; assumption))
theorem s_list_t (hf : isFL ts = true) : oBf .list [.own (.tup ts)] = some (.own (.lst true ts)) := by
  rw [oBf_eq]
  first | exact list_t .. | (apply list_t <;> first | assumption | (subst_vars; assumption))
theorem s_all_map {α : Type} {f : α → Bool} {l : List α} (hv : ∃ o, v.tr = some (.lst o (l.map fun a => T.bl (f a)))) : oBf .all [v] = some (.own (.bl (l.all f))) := by
  rw [oBf_eq]
  first | exact all_map .. | (apply all_map <;> first | assumption | (subst_vars; assumption))
theorem s_slop_l (lo hi : Option Int) (hv : v.tr = some (.lst o ts)) (hk : v.lk = some ts) : oSl v lo hi = some (.own (.lst true (cutT ts lo hi))) := by
  rw [oSl_eq]
  first | exact slop_l .. | (apply slop_l <;> first | assumption | (subst_vars; assumption))
theorem s_sl_H (hv : v.tr = some (.lst o (l.map f))) (hk : v.lk = some (l.map f)) : oSlH v (.own (.int (m : Nat))) = some (.own (.lst true ((l.take m).map f))) := by
  rw [oSlH_eq]
  first | exact sl_H .. | (apply sl_H <;> first | assumption | (subst_vars; assumption))
theorem s_sl_L (hv : v.tr = some (.lst o (l.map f))) (hk : v.lk = some (l.map f)) : oSlL v (.own (.int (m : Nat))) = some (.own (.lst true ((l.drop m).map f))) := by
  rw [oSlL_eq]
  first | exact sl_L .. | (apply sl_L <;> first | assumption | (subst_vars; assumption))
theorem s_sl_B (hv : v.tr = some (.lst o (l.map f))) (hk : v.lk = some (l.map f)) : oSlB v (.own (.int (m : Nat))) (.own (.int (n : Nat))) = some (.own (.lst true (((l.drop m).take (n - m)).map f))) := by
  rw [oSlB_eq]
  first | exact sl_B .. | (apply sl_B <;> first | assumption | (subst_vars; assumption))
theorem s_sl_0 (hv : v.tr = some (.lst o (l.map f))) (hk : v.lk = some (l.map f)) : oSl v none none = some (.own (.lst true (l.map f))) := by
  rw [oSl_eq]
  first | exact sl_0 .. | (apply sl_0 <;> first | assumption | (subst_vars; assumption))
theorem s_sl_Hn (hv : v.tr = some (.lst o (l.map f))) (hk : v.lk = some (l.map f)) : oSlH v (.own (.int (-1))) = some (.own (.lst true (l.dropLast.map f))) := by
  rw [oSlH_eq]
  first | exact sl_Hn .. | (apply sl_Hn <;> first | assumption | (subst_vars; assumption))
theorem s_sl_Ln (hv : v.tr = some (.lst o (l.map f))) (hk : v.lk = some (l.map f)) : oSlL v (.own (.int (-1))) = some (.own (.lst true ((l.drop (l.length - 1)).map f))) := by
  rw [oSlL_eq]
  first | exact sl_Ln .. | (apply sl_Ln <;> first | assumption | (subst_vars; assumption))
theorem s_it_val {o : Bool} (hf : isFL ts = true) : oIt .val [.own (.lst o ts)] = some (ts, true) := by
  rw [oIt_eq]
  first | exact it_val .. | (apply it_val <;> first | assumption | (subst_vars; assumption))
theorem s_it_tup (hf : isFL ts = true) : oIt .val [.own (.tup ts)] = some (ts, true) := by
  rw [oIt_eq]
  first | exact it_tup .. | (apply it_tup <;> first | assumption | (subst_vars; assumption))
theorem s_it_vw {o : Bool} (hf : isFL ts = true) : oIt .val [.vw (.lst o ts)] = some (ts, false) := by
  rw [oIt_eq]
  first | exact it_vw .. | (apply it_vw <;> first | assumption | (subst_vars; assumption))
theorem s_it_rng {n : Nat} (h : n < 2 ^ 62) : oIt .rng [.own (.int n)] = some ((List.range n).map en, true) := by
  rw [oIt_eq]
  first | exact it_rng .. | (apply it_rng <;> first | assumption | (subst_vars; assumption))
theorem s_it_rng2 {m n : Nat} (h1 : m < 2 ^ 62) (h : n < 2 ^ 62) : oIt .rng [.own (.int m), .own (.int n)] = some ((List.range' m (n - m)).map en, true) := by
  rw [oIt_eq]
  first | exact it_rng2 .. | (apply it_rng2 <;> first | assumption | (subst_vars; assumption))
theorem s_it_enm {α : Type} [Enc α] {o : Bool} {l : List α} : oIt .enm [.own (.lst o (l.map en))] = some (l.zipIdx.map fun p => .tup [.int (p.2 : Nat), en p.1], true) := by
  rw [oIt_eq]
  first | exact it_enm .. | (apply it_enm <;> first | assumption | (subst_vars; assumption))
end
/-! ### changed lists -/
theorem erase_map {α : Type} (f : α → T) : ∀ (l : List α) (j : Nat), (l.map f).eraseIdx j = (l.eraseIdx j).map f
  | [], j => rfl
  | a :: l, 0 => rfl
  | a :: l, j + 1 => by simp [erase_map f l j]
theorem mutop_popat (ts : List T) (n : Int) (j : Nat) (h1 : -(2 ^ 63) ≤ n) (h2 : n < 2 ^ 63) (h3 : seqIndex? n ts.length = some j) : mutop .pop ts [.own (.int n)] = (ts[j]?).map fun t => (t, ts.eraseIdx j) := by
  have h4 : (decide (-(2 ^ 63) ≤ n) && decide (n < 2 ^ 63)) = true := by rw [decide_eq_true h1, decide_eq_true h2]; rfl
  simp only [mutop, tr_own]
  rw [if_pos h4, h3]
theorem wm_app_map {α : Type} {f : α → T} {l : List α} {z : α} (h : slotT G i = some (.lst true (l.map f))) (hv : v.fm = some t) (ht : t.fz = f z) (hl : l.length < 16777216) (e : G.set i (some (.lst true ((l ++ [z]).map f))) = G') (hk : k (.own .non) G') : WMut .append i [v] G k := by
  unfold WMut
  refine ⟨l.map f, .non, (l ++ [z]).map f, h, ?_, by rw [e]; exact hk⟩
  unfold mutop
  simp only [hv]
  rw [if_pos (by rw [sizeLine_eq]; simpa using hl), ht]
  simp
theorem wm_app1 {α : Type} {f : α → T} {t0 : T} {l : List α} (z : α) (h : slotT G i = some (.lst true (t0 :: l.map f))) (hv : v.fm = some t) (ht : t.fz = f z) (hl : l.length < 16777215) (e : G.set i (some (.lst true (t0 :: (l ++ [z]).map f))) = G') (hk : k (.own .non) G') : WMut .append i [v] G k := by
  unfold WMut
  refine ⟨t0 :: l.map f, .non, t0 :: (l ++ [z]).map f, h, ?_, by rw [e]; exact hk⟩
  unfold mutop
  simp only [hv]
  rw [if_pos (by rw [sizeLine_eq]; simp; omega), ht]
  simp
theorem wm_appO {α : Type} {f : α → T} {l : List α} (z : α) (h : slotT G i = some (.lst true (l.map f))) (ht : t = f z) (hl : l.length < 16777216) (e : G.set i (some (.lst true ((l ++ [z]).map f))) = G') (hk : k (.own .non) G') : WMut .appendO i [.own t] G k := by
  unfold WMut
  refine ⟨l.map f, .non, (l ++ [z]).map f, h, ?_, by rw [e]; exact hk⟩
  unfold mutop
  simp only
  rw [if_pos (by rw [sizeLine_eq]; simpa using hl), ht]
  simp
theorem wm_app_en {α : Type} [Enc α] {l : List α} {z : α} (h : slotT G i = some (.lst true (l.map en))) (hl : l.length < 16777216) (e : G.set i (some (.lst true ((l ++ [z]).map en))) = G') (hk : k (.own .non) G') : WMut .append i [.own (en z)] G k :=
  wm_app_map h rfl (en_fz z) hl e hk
theorem wm_pop_map {α : Type} {f : α → T} {l : List α} (h : slotT G i = some (.lst true (l.map f))) (hl : l ≠ []) (e : G.set i (some (.lst true (l.dropLast.map f))) = G') (hk : k (.own (f (l.getLast hl))) G') : WMut .pop i [] G k := by
  unfold WMut
  refine ⟨l.map f, f (l.getLast hl), l.dropLast.map f, h, ?_, by rw [e]; exact hk⟩
  obtain ⟨r, z, rfl⟩ : ∃ r z, l = r ++ [z] := ⟨l.dropLast, l.getLast hl, (List.dropLast_concat_getLast hl).symm⟩
  simp
theorem wm_pop_snoc {α : Type} {f : α → T} {l : List α} {z : α} (h : slotT G i = some (.lst true ((l ++ [z]).map f))) (e : G.set i (some (.lst true (l.map f))) = G') (hk : k (.own (f z)) G') : WMut .pop i [] G k := by
  unfold WMut
  refine ⟨(l ++ [z]).map f, f z, l.map f, h, ?_, by rw [e]; exact hk⟩
  simp
theorem wm_popat_map {α : Type} {f : α → T} {l : List α} (h : slotT G i = some (.lst true (l.map f))) (hj : j < l.length) (hz : l.length < 2 ^ 62) (e : G.set i (some (.lst true ((l.eraseIdx j).map f))) = G') (hk : k (.own (f l[j])) G') : WMut .pop i [.own (.int (j : Nat))] G k := by
  unfold WMut
  refine ⟨l.map f, f l[j], (l.eraseIdx j).map f, h, ?_, by rw [e]; exact hk⟩
  have h2 : seqIndex? (j : Int) (l.map f).length = some j := by
    have h3 : ¬ ((j : Int) < 0) := by omega
    unfold seqIndex?
    simp [hj, h3]
  rw [mutop_popat _ _ _ (by omega) (by omega) h2]
  simp only [List.getElem?_map, List.getElem?_eq_getElem hj, Option.map_some, erase_map]

/-! ### comprehensions -/
@[irreducible] def WElt (v : Ev) (u : T) (G : Sl) (own : List Nat) (G0 : Sl) : Prop := (∃ t, v.fm = some t ∧ t.fz = u) ∧ outS G own = G0
theorem welt {u : T} {own : List Nat} {G0 : Sl} (h : t.fz = u) (e : outS G own = G0) : WElt (.own t) u G own G0 := by unfold WElt; exact ⟨⟨t, rfl, h⟩, e⟩
theorem welt_vw {u : T} {own : List Nat} {G0 : Sl} (hf : t.isF = true) (h : t.fz = u) (e : outS G own = G0) : WElt (.vw t) u G own G0 := by unfold WElt; exact ⟨⟨t, by rw [fm_vw, if_pos hf], h⟩, e⟩
theorem wlc0 {own : List Nat} {α : Type} {f g : α → T} {l : List α} {G0 : Sl} (turn : ∀ a ∈ l, WO .bt (bindT tg (f a) G0) fun G1 => WE c e G1 (fun v G3 => WElt v (g a) G3 own G0) (fun _ _ _ => False))
    (done : k (.own (.lst true (l.map g))) G') (e0 : outS G own = G0 := by kt_eqs) (eb : backS G0 G own = G' := by kt_eqs) (hl : l.length ≤ 16777216 := by kwd_rel) : WLc c e tg [] own (l.map f) G k x := by
  subst eb
  refine wlc (q := fun _ => true) (g := g) e0 hl (fun a m => ?_) ?_
  · obtain ⟨G1, h1, h2⟩ := (turn a m).un
    refine wo h1 ?_
    simp only [evalAll, RP]
    refine ⟨trivial, fun _ => ?_, fun h => by simp at h⟩
    unfold WE WElt at *
    exact h2
  · have e : l.filter (fun _ => true) = l := List.filter_eq_self.mpr fun _ _ => rfl
    rw [e]; exact done
theorem wlc1 {own : List Nat} {α : Type} {f g : α → T} {q : α → Bool} {l : List α} {G0 : Sl} (turn : ∀ a ∈ l, WO .bt (bindT tg (f a) G0) fun G1 => WE c d G1 (fun w G2 => WO .tru w.truth fun u => u = q a ∧ (q a = true → WE c e G2 (fun v G3 => WElt v (g a) G3 own G0) (fun _ _ _ => False)) ∧ (q a = false → outS G2 own = G0)) (fun _ _ _ => False))
    (done : k (.own (.lst true ((l.filter q).map g))) G') (e0 : outS G own = G0 := by kt_eqs) (eb : backS G0 G own = G' := by kt_eqs) (hl : l.length ≤ 16777216 := by kwd_rel) : WLc c e tg [d] own (l.map f) G k x := by
  subst eb
  refine wlc (q := q) (g := g) e0 hl (fun a m => ?_) done
  obtain ⟨G1, h1, h2⟩ := (turn a m).un
  refine wo h1 ?_
  simp only [evalAll]
  refine RP.bd (h2.un.mono fun w G2 h3 => ?_)
  obtain ⟨u, h4, h5, h6, h7⟩ := h3.un
  rw [h4]
  subst h5
  have h6' : q a = true → WE c e G2 (fun v G3 => (∃ t, v.fm = some t ∧ t.fz = g a) ∧ outS G3 own = G0) (fun _ _ _ => False) := by
    intro z
    have := h6 z
    unfold WE WElt at *
    exact this
  cases hq : q a with
  | true => rw [hq] at h6'; exact ⟨rfl, h6', fun z => by cases z⟩
  | false => rw [hq] at h7; exact ⟨rfl, fun z => (by cases z), h7⟩
/-! ### calls -/
def Call (p : Pg) (n : Nat) (f : Str) (ts : List T) (P : T → List T → Prop) (X : Str → Prop) : Prop := match phi p n f ts with
  | .ret t us => P t us
  | .exc n _ => X n
  | .no => False
abbrev noX : Str → Prop := fun _ => False
theorem Call.mono {p : Pg} {n : Nat} {f : Str} {ts : List T} {P P' : T → List T → Prop} {X : Str → Prop} (h : Call p n f ts P X) (hp : ∀ t us, P t us → P' t us) : Call p n f ts P' X := by
  unfold Call at *
  revert h
  cases phi p n f ts with
  | ret t us => exact hp t us
  | exc n _ => exact id
  | no => exact id
theorem Call.eq {p : Pg} {n : Nat} {f : Str} {ts : List T} {P : T → List T → Prop} (h : Call p n f ts P noX) : ∃ t us, P t us ∧ phi p n f ts = .ret t us := by
  unfold Call at h
  revert h
  cases e : phi p n f ts with
  | ret t us => intro h; exact ⟨t, us, h, rfl⟩
  | exc n _ => intro h; exact h.elim
  | no => intro h; exact h.elim
theorem Call.ofEq {p : Pg} {n : Nat} {f : Str} {ts us : List T} {t : T} {P : T → List T → Prop} {X : Str → Prop} (h : phi p n f ts = .ret t us) (hp : P t us) : Call p n f ts P X := by
  unfold Call; rw [h]; exact hp
/-- what is handed over by value -/
theorem av_nil : allVw [] = some [] := rfl
theorem av_own (hf : t.isF = true) (h : allVw vs = some ts) : allVw (.own t :: vs) = some (t :: ts) := by rw [allVw, h, T.fz_isF _ hf]; rfl
theorem av_lo {α : Type} [Enc α] {l : List α} (h : allVw vs = some ts) : allVw (.own (.lst true (l.map en)) :: vs) = some (.lst false (l.map en) :: ts) := by rw [allVw, h]; simp [en_fzl]
theorem av_any (e : t.fz = t') (h : allVw vs = some ts) : allVw (.own t :: vs) = some (t' :: ts) := by rw [allVw, h, e]; rfl
theorem av_vw (e : t.fz = t') (h : allVw vs = some ts) : allVw (.vw t :: vs) = some (t' :: ts) := by rw [allVw, h, e]; rfl
theorem wc {p : Pg} {n : Nat} {f : Str} {P : T → List T → Prop} {X : Str → Prop} (h : Call p n f ts P X) (hk : ∀ t us, P t us → k (.own t) G) (ha : allVw vs = some ts := by kt_len) (ho : (allOwn vs).isSome = true := by rfl) (hx : ∀ n q, X n → x n q G := by exact fun _ _ h => h.elim) : WCall (phi p n) f vs G k x := by
  unfold WCall callE Call at *
  rw [ha]
  simp only
  revert h
  cases phi p n f ts with
  | ret t us => intro h; simp only [ho, Bool.true_or, if_true]; exact hk _ _ h
  | exc n q => intro h; exact hx _ _ h
  | no => intro h; exact h
theorem wcn {p : Pg} {n : Nat} {f : Str} {P : T → List T → Prop} {X : Str → Prop} (h : Call p n f ts P X) (hk : ∀ t us, P t us → t.noF = true ∧ k (.own t) G) (ha : allVw vs = some ts := by kt_len) (hx : ∀ n q, X n → x n q G := by exact fun _ _ h => h.elim) : WCall (phi p n) f vs G k x := by
  unfold WCall callE Call at *
  rw [ha]
  simp only
  revert h
  cases phi p n f ts with
  | ret t us => intro h; simp only [(hk _ _ h).1, Bool.or_true, if_true]; exact (hk _ _ h).2
  | exc n q => intro h; exact hx _ _ h
  | no => intro h; exact h
/-- .. that tell one thing -/
abbrev Det (p : Pg) (n : Nat) (f : Str) (ts : List T) (v : T) : Prop := Call p n f ts (fun t _ => t = v) noX
theorem wcd {p : Pg} {n : Nat} {f : Str} (h : Det p n f ts t) (hk : k (.own t) G) (ha : allVw vs = some ts := by kt_len) (ho : ((allOwn vs).isSome || t.noF) = true := by rfl) : WCall (phi p n) f vs G k x := by
  by_cases h1 : (allOwn vs).isSome = true
  · exact wc h (fun _ _ e => by rw [e]; exact hk) ha h1 (fun _ _ h => h.elim)
  · refine wcn h (fun _ _ e => ⟨?_, by rw [e]; exact hk⟩) ha (fun _ _ h => h.elim)
    rw [e]
    simpa [h1] using ho
@[irreducible] def WPar (o : Option (List T)) (q : List T → Prop) : Prop := ∃ us, o = some us ∧ q us
theorem wpar {o : Option (List T)} {q : List T → Prop} (e : o = some us) (h : q us) : WPar o q := by unfold WPar; exact ⟨us, e, h⟩
theorem WPar.un {o : Option (List T)} {q : List T → Prop} (h : WPar o q) : ∃ us, o = some us ∧ q us := by unfold WPar at h; exact h
@[irreducible] def WRf (o : Option Sl) (q : Sl → Prop) : Prop := ∃ G, o = some G ∧ q G
theorem wrf {o : Option Sl} {q : Sl → Prop} (e : o = some G') (e2 : G' = G) (h : q G) : WRf o q := by unfold WRf; subst e2; exact ⟨_, e, h⟩
/-- .. handed on by name -/
theorem wcr {p : Pg} {n : Nat} {f : Str} {P : T → List T → Prop} (h : Call p n f ts P noX) (hk : ∀ t us, P t us → WRf (setRf G vs us) fun G' => k (.own t) G') (h0 : allVw vs = none := by rfl) (ha : allRf G vs = some ts := by rfl) : WCall (phi p n) f vs G k x := by
  unfold WCall callE Call at *
  rw [h0]
  simp only [ha]
  revert h
  cases phi p n f ts with
  | ret t us =>
    intro h
    have h2 := hk _ _ h
    unfold WRf at h2
    obtain ⟨G', e, h⟩ := h2
    simp only [e]; exact h
  | exc n q => intro h; exact h.elim
  | no => intro h; exact h

/-! ### a def is opened -/
structure Dc where
  N : List Str
  ps : List Str
  rf : List Nat
  body : List Sm
def Df.of (f : Str) (st : Stmt) (d : Dc) : Df := ⟨f, f, st, d.N, d.ps, d.rf, d.body⟩
def Hs (p : Pg) (f : Str) (d : Dc) : Prop := ∃ st, p.find f = some (Df.of f st d)
theorem opn {p : Pg} {f : Str} {dc : Dc} (hs : Hs p f dc) {n : Nat} {ts : List T} {P : T → List T → Prop} {X : Str → Prop} (hl : ts.length = dc.ps.length) (ha : argOk dc.rf 0 ts = true) (hG : ts.map some ++ List.replicate (dc.N.length - dc.ps.length) none = G)
    (h : WB ⟨phi p n, p.gl, p.fu⟩ dc.body G (fun G1 => WPar (parB dc.rf 0 ts G1) (P .non)) (fun t G1 => WPar (parB dc.rf 0 ts G1) (P t)) (fun _ => False) (fun _ => False) (fun n _ _ => isFL ts = true ∧ X n)) : Call p (n + 1) f ts P X := by
  obtain ⟨st, hf⟩ := hs
  unfold Call
  rw [phi_def hf]
  unfold callB
  rw [if_pos ⟨hl, ha⟩]
  have h1 := h.un
  have e : initG (Df.of f st dc) ts = G := hG
  rw [e]
  show match (match evalSs (phi p n) p.gl p.fu dc.body G with
    | .nx G => (match parB dc.rf 0 ts G with
      | some us => .ret .non us
      | none => .no)
    | .ret t G => (match parB dc.rf 0 ts G with
      | some us => .ret t us
      | none => .no)
    | .exc c p _ => if isFL ts then .exc c p else .no
    | _ => .no : FR) with
  | .ret t us => P t us
  | .exc n _ => X n
  | .no => False
  revert h1
  show SRP (evalSs (phi p n) p.gl p.fu dc.body G) _ _ _ _ _ → _
  cases evalSs (phi p n) p.gl p.fu dc.body G with
  | nx G1 => intro h; obtain ⟨us, h2, h3⟩ := h.un; simp only [h2]; exact h3
  | ret t G1 => intro h; obtain ⟨us, h2, h3⟩ := h.un; simp only [h2]; exact h3
  | brk G1 => intro h; exact h
  | cnt G1 => intro h; exact h
  | exc a q G1 => intro ⟨h2, h3⟩; simp only [h2, if_true]; exact h3
  | no => intro h; exact h
theorem parB_nil : ∀ (i : Nat) (ts : List T) (G : Sl), ts.length ≤ G.length → parB [] i ts G = some ts
  | i, [], G, _ => by cases G <;> rfl
  | i, t :: ts, [], h => by simp at h
  | i, t :: ts, o :: G, h => by
    simp only [parB, List.contains_nil, Bool.false_eq_true, if_false, Option.bind_some]
    rw [parB_nil (i + 1) ts G (by simpa using h)]; rfl
theorem argOk_nil : ∀ (i : Nat) (ts : List T), isFL ts = true → argOk [] i ts = true
  | i, [], _ => rfl
  | i, t :: ts, h => by
    simp only [isFL, Bool.and_eq_true] at h
    simp only [argOk, List.contains_nil, Bool.false_or, Bool.and_eq_true]
    exact ⟨h.1, argOk_nil (i + 1) ts h.2⟩
/-- .. that hands nothing on by name -/
theorem opn0 {p : Pg} {f : Str} {dc : Dc} (hs : Hs p f dc) {n : Nat} {ts : List T} {P : T → List T → Prop} {X : Str → Prop} (hrf : dc.rf = []) (hl : ts.length = dc.ps.length) (ha : isFL ts = true) (hG : ts.map some ++ List.replicate (dc.N.length - dc.ps.length) none = G)
    (h : WB ⟨phi p n, p.gl, p.fu⟩ dc.body G (fun G1 => ts.length ≤ G1.length ∧ P .non ts) (fun t G1 => ts.length ≤ G1.length ∧ P t ts) (fun _ => False) (fun _ => False) (fun n _ _ => X n)) : Call p (n + 1) f ts P X := by
  refine opn hs hl (by rw [hrf]; exact argOk_nil _ _ ha) hG ?_
  unfold WB at *
  revert h
  show SRP (evalSs (phi p n) p.gl p.fu dc.body G) _ _ _ _ _ → SRP (evalSs (phi p n) p.gl p.fu dc.body G) _ _ _ _ _
  rw [hrf]
  cases evalSs (phi p n) p.gl p.fu dc.body G with
  | nx G1 => intro h; exact wpar (parB_nil _ _ _ h.1) h.2
  | ret t G1 => intro h; exact wpar (parB_nil _ _ _ h.1) h.2
  | brk G1 => intro h; exact h
  | cnt G1 => intro h; exact h
  | exc a q G1 => intro h; exact ⟨ha, h⟩
  | no => intro h; exact h
end
end QX

set_option Elab.async false
set_option linter.all false
set_option maxRecDepth 100000
namespace QX
open PySem
def c__law_sack : Dc := ⟨["_law_script", "_law_k", "_law_cell"], ["_law_script", "_law_k"], [],
    [.asg (.nm 2) (.int 0),
      .iff (.cmp .lt (.var 1) (.bfn .len [(.var 0)])) [.frz 2 (.asg (.nm 2) (.ix (.var 0) (.var 1)))] [],
      .ret (.lst [(.bfn .max [(.int 0), (.bin .sub (.bfn .abs [(.var 2)]) (.bin .pow (.int 10) (.int 18)))]), (.bin .add (.bin .mod (.var 2) (.bin .add (.bin .pow (.int 10) (.int 38)) (.int 133))) (.bin .mul (.int 24593) (.var 1))), (.int 0)])]⟩
structure U__law_sack (p : Pg) : Prop where
  s : Hs p "_law_sack" c__law_sack
theorem o__law_sack {p : Pg} (u : U__law_sack p) {n : Nat} {t0 t1 : T} {P : T → List T → Prop} {X : Str → Prop} (h : WB ⟨phi p n, p.gl, p.fu⟩ c__law_sack.body [some t0, some t1, none] (fun G1 => 2 ≤ G1.length ∧ P .non [t0, t1]) (fun t G1 => 2 ≤ G1.length ∧ P t [t0, t1]) (fun _ => False) (fun _ => False) (fun n _ _ => X n)) (ha : isFL [t0, t1] = true := by ktr_rel) : Call p (n + 1) "_law_sack" [t0, t1] P X := opn0 u.s rfl rfl ha rfl h
def c__law_grab : Dc := ⟨["_law_sack_here", "_law_wide", "_law_found", "_law_mixed_here"], ["_law_sack_here", "_law_wide"], [0],
    [.iff (.cmp .gt (.ix (.var 0) (.int 0)) (.int 0)) [.asg (.nm 2) (.bin .mod (.ix (.var 0) (.int 0)) (.var 1)),
      .asg (.sb 0 (.int 0)) (.bin .fdiv (.ix (.var 0) (.int 0)) (.var 1)),
      .ret (.mov 2)] [],
      .asg (.sb 0 (.int 2)) (.bin .add (.ix (.var 0) (.int 2)) (.int 1)),
      .asg (.nm 3) (.bin .mod (.bin .pow (.bin .add (.ix (.var 0) (.int 1)) (.bin .mul (.int 32452867) (.ix (.var 0) (.int 2)))) (.int 3)) (.bin .add (.bin .pow (.int 10) (.int 36)) (.int 67))),
      .asg (.nm 3) (.bin .mod (.bin .pow (.bin .add (.var 3) (.bin .mul (.int 86028157) (.ix (.var 0) (.int 2)))) (.int 3)) (.bin .add (.bin .pow (.int 10) (.int 37)) (.int 9))),
      .ret (.bin .mod (.bin .fdiv (.var 3) (.int 262139)) (.var 1))]⟩
structure U__law_grab (p : Pg) : Prop where
  s : Hs p "_law_grab" c__law_grab
theorem o__law_grab {p : Pg} (u : U__law_grab p) {n : Nat} {t0 t1 : T} {P : T → List T → Prop} {X : Str → Prop} (h : WB ⟨phi p n, p.gl, p.fu⟩ c__law_grab.body [some t0, some t1, none, none] (fun G1 => WPar (parB c__law_grab.rf 0 [t0, t1] G1) (P .non)) (fun t G1 => WPar (parB c__law_grab.rf 0 [t0, t1] G1) (P t)) (fun _ => False) (fun _ => False) (fun n _ _ => isFL [t0, t1] = true ∧ X n)) (ha : argOk c__law_grab.rf 0 [t0, t1] = true := by top_args) : Call p (n + 1) "_law_grab" [t0, t1] P X := opn u.s rfl ha rfl h
def c__law_mixed_v1 : Dc := ⟨["_law_sack_here", "_law_things", "_law_spare", "_law_k"], ["_law_sack_here", "_law_things"], [0],
    [.asg (.nm 2) (.bfn .list [(.var 1)]),
      .ret (.lc (.mut .pop 2 [(.cal "_law_grab" [(.ref 0), (.bfn .len [(.var 2)])])]) (.nm 3) .rng [(.bfn .len [(.var 1)])] [] [3])]⟩
structure U__law_mixed_v1 (p : Pg) : Prop where
  s : Hs p "_law_mixed" c__law_mixed_v1
  _law_grab : U__law_grab p
theorem o__law_mixed_v1 {p : Pg} (u : U__law_mixed_v1 p) {n : Nat} {t0 t1 : T} {P : T → List T → Prop} {X : Str → Prop} (h : WB ⟨phi p n, p.gl, p.fu⟩ c__law_mixed_v1.body [some t0, some t1, none, none] (fun G1 => WPar (parB c__law_mixed_v1.rf 0 [t0, t1] G1) (P .non)) (fun t G1 => WPar (parB c__law_mixed_v1.rf 0 [t0, t1] G1) (P t)) (fun _ => False) (fun _ => False) (fun n _ _ => isFL [t0, t1] = true ∧ X n)) (ha : argOk c__law_mixed_v1.rf 0 [t0, t1] = true := by top_args) : Call p (n + 1) "_law_mixed" [t0, t1] P X := opn u.s rfl ha rfl h
def c__law_names_v1 : Dc := ⟨["_law_sack_here", "_law_size", "_law_signs", "_law_some", "_law_k", "_law_way", "_law_one"], ["_law_sack_here", "_law_size"], [0],
    [.asg (.nm 2) (.str "abcdefghijklmnopqrstuvwxyz"),
      .frz 3 (.asl 3 (.lc (.bin .add (.ix (.var 2) (.bin .fdiv (.var 4) (.int 26))) (.ix (.var 2) (.bin .mod (.var 4) (.int 26)))) (.nm 4) .rng [(.var 1)] [] [4])),
      .frz 5 (.asg (.nm 5) (.cal "_law_grab" [(.ref 0), (.int 4)])),
      .iff (.cmp .eq (.var 5) (.int 0)) [.frz 3 (.asl 3 (.lc (.bin .add (.str "zz") (.var 6)) (.nm 6) .val [(.var 3)] [] [6]))] [],
      .iff (.cmp .eq (.var 5) (.int 1)) [.frz 3 (.asl 3 (.lc (.bin .add (.ix (.var 6) (.int 1)) (.ix (.var 6) (.int 0))) (.nm 6) .val [(.var 3)] [] [6]))] [],
      .iff (.cmp .eq (.var 5) (.int 2)) [.frz 3 (.asg (.nm 3) (.slH (.bin .add (.lst [(.str "in"), (.str "out"), (.str "off"), (.str "put"), (.str "a"), (.str "b"), (.str "x"), (.str "zzzz"), (.str "aaaa"), (.str "z")]) (.lc (.bin .add (.var 6) (.str "q")) (.nm 6) .val [(.var 3)] [] [6])) (.var 1)))] [],
      .ret (.cal "_law_mixed" [(.ref 0), (.shr 3)])]⟩
structure U__law_names_v1 (p : Pg) : Prop where
  s : Hs p "_law_names" c__law_names_v1
  _law_grab : U__law_grab p
  _law_mixed : U__law_mixed_v1 p
theorem o__law_names_v1 {p : Pg} (u : U__law_names_v1 p) {n : Nat} {t0 t1 : T} {P : T → List T → Prop} {X : Str → Prop} (h : WB ⟨phi p n, p.gl, p.fu⟩ c__law_names_v1.body [some t0, some t1, none, none, none, none, none] (fun G1 => WPar (parB c__law_names_v1.rf 0 [t0, t1] G1) (P .non)) (fun t G1 => WPar (parB c__law_names_v1.rf 0 [t0, t1] G1) (P t)) (fun _ => False) (fun _ => False) (fun n _ _ => isFL [t0, t1] = true ∧ X n)) (ha : argOk c__law_names_v1.rf 0 [t0, t1] = true := by top_args) : Call p (n + 1) "_law_names" [t0, t1] P X := opn u.s rfl ha rfl h
def c__law_take_v1 : Dc := ⟨["_law_bag_here", "_law_many", "_law_found", "_law_mixed"], ["_law_bag_here", "_law_many"], [0],
    [.iff (.cmp .gt (.ix (.var 0) (.int 0)) (.int 1)) [.asg (.nm 2) (.bin .mod (.ix (.var 0) (.int 0)) (.var 1)),
      .asg (.sb 0 (.int 0)) (.bin .fdiv (.ix (.var 0) (.int 0)) (.var 1)),
      .ret (.mov 2)] [],
      .asg (.sb 0 (.int 2)) (.bin .add (.ix (.var 0) (.int 2)) (.int 1)),
      .asg (.nm 3) (.bin .mod (.bin .pow (.bin .add (.ix (.var 0) (.int 1)) (.bin .mul (.int 1299709) (.ix (.var 0) (.int 2)))) (.int 3)) (.int 162259276829213363391578010288127)),
      .asg (.nm 3) (.bin .mod (.bin .pow (.bin .add (.var 3) (.bin .mul (.int 15485863) (.ix (.var 0) (.int 2)))) (.int 5)) (.int 618970019642690137449562111)),
      .ret (.bin .mod (.bin .fdiv (.var 3) (.int 1048576)) (.var 1))]⟩
structure U__law_take_v1 (p : Pg) : Prop where
  s : Hs p "_law_take" c__law_take_v1
theorem o__law_take_v1 {p : Pg} (u : U__law_take_v1 p) {n : Nat} {t0 t1 : T} {P : T → List T → Prop} {X : Str → Prop} (h : WB ⟨phi p n, p.gl, p.fu⟩ c__law_take_v1.body [some t0, some t1, none, none] (fun G1 => WPar (parB c__law_take_v1.rf 0 [t0, t1] G1) (P .non)) (fun t G1 => WPar (parB c__law_take_v1.rf 0 [t0, t1] G1) (P t)) (fun _ => False) (fun _ => False) (fun n _ _ => isFL [t0, t1] = true ∧ X n)) (ha : argOk c__law_take_v1.rf 0 [t0, t1] = true := by top_args) : Call p (n + 1) "_law_take" [t0, t1] P X := opn u.s rfl ha rfl h
def c__law_names_v2 : Dc := ⟨["_law_bag_here", "_law_many", "_law_found", "_law_alphabet", "_law_name", "_law_k", "_law_count"], ["_law_bag_here", "_law_many"], [0],
    [.asg (.nm 2) (.lst []),
      .asg (.nm 3) (.str "abcdefghijklmnopqrstuvwxyz"),
      .whl (.cmp .lt (.bfn .len [(.var 2)]) (.var 1)) [.asg (.nm 4) (.str ""),
      .frr (.nm 5) .rng [(.bin .add (.int 1) (.cal "_law_take" [(.ref 0), (.int 4)]))] [.frz 4 (.asg (.nm 4) (.bin .add (.shr 4) (.ix (.shr 3) (.cal "_law_take" [(.ref 0), (.int 26)]))))],
      .iff (.cmp .nin (.var 4) (.var 2)) [.exp (.mut .append 2 [(.var 4)])] [.asg (.nm 6) (.int 0),
      .whl (.cmp .inn (.bin .add (.ix (.var 3) (.bin .fdiv (.var 6) (.int 26))) (.ix (.var 3) (.bin .mod (.var 6) (.int 26)))) (.var 2)) [.asg (.nm 6) (.bin .add (.var 6) (.int 1))],
      .exp (.mut .append 2 [(.bin .add (.ix (.var 3) (.bin .fdiv (.var 6) (.int 26))) (.ix (.var 3) (.bin .mod (.var 6) (.int 26))))])]],
      .ret (.mov 2)]⟩
structure U__law_names_v2 (p : Pg) : Prop where
  s : Hs p "_law_names" c__law_names_v2
  _law_take : U__law_take_v1 p
theorem o__law_names_v2 {p : Pg} (u : U__law_names_v2 p) {n : Nat} {t0 t1 : T} {P : T → List T → Prop} {X : Str → Prop} (h : WB ⟨phi p n, p.gl, p.fu⟩ c__law_names_v2.body [some t0, some t1, none, none, none, none, none] (fun G1 => WPar (parB c__law_names_v2.rf 0 [t0, t1] G1) (P .non)) (fun t G1 => WPar (parB c__law_names_v2.rf 0 [t0, t1] G1) (P t)) (fun _ => False) (fun _ => False) (fun n _ _ => isFL [t0, t1] = true ∧ X n)) (ha : argOk c__law_names_v2.rf 0 [t0, t1] = true := by top_args) : Call p (n + 1) "_law_names" [t0, t1] P X := opn u.s rfl ha rfl h
def c__law_draw : Dc := ⟨["_law_bag_here", "_law_sides", "_law_digit"], ["_law_bag_here", "_law_sides"], [0],
    [.iff (.cmp .gt (.ix (.var 0) (.int 0)) (.int 1)) [.asg (.nm 2) (.bin .mod (.ix (.var 0) (.int 0)) (.var 1)),
      .asg (.sb 0 (.int 0)) (.bin .fdiv (.ix (.var 0) (.int 0)) (.var 1)),
      .ret (.mov 2)] [],
      .asg (.sb 0 (.int 2)) (.bin .add (.ix (.var 0) (.int 2)) (.int 1)),
      .asg (.nm 2) (.bin .mod (.bin .pow (.bin .add (.ix (.var 0) (.int 1)) (.bin .mul (.ix (.var 0) (.int 2)) (.int 982451653))) (.int 5)) (.bin .add (.bin .pow (.int 10) (.int 39)) (.int 3))),
      .asg (.nm 2) (.bin .mod (.bin .pow (.bin .add (.var 2) (.bin .mul (.ix (.var 0) (.int 2)) (.int 15485863))) (.int 3)) (.bin .add (.bin .pow (.int 10) (.int 36)) (.int 67))),
      .ret (.bin .mod (.bin .fdiv (.var 2) (.int 1024)) (.var 1))]⟩
structure U__law_draw (p : Pg) : Prop where
  s : Hs p "_law_draw" c__law_draw
theorem o__law_draw {p : Pg} (u : U__law_draw p) {n : Nat} {t0 t1 : T} {P : T → List T → Prop} {X : Str → Prop} (h : WB ⟨phi p n, p.gl, p.fu⟩ c__law_draw.body [some t0, some t1, none] (fun G1 => WPar (parB c__law_draw.rf 0 [t0, t1] G1) (P .non)) (fun t G1 => WPar (parB c__law_draw.rf 0 [t0, t1] G1) (P t)) (fun _ => False) (fun _ => False) (fun n _ _ => isFL [t0, t1] = true ∧ X n)) (ha : argOk c__law_draw.rf 0 [t0, t1] = true := by top_args) : Call p (n + 1) "_law_draw" [t0, t1] P X := opn u.s rfl ha rfl h
def c__law_mixed_v2 : Dc := ⟨["_law_bag_here", "_law_line", "_law_stock", "_law_k"], ["_law_bag_here", "_law_line"], [0],
    [.asg (.nm 2) (.bfn .list [(.var 1)]),
      .ret (.bfn .tuple [(.lc (.mut .pop 2 [(.cal "_law_draw" [(.ref 0), (.bfn .len [(.var 2)])])]) (.nm 3) .val [(.var 1)] [] [3])])]⟩
structure U__law_mixed_v2 (p : Pg) : Prop where
  s : Hs p "_law_mixed" c__law_mixed_v2
  _law_draw : U__law_draw p
theorem o__law_mixed_v2 {p : Pg} (u : U__law_mixed_v2 p) {n : Nat} {t0 t1 : T} {P : T → List T → Prop} {X : Str → Prop} (h : WB ⟨phi p n, p.gl, p.fu⟩ c__law_mixed_v2.body [some t0, some t1, none, none] (fun G1 => WPar (parB c__law_mixed_v2.rf 0 [t0, t1] G1) (P .non)) (fun t G1 => WPar (parB c__law_mixed_v2.rf 0 [t0, t1] G1) (P t)) (fun _ => False) (fun _ => False) (fun n _ _ => isFL [t0, t1] = true ∧ X n)) (ha : argOk c__law_mixed_v2.rf 0 [t0, t1] = true := by top_args) : Call p (n + 1) "_law_mixed" [t0, t1] P X := opn u.s rfl ha rfl h
def c__law_deeds_v1 : Dc := ⟨["_law_sack_here", "_law_line", "_law_pool", "_law_most", "_law_people", "_law_found", "_law_k", "_law_fresh", "_law_one", "_law_spot", "_law_last"], ["_law_sack_here", "_law_line", "_law_pool", "_law_most"], [0],
    [.asg (.nm 4) (.bfn .list [(.var 1)]),
      .asg (.nm 5) (.lst []),
      .frr (.nm 6) .rng [(.cal "_law_grab" [(.ref 0), (.bin .add (.var 3) (.int 1))])] [.frz 7 (.asl 7 (.lc (.var 8) (.nm 8) .val [(.var 2)] [(.cmp .nin (.var 8) (.var 4))] [8])),
      .iff (.or [(.cmp .eq (.var 4) (.lst [])), (.and [(.cmp .ne (.var 7) (.lst [])), (.cmp .eq (.cal "_law_grab" [(.ref 0), (.int 2)]) (.int 0))])]) [.iff (.cmp .eq (.var 7) (.lst [])) [.ret (.mov 5)] [],
      .exp (.mut .append 4 [(.ix (.shr 7) (.cal "_law_grab" [(.ref 0), (.ix (.lst [(.int 1), (.bfn .len [(.var 7)])]) (.cal "_law_grab" [(.ref 0), (.int 2)]))]))]),
      .exp (.mut .append 5 [(.tup [(.str "in"), (.ix (.var 4) (.neg (.int 1)))])])] [.frz 9 (.asg (.nm 9) (.ix (.lst [(.int 0), (.bin .sub (.bfn .len [(.var 4)]) (.int 1)), (.cal "_law_grab" [(.ref 0), (.bfn .len [(.var 4)])])]) (.cal "_law_grab" [(.ref 0), (.int 3)]))),
      .exp (.mut .append 5 [(.tup [(.str "out"), (.var 9)])]),
      .frz 10 (.asg (.nm 10) (.mut .pop 4 [])),
      .iff (.cmp .lt (.var 9) (.bfn .len [(.var 4)])) [.asg (.sb 4 (.var 9)) (.var 10)] []]],
      .ret (.mov 5)]⟩
structure U__law_deeds_v1 (p : Pg) : Prop where
  s : Hs p "_law_deeds" c__law_deeds_v1
  _law_grab : U__law_grab p
theorem o__law_deeds_v1 {p : Pg} (u : U__law_deeds_v1 p) {n : Nat} {t0 t1 t2 t3 : T} {P : T → List T → Prop} {X : Str → Prop} (h : WB ⟨phi p n, p.gl, p.fu⟩ c__law_deeds_v1.body [some t0, some t1, some t2, some t3, none, none, none, none, none, none, none] (fun G1 => WPar (parB c__law_deeds_v1.rf 0 [t0, t1, t2, t3] G1) (P .non)) (fun t G1 => WPar (parB c__law_deeds_v1.rf 0 [t0, t1, t2, t3] G1) (P t)) (fun _ => False) (fun _ => False) (fun n _ _ => isFL [t0, t1, t2, t3] = true ∧ X n)) (ha : argOk c__law_deeds_v1.rf 0 [t0, t1, t2, t3] = true := by top_args) : Call p (n + 1) "_law_deeds" [t0, t1, t2, t3] P X := opn u.s rfl ha rfl h
def c__law_deeds_v2 : Dc := ⟨["_law_bag_here", "_law_names_here", "_law_many", "_law_asks", "_law_found", "_law_size", "_law_come", "_law_often", "_law_k", "_law_spots"], ["_law_bag_here", "_law_names_here", "_law_many", "_law_asks"], [0],
    [.asg (.nm 4) (.lst []),
      .asg (.nm 5) (.var 2),
      .asg (.nm 6) (.var 2),
      .frz 7 (.asg (.nm 7) (.bin .add (.int 1) (.cal "_law_take" [(.ref 0), (.int 3)]))),
      .frr (.nm 8) .rng [(.var 3)] [.iff (.and [(.cmp .lt (.var 6) (.bfn .len [(.var 1)])), (.or [(.cmp .eq (.var 5) (.int 0)), (.cmp .lt (.cal "_law_take" [(.ref 0), (.int 4)]) (.var 7))])]) [.exp (.mut .append 4 [(.tup [(.str "in"), (.ix (.var 1) (.var 6))])]),
      .asg (.nm 6) (.bin .add (.var 6) (.int 1)),
      .asg (.nm 5) (.bin .add (.var 5) (.int 1))] [.iff (.cmp .gt (.var 5) (.int 0)) [.frz 9 (.asg (.nm 9) (.lst [(.cal "_law_take" [(.ref 0), (.shr 5)]), (.cal "_law_take" [(.ref 0), (.shr 5)]), (.bin .sub (.var 5) (.int 1)), (.int 0)])),
      .exp (.mut .append 4 [(.tup [(.str "out"), (.ix (.shr 9) (.cal "_law_take" [(.ref 0), (.int 4)]))])]),
      .asg (.nm 5) (.bin .sub (.var 5) (.int 1))] []]],
      .ret (.mov 4)]⟩
structure U__law_deeds_v2 (p : Pg) : Prop where
  s : Hs p "_law_deeds" c__law_deeds_v2
  _law_take : U__law_take_v1 p
theorem o__law_deeds_v2 {p : Pg} (u : U__law_deeds_v2 p) {n : Nat} {t0 t1 t2 t3 : T} {P : T → List T → Prop} {X : Str → Prop} (h : WB ⟨phi p n, p.gl, p.fu⟩ c__law_deeds_v2.body [some t0, some t1, some t2, some t3, none, none, none, none, none, none] (fun G1 => WPar (parB c__law_deeds_v2.rf 0 [t0, t1, t2, t3] G1) (P .non)) (fun t G1 => WPar (parB c__law_deeds_v2.rf 0 [t0, t1, t2, t3] G1) (P t)) (fun _ => False) (fun _ => False) (fun n _ _ => isFL [t0, t1, t2, t3] = true ∧ X n)) (ha : argOk c__law_deeds_v2.rf 0 [t0, t1, t2, t3] = true := by top_args) : Call p (n + 1) "_law_deeds" [t0, t1, t2, t3] P X := opn u.s rfl ha rfl h
def c__law_step : Dc := ⟨["_law_crew", "_law_act", "_law_rest"], ["_law_crew", "_law_act"], [],
    [.iff (.cmp .eq (.ix (.var 1) (.int 0)) (.str "in")) [.ret (.bin .add (.var 0) (.tup [(.ix (.var 1) (.int 1))]))] [],
      .asg (.nm 2) (.slH (.var 0) (.neg (.int 1))),
      .iff (.cmp .eq (.ix (.var 1) (.int 1)) (.bfn .len [(.var 2)])) [.ret (.mov 2)] [],
      .ret (.bin .add (.bin .add (.slH (.var 2) (.ix (.var 1) (.int 1))) (.slL (.var 0) (.neg (.int 1)))) (.slL (.var 2) (.bin .add (.ix (.var 1) (.int 1)) (.int 1))))]⟩
structure U__law_step (p : Pg) : Prop where
  s : Hs p "_law_step" c__law_step
theorem o__law_step {p : Pg} (u : U__law_step p) {n : Nat} {t0 t1 : T} {P : T → List T → Prop} {X : Str → Prop} (h : WB ⟨phi p n, p.gl, p.fu⟩ c__law_step.body [some t0, some t1, none] (fun G1 => 2 ≤ G1.length ∧ P .non [t0, t1]) (fun t G1 => 2 ≤ G1.length ∧ P t [t0, t1]) (fun _ => False) (fun _ => False) (fun n _ _ => X n)) (ha : isFL [t0, t1] = true := by ktr_rel) : Call p (n + 1) "_law_step" [t0, t1] P X := opn0 u.s rfl rfl ha rfl h
def c__law_rows_v2 : Dc := ⟨["_law_crew", "_law_plan", "_law_found", "_law_act", "_law_later", "_law_line", "_law_spot"], ["_law_crew", "_law_plan"], [],
    [.asg (.nm 2) .nev,
      .frr (.nm 3) .val [(.var 1)] [.asg (.nm 4) .nev,
      .frr (.nm 5) .val [(.shr 2)] [.iff (.cmp .eq (.ix (.var 3) (.int 0)) (.str "in")) [.asg (.sb 4 (.bin .add (.var 5) (.tup [(.ix (.var 3) (.int 1))]))) (.bl true)] [.frr (.nm 6) .rng [(.bfn .len [(.var 5)])] [.asg (.sb 4 (.cal "_law_step" [(.shr 5), (.tup [(.str "out"), (.var 6)])])) (.bl true)]]],
      .asg (.nm 2) (.var 4)],
      .ret (.bfn .list [(.var 2)])]⟩
structure U__law_rows_v2 (p : Pg) : Prop where
  s : Hs p "_law_rows" c__law_rows_v2
  _law_step : U__law_step p
theorem o__law_rows_v2 {p : Pg} (u : U__law_rows_v2 p) {n : Nat} {t0 t1 : T} {P : T → List T → Prop} {X : Str → Prop} (h : WB ⟨phi p n, p.gl, p.fu⟩ c__law_rows_v2.body [some t0, some t1, none, none, none, none, none] (fun G1 => 2 ≤ G1.length ∧ P .non [t0, t1]) (fun t G1 => 2 ≤ G1.length ∧ P t [t0, t1]) (fun _ => False) (fun _ => False) (fun n _ _ => X n)) (ha : isFL [t0, t1] = true := by ktr_rel) : Call p (n + 1) "_law_rows" [t0, t1] P X := opn0 u.s rfl rfl ha rfl h
-- ?? _law_rows: {_law_crew: True}
-- ?? _law_rows: {}
def c__law_rows_v4 : Dc := ⟨["_law_row", "_law_deeds_here", "_law_found", "_law_word", "_law_what", "_law_now", "_law_at_last"], ["_law_row", "_law_deeds_here"], [],
    [.asg (.nm 2) (.lst [(.bfn .list [(.var 0)])]),
      .frr (.tp [(.nm 3), (.nm 4)]) .val [(.var 1)] [.asg (.nm 5) (.bfn .list [(.ix (.var 2) (.neg (.int 1)))]),
      .iff (.cmp .eq (.var 3) (.str "in")) [.exp (.mut .append 5 [(.var 4)])] [.frz 6 (.asg (.nm 6) (.mut .pop 5 [])),
      .iff (.cmp .lt (.var 4) (.bfn .len [(.var 5)])) [.asg (.sb 5 (.var 4)) (.var 6)] []],
      .exp (.mut .append 2 [(.var 5)])],
      .ret (.mov 2)]⟩
structure U__law_rows_v4 (p : Pg) : Prop where
  s : Hs p "_law_rows" c__law_rows_v4
theorem o__law_rows_v4 {p : Pg} (u : U__law_rows_v4 p) {n : Nat} {t0 t1 : T} {P : T → List T → Prop} {X : Str → Prop} (h : WB ⟨phi p n, p.gl, p.fu⟩ c__law_rows_v4.body [some t0, some t1, none, none, none, none, none] (fun G1 => 2 ≤ G1.length ∧ P .non [t0, t1]) (fun t G1 => 2 ≤ G1.length ∧ P t [t0, t1]) (fun _ => False) (fun _ => False) (fun n _ _ => X n)) (ha : isFL [t0, t1] = true := by ktr_rel) : Call p (n + 1) "_law_rows" [t0, t1] P X := opn0 u.s rfl rfl ha rfl h
def c__law_person_v1 : Dc := ⟨["_law_what", "_law_sign"], ["_law_what"], [],
    [.iff (.or [(.not (.isi (.var 0) ["str"])), (.cmp .lt (.bfn .len [(.var 0)]) (.int 1)), (.cmp .gt (.bfn .len [(.var 0)]) (.int 4))]) [.ret (.bl false)] [],
      .ret (.cmp .eq (.lc (.var 1) (.nm 1) .val [(.var 0)] [(.cmp .nin (.var 1) (.str "abcdefghijklmnopqrstuvwxyz"))] [1]) (.lst []))]⟩
structure U__law_person_v1 (p : Pg) : Prop where
  s : Hs p "_law_person" c__law_person_v1
theorem o__law_person_v1 {p : Pg} (u : U__law_person_v1 p) {n : Nat} {t0 : T} {P : T → List T → Prop} {X : Str → Prop} (h : WB ⟨phi p n, p.gl, p.fu⟩ c__law_person_v1.body [some t0, none] (fun G1 => 1 ≤ G1.length ∧ P .non [t0]) (fun t G1 => 1 ≤ G1.length ∧ P t [t0]) (fun _ => False) (fun _ => False) (fun n _ _ => X n)) (ha : isFL [t0] = true := by ktr_rel) : Call p (n + 1) "_law_person" [t0] P X := opn0 u.s rfl rfl ha rfl h
def c__law_bent_v2 : Dc := ⟨["_law_bag_here", "_law_comings_here", "_law_last_line", "_law_folk_here", "_law_one", "_law_spot", "_law_low", "_law_here", "_law_at", "_law_beside", "_law_way"], ["_law_bag_here", "_law_comings_here", "_law_last_line"], [0],
    [.frz 3 (.asg (.nm 3) (.bin .add (.lc (.var 4) (.tp [(.nm 4), (.nm 5), (.nm 6)]) .val [(.var 1)] [(.cmp .nin (.var 4) (.var 2))] [4, 5, 6]) (.lst [(.str "none")]))),
      .iff (.cmp .eq (.var 2) (.tup [])) [.ret (.tup [(.ix (.var 3) (.int 0))])] [],
      .asg (.nm 7) (.bfn .list [(.var 2)]),
      .frz 10 (.frz 9 (.frz 8 (.asg (.tp [(.nm 8), (.nm 9), (.nm 10)]) (.tup [(.cal "_law_draw" [(.ref 0), (.bfn .len [(.var 7)])]), (.cal "_law_draw" [(.ref 0), (.bfn .len [(.var 7)])]), (.cal "_law_draw" [(.ref 0), (.int 8)])])))),
      .iff (.cmp .lt (.var 10) (.int 4)) [.asg (.tp [(.sb 7 (.var 8)), (.sb 7 (.var 9))]) (.tup [(.ix (.var 7) (.var 9)), (.ix (.var 7) (.var 8))])] [.iff (.cmp .lt (.var 10) (.int 6)) [.asg (.sb 7 (.var 8)) (.ix (.shr 3) (.cal "_law_draw" [(.ref 0), (.bfn .len [(.var 3)])]))] [.iff (.cmp .eq (.var 10) (.int 6)) [.exp (.mut .pop 7 [(.var 8)])] [.exp (.mut .insert 7 [(.var 8), (.ix (.shr 3) (.cal "_law_draw" [(.ref 0), (.bfn .len [(.var 3)])]))])]]],
      .ret (.bfn .tuple [(.var 7)])]⟩
structure U__law_bent_v2 (p : Pg) : Prop where
  s : Hs p "_law_bent" c__law_bent_v2
  _law_draw : U__law_draw p
theorem o__law_bent_v2 {p : Pg} (u : U__law_bent_v2 p) {n : Nat} {t0 t1 t2 : T} {P : T → List T → Prop} {X : Str → Prop} (h : WB ⟨phi p n, p.gl, p.fu⟩ c__law_bent_v2.body [some t0, some t1, some t2, none, none, none, none, none, none, none, none] (fun G1 => WPar (parB c__law_bent_v2.rf 0 [t0, t1, t2] G1) (P .non)) (fun t G1 => WPar (parB c__law_bent_v2.rf 0 [t0, t1, t2] G1) (P t)) (fun _ => False) (fun _ => False) (fun n _ _ => isFL [t0, t1, t2] = true ∧ X n)) (ha : argOk c__law_bent_v2.rf 0 [t0, t1, t2] = true := by top_args) : Call p (n + 1) "_law_bent" [t0, t1, t2] P X := opn u.s rfl ha rfl h
def c__law_cell_at : Dc := ⟨["_law_script", "_law_k"], ["_law_script", "_law_k"], [],
    [.iff (.cmp .lt (.var 1) (.bfn .len [(.var 0)])) [.ret (.ix (.var 0) (.var 1))] [],
      .ret (.int 0)]⟩
structure U__law_cell_at (p : Pg) : Prop where
  s : Hs p "_law_cell_at" c__law_cell_at
theorem o__law_cell_at {p : Pg} (u : U__law_cell_at p) {n : Nat} {t0 t1 : T} {P : T → List T → Prop} {X : Str → Prop} (h : WB ⟨phi p n, p.gl, p.fu⟩ c__law_cell_at.body [some t0, some t1] (fun G1 => 2 ≤ G1.length ∧ P .non [t0, t1]) (fun t G1 => 2 ≤ G1.length ∧ P t [t0, t1]) (fun _ => False) (fun _ => False) (fun n _ _ => X n)) (ha : isFL [t0, t1] = true := by ktr_rel) : Call p (n + 1) "_law_cell_at" [t0, t1] P X := opn0 u.s rfl rfl ha rfl h
def c__law_bag_v1 : Dc := ⟨["_law_cell", "_law_k"], ["_law_cell", "_law_k"], [],
    [.ret (.lst [(.bfn .max [(.int 0), (.bin .sub (.var 0) (.bin .pow (.int 10) (.int 18)))]), (.bin .add (.bin .mod (.var 0) (.int 162259276829213363391578010288127)) (.bin .mul (.int 7919) (.bin .add (.var 1) (.int 1)))), (.int 0)])]⟩
structure U__law_bag_v1 (p : Pg) : Prop where
  s : Hs p "_law_bag" c__law_bag_v1
theorem o__law_bag_v1 {p : Pg} (u : U__law_bag_v1 p) {n : Nat} {t0 t1 : T} {P : T → List T → Prop} {X : Str → Prop} (h : WB ⟨phi p n, p.gl, p.fu⟩ c__law_bag_v1.body [some t0, some t1] (fun G1 => 2 ≤ G1.length ∧ P .non [t0, t1]) (fun t G1 => 2 ≤ G1.length ∧ P t [t0, t1]) (fun _ => False) (fun _ => False) (fun n _ _ => X n)) (ha : isFL [t0, t1] = true := by ktr_rel) : Call p (n + 1) "_law_bag" [t0, t1] P X := opn0 u.s rfl rfl ha rfl h
def c__law_bag_v2 : Dc := ⟨["_law_cell", "_law_k"], ["_law_cell", "_law_k"], [],
    [.ret (.lst [(.bfn .max [(.int 0), (.bin .sub (.var 0) (.bin .pow (.int 10) (.int 18)))]), (.bin .add (.bin .mod (.var 0) (.int 162259276829213363391578010288127)) (.bin .mul (.int 7057) (.bin .add (.var 1) (.int 1)))), (.int 0)])]⟩
structure U__law_bag_v2 (p : Pg) : Prop where
  s : Hs p "_law_bag" c__law_bag_v2
theorem o__law_bag_v2 {p : Pg} (u : U__law_bag_v2 p) {n : Nat} {t0 t1 : T} {P : T → List T → Prop} {X : Str → Prop} (h : WB ⟨phi p n, p.gl, p.fu⟩ c__law_bag_v2.body [some t0, some t1] (fun G1 => 2 ≤ G1.length ∧ P .non [t0, t1]) (fun t G1 => 2 ≤ G1.length ∧ P t [t0, t1]) (fun _ => False) (fun _ => False) (fun n _ _ => X n)) (ha : isFL [t0, t1] = true := by ktr_rel) : Call p (n + 1) "_law_bag" [t0, t1] P X := opn0 u.s rfl rfl ha rfl h
def c__law_bag_v3 : Dc := ⟨["_law_cell"], ["_law_cell"], [],
    [.ret (.lst [(.bfn .max [(.int 1), (.bin .sub (.var 0) (.bin .pow (.int 10) (.int 18)))]), (.bin .mod (.var 0) (.bin .add (.bin .pow (.int 10) (.int 40)) (.int 121))), (.int 0)])]⟩
structure U__law_bag_v3 (p : Pg) : Prop where
  s : Hs p "_law_bag" c__law_bag_v3
theorem o__law_bag_v3 {p : Pg} (u : U__law_bag_v3 p) {n : Nat} {t0 : T} {P : T → List T → Prop} {X : Str → Prop} (h : WB ⟨phi p n, p.gl, p.fu⟩ c__law_bag_v3.body [some t0] (fun G1 => 1 ≤ G1.length ∧ P .non [t0]) (fun t G1 => 1 ≤ G1.length ∧ P t [t0]) (fun _ => False) (fun _ => False) (fun n _ _ => X n)) (ha : isFL [t0] = true := by ktr_rel) : Call p (n + 1) "_law_bag" [t0] P X := opn0 u.s rfl rfl ha rfl h
def c__law_take_v3 : Dc := ⟨["_law_bag_here", "_law_size", "_law_found", "_law_mixed"], ["_law_bag_here", "_law_size"], [0],
    [.iff (.cmp .gt (.ix (.var 0) (.int 0)) (.int 1)) [.asg (.nm 2) (.bin .mod (.ix (.var 0) (.int 0)) (.var 1)),
      .asg (.sb 0 (.int 0)) (.bin .fdiv (.ix (.var 0) (.int 0)) (.var 1)),
      .ret (.mov 2)] [],
      .asg (.sb 0 (.int 2)) (.bin .add (.ix (.var 0) (.int 2)) (.int 1)),
      .asg (.nm 3) (.bin .mod (.bin .pow (.bin .add (.ix (.var 0) (.int 1)) (.bin .mul (.int 1300021) (.ix (.var 0) (.int 2)))) (.int 3)) (.int 162259276829213363391578010288127)),
      .asg (.nm 3) (.bin .mod (.bin .pow (.bin .add (.var 3) (.bin .mul (.int 15486041) (.ix (.var 0) (.int 2)))) (.int 5)) (.int 618970019642690137449562111)),
      .ret (.bin .mod (.bin .fdiv (.var 3) (.int 1048576)) (.var 1))]⟩
structure U__law_take_v3 (p : Pg) : Prop where
  s : Hs p "_law_take" c__law_take_v3
theorem o__law_take_v3 {p : Pg} (u : U__law_take_v3 p) {n : Nat} {t0 t1 : T} {P : T → List T → Prop} {X : Str → Prop} (h : WB ⟨phi p n, p.gl, p.fu⟩ c__law_take_v3.body [some t0, some t1, none, none] (fun G1 => WPar (parB c__law_take_v3.rf 0 [t0, t1] G1) (P .non)) (fun t G1 => WPar (parB c__law_take_v3.rf 0 [t0, t1] G1) (P t)) (fun _ => False) (fun _ => False) (fun n _ _ => isFL [t0, t1] = true ∧ X n)) (ha : argOk c__law_take_v3.rf 0 [t0, t1] = true := by top_args) : Call p (n + 1) "_law_take" [t0, t1] P X := opn u.s rfl ha rfl h
def c__law_alike_v1 : Dc := ⟨["_law_found", "_law_due", "_law_k"], ["_law_found", "_law_due"], [],
    [.iff (.isi (.var 1) ["list", "tuple"]) [.iff (.or [(.cmp .ne (.isi (.var 0) ["list"]) (.isi (.var 1) ["list"])), (.not (.isi (.var 0) ["list", "tuple"]))]) [.ret (.bl false)] [],
      .iff (.cmp .ne (.bfn .len [(.var 0)]) (.bfn .len [(.var 1)])) [.ret (.bl false)] [],
      .ret (.bfn .all [(.lc (.cal "_law_alike" [(.ix (.var 0) (.var 2)), (.ix (.var 1) (.var 2))]) (.nm 2) .rng [(.bfn .len [(.var 1)])] [] [2])])] [],
      .iff (.or [(.isi (.var 1) ["bool"]), (.isi (.var 0) ["bool"])]) [.ret (.and [(.isi (.var 1) ["bool"]), (.isi (.var 0) ["bool"]), (.cmp .eq (.var 0) (.var 1))])] [],
      .ret (.cmp .eq (.var 0) (.var 1))]⟩
structure U__law_alike_v1 (p : Pg) : Prop where
  s : Hs p "_law_alike" c__law_alike_v1
theorem o__law_alike_v1 {p : Pg} (u : U__law_alike_v1 p) {n : Nat} {t0 t1 : T} {P : T → List T → Prop} {X : Str → Prop} (h : WB ⟨phi p n, p.gl, p.fu⟩ c__law_alike_v1.body [some t0, some t1, none] (fun G1 => 2 ≤ G1.length ∧ P .non [t0, t1]) (fun t G1 => 2 ≤ G1.length ∧ P t [t0, t1]) (fun _ => False) (fun _ => False) (fun n _ _ => X n)) (ha : isFL [t0, t1] = true := by ktr_rel) : Call p (n + 1) "_law_alike" [t0, t1] P X := opn0 u.s rfl rfl ha rfl h
def c__law_alike_v2 : Dc := ⟨["_law_found", "_law_due", "_law_k"], ["_law_found", "_law_due"], [],
    [.iff (.isi (.var 1) ["list", "tuple"]) [.iff (.or [(.cmp .ne (.isi (.var 0) ["list"]) (.isi (.var 1) ["list"])), (.not (.isi (.var 0) ["list", "tuple"]))]) [.ret (.bl false)] [],
      .iff (.cmp .ne (.bfn .len [(.var 0)]) (.bfn .len [(.var 1)])) [.ret (.bl false)] [],
      .ret (.bfn .all [(.lc (.cal "_law_alike" [(.ix (.var 0) (.var 2)), (.ix (.var 1) (.var 2))]) (.nm 2) .rng [(.bfn .len [(.var 1)])] [] [2])])] [],
      .iff (.or [(.isN (.var 1)), (.isN (.var 0))]) [.ret (.and [(.isN (.var 1)), (.isN (.var 0))])] [],
      .iff (.or [(.isi (.var 1) ["bool"]), (.isi (.var 0) ["bool"])]) [.ret (.and [(.isi (.var 1) ["bool"]), (.isi (.var 0) ["bool"]), (.cmp .eq (.var 0) (.var 1))])] [],
      .ret (.cmp .eq (.var 0) (.var 1))]⟩
structure U__law_alike_v2 (p : Pg) : Prop where
  s : Hs p "_law_alike" c__law_alike_v2
theorem o__law_alike_v2 {p : Pg} (u : U__law_alike_v2 p) {n : Nat} {t0 t1 : T} {P : T → List T → Prop} {X : Str → Prop} (h : WB ⟨phi p n, p.gl, p.fu⟩ c__law_alike_v2.body [some t0, some t1, none] (fun G1 => 2 ≤ G1.length ∧ P .non [t0, t1]) (fun t G1 => 2 ≤ G1.length ∧ P t [t0, t1]) (fun _ => False) (fun _ => False) (fun n _ _ => X n)) (ha : isFL [t0, t1] = true := by ktr_rel) : Call p (n + 1) "_law_alike" [t0, t1] P X := opn0 u.s rfl rfl ha rfl h
def c__law_alike_v3 : Dc := ⟨["_law_found", "_law_due", "_law_k"], ["_law_found", "_law_due"], [],
    [.iff (.isi (.var 1) ["list", "tuple"]) [.iff (.cmp .ne (.isi (.var 0) ["list"]) (.isi (.var 1) ["list"])) [.ret (.bl false)] [],
      .iff (.cmp .ne (.isi (.var 0) ["tuple"]) (.isi (.var 1) ["tuple"])) [.ret (.bl false)] [],
      .iff (.cmp .ne (.bfn .len [(.var 0)]) (.bfn .len [(.var 1)])) [.ret (.bl false)] [],
      .ret (.bfn .all [(.lc (.cal "_law_alike" [(.ix (.var 0) (.var 2)), (.ix (.var 1) (.var 2))]) (.nm 2) .rng [(.bfn .len [(.var 1)])] [] [2])])] [],
      .iff (.or [(.isN (.var 0)), (.isN (.var 1))]) [.ret (.and [(.isN (.var 0)), (.isN (.var 1))])] [],
      .ret (.and [(.cmp .eq (.isi (.var 0) ["bool"]) (.isi (.var 1) ["bool"])), (.cmp .eq (.var 0) (.var 1))])]⟩
structure U__law_alike_v3 (p : Pg) : Prop where
  s : Hs p "_law_alike" c__law_alike_v3
theorem o__law_alike_v3 {p : Pg} (u : U__law_alike_v3 p) {n : Nat} {t0 t1 : T} {P : T → List T → Prop} {X : Str → Prop} (h : WB ⟨phi p n, p.gl, p.fu⟩ c__law_alike_v3.body [some t0, some t1, none] (fun G1 => 2 ≤ G1.length ∧ P .non [t0, t1]) (fun t G1 => 2 ≤ G1.length ∧ P t [t0, t1]) (fun _ => False) (fun _ => False) (fun n _ _ => X n)) (ha : isFL [t0, t1] = true := by ktr_rel) : Call p (n + 1) "_law_alike" [t0, t1] P X := opn0 u.s rfl rfl ha rfl h
def c__law_bare_v1 : Dc := ⟨["_law_bag_here", "_law_many", "_law_asks", "_law_found", "_law_size", "_law_often", "_law_k", "_law_spots"], ["_law_bag_here", "_law_many", "_law_asks"], [0],
    [.asg (.nm 3) (.lst []),
      .asg (.nm 4) (.var 1),
      .frz 5 (.asg (.nm 5) (.bin .add (.int 1) (.cal "_law_take" [(.ref 0), (.int 3)]))),
      .frr (.nm 6) .rng [(.cal "_law_take" [(.ref 0), (.bin .add (.var 2) (.int 1))])] [.iff (.or [(.cmp .eq (.var 4) (.int 0)), (.cmp .lt (.cal "_law_take" [(.ref 0), (.int 4)]) (.var 5))]) [.exp (.mut .append 3 [(.tup [(.str "in")])]),
      .asg (.nm 4) (.bin .add (.var 4) (.int 1))] [.frz 7 (.asg (.nm 7) (.lst [(.cal "_law_take" [(.ref 0), (.shr 4)]), (.cal "_law_take" [(.ref 0), (.shr 4)]), (.bin .sub (.var 4) (.int 1)), (.int 0)])),
      .exp (.mut .append 3 [(.tup [(.str "out"), (.ix (.shr 7) (.cal "_law_take" [(.ref 0), (.int 4)]))])]),
      .asg (.nm 4) (.bin .sub (.var 4) (.int 1))]],
      .ret (.mov 3)]⟩
structure U__law_bare_v1 (p : Pg) : Prop where
  s : Hs p "_law_bare" c__law_bare_v1
  _law_take : U__law_take_v1 p
theorem o__law_bare_v1 {p : Pg} (u : U__law_bare_v1 p) {n : Nat} {t0 t1 t2 : T} {P : T → List T → Prop} {X : Str → Prop} (h : WB ⟨phi p n, p.gl, p.fu⟩ c__law_bare_v1.body [some t0, some t1, some t2, none, none, none, none, none] (fun G1 => WPar (parB c__law_bare_v1.rf 0 [t0, t1, t2] G1) (P .non)) (fun t G1 => WPar (parB c__law_bare_v1.rf 0 [t0, t1, t2] G1) (P t)) (fun _ => False) (fun _ => False) (fun n _ _ => isFL [t0, t1, t2] = true ∧ X n)) (ha : argOk c__law_bare_v1.rf 0 [t0, t1, t2] = true := by top_args) : Call p (n + 1) "_law_bare" [t0, t1, t2] P X := opn u.s rfl ha rfl h
def c__law_gone_through_v1 : Dc := ⟨["_law_many", "_law_deeds", "_law_row", "_law_found", "_law_come", "_law_deed", "_law_at_last"], ["_law_many", "_law_deeds"], [],
    [.asg (.nm 2) (.lrg (.var 0)),
      .asg (.nm 3) (.lst [(.bfn .list [(.var 2)])]),
      .asg (.nm 4) (.var 0),
      .frr (.nm 5) .val [(.var 1)] [.iff (.cmp .eq (.ix (.var 5) (.int 0)) (.str "in")) [.exp (.mut .append 2 [(.var 4)]),
      .asg (.nm 4) (.bin .add (.var 4) (.int 1))] [.frz 6 (.asg (.nm 6) (.mut .pop 2 [])),
      .iff (.cmp .lt (.ix (.var 5) (.int 1)) (.bfn .len [(.var 2)])) [.asg (.sb 2 (.ix (.var 5) (.int 1))) (.var 6)] []],
      .exp (.mut .appendO 3 [(.bfn .list [(.var 2)])])],
      .ret (.mov 3)]⟩
structure U__law_gone_through_v1 (p : Pg) : Prop where
  s : Hs p "_law_gone_through" c__law_gone_through_v1
theorem o__law_gone_through_v1 {p : Pg} (u : U__law_gone_through_v1 p) {n : Nat} {t0 t1 : T} {P : T → List T → Prop} {X : Str → Prop} (h : WB ⟨phi p n, p.gl, p.fu⟩ c__law_gone_through_v1.body [some t0, some t1, none, none, none, none, none] (fun G1 => 2 ≤ G1.length ∧ P .non [t0, t1]) (fun t G1 => 2 ≤ G1.length ∧ P t [t0, t1]) (fun _ => False) (fun _ => False) (fun n _ _ => X n)) (ha : isFL [t0, t1] = true := by ktr_rel) : Call p (n + 1) "_law_gone_through" [t0, t1] P X := opn0 u.s rfl rfl ha rfl h
def c__law_two_v2 : Dc := ⟨["_law_sack_here", "_law_most", "_law_pool", "_law_size", "_law_goal", "_law_way", "_law_mates", "_law_spot", "_law_step", "_law_one", "_law_other"], ["_law_sack_here", "_law_most"], [0],
    [.frz 2 (.asg (.nm 2) (.cal "_law_names" [(.ref 0), (.bin .add (.int 1) (.cal "_law_grab" [(.ref 0), (.var 1)]))])),
      .frz 3 (.asg (.nm 3) (.bfn .len [(.var 2)])),
      .asg (.nm 4) (.bfn .list [(.var 2)]),
      .frz 5 (.asg (.nm 5) (.cal "_law_grab" [(.ref 0), (.int 6)])),
      .iff (.cmp .eq (.var 5) (.int 1)) [.asg (.nm 4) (.cal "_law_mixed" [(.ref 0), (.shr 2)])] [],
      .iff (.cmp .eq (.var 5) (.int 2)) [.asg (.nm 4) (.bin .add (.slL (.var 4) (.int 1)) (.slH (.var 4) (.int 1)))] [],
      .iff (.cmp .eq (.var 5) (.int 3)) [.frz 6 (.asg (.nm 6) (.lc (.bin .sub (.bin .add (.var 7) (.int 1)) (.bin .mul (.bin .mod (.var 7) (.int 2)) (.int 2))) (.nm 7) .rng [(.var 3)] [] [7])),
      .asg (.nm 4) (.lc (.ite (.cmp .lt (.ix (.var 6) (.var 7)) (.var 3)) (.ix (.var 4) (.ix (.var 6) (.var 7))) (.ix (.var 4) (.var 7))) (.nm 7) .rng [(.var 3)] [] [7])] [],
      .iff (.cmp .eq (.var 5) (.int 4)) [.asg (.nm 4) (.bin .add (.cal "_law_mixed" [(.ref 0), (.slH (.var 2) (.neg (.int 1)))]) (.slL (.var 2) (.neg (.int 1))))] [],
      .frr (.nm 8) .rng [(.bin .mul (.cal "_law_grab" [(.ref 0), (.int 4)]) (.bfn .int [(.cmp .eq (.var 5) (.int 5))]))] [.par 9 10 (.cal "_law_grab" [(.ref 0), (.shr 3)]) (.cal "_law_grab" [(.ref 0), (.shr 3)]),
      .asg (.tp [(.sb 4 (.var 9)), (.sb 4 (.var 10))]) (.tup [(.ix (.var 4) (.var 10)), (.ix (.var 4) (.var 9))])],
      .ret (.tup [(.bfn .tuple [(.var 2)]), (.bfn .tuple [(.var 4)])])]⟩
structure U__law_two_v2 (p : Pg) : Prop where
  s : Hs p "_law_two" c__law_two_v2
  _law_names : U__law_names_v1 p
  _law_grab : U__law_grab p
  _law_mixed : U__law_mixed_v1 p
theorem o__law_two_v2 {p : Pg} (u : U__law_two_v2 p) {n : Nat} {t0 t1 : T} {P : T → List T → Prop} {X : Str → Prop} (h : WB ⟨phi p n, p.gl, p.fu⟩ c__law_two_v2.body [some t0, some t1, none, none, none, none, none, none, none, none, none] (fun G1 => WPar (parB c__law_two_v2.rf 0 [t0, t1] G1) (P .non)) (fun t G1 => WPar (parB c__law_two_v2.rf 0 [t0, t1] G1) (P t)) (fun _ => False) (fun _ => False) (fun n _ _ => isFL [t0, t1] = true ∧ X n)) (ha : argOk c__law_two_v2.rf 0 [t0, t1] = true := by top_args) : Call p (n + 1) "_law_two" [t0, t1] P X := opn u.s rfl ha rfl h
def c__law_people_v1 : Dc := ⟨["_law_bag_here", "_law_most", "_law_pool", "_law_sign", "_law_more", "_law_k"], ["_law_bag_here", "_law_most"], [0],
    [.asg (.nm 2) (.lst [(.str "a"), (.str "b"), (.str "z"), (.str "aa"), (.str "ab"), (.str "in"), (.str "out"), (.str "off"), (.str "put"), (.str "end"), (.str "new"), (.str "zzzz"), (.str "abcd"), (.str "abce")]),
      .frr (.nm 3) .val [(.str "cdefghijklm")] [.asg (.nm 2) (.bin .add (.bin .add (.var 2) (.lst [(.var 3), (.bin .add (.var 3) (.str "a"))])) (.lc (.bin .add (.bin .add (.var 3) (.str "x")) (.var 4)) (.nm 4) .val [(.str "pqrstuvwxyz")] [] [4]))],
      .ret (.lc (.mut .pop 2 [(.cal "_law_take" [(.ref 0), (.bfn .len [(.var 2)])])]) (.nm 5) .rng [(.var 1)] [] [5])]⟩
structure U__law_people_v1 (p : Pg) : Prop where
  s : Hs p "_law_people" c__law_people_v1
  _law_take : U__law_take_v3 p
theorem o__law_people_v1 {p : Pg} (u : U__law_people_v1 p) {n : Nat} {t0 t1 : T} {P : T → List T → Prop} {X : Str → Prop} (h : WB ⟨phi p n, p.gl, p.fu⟩ c__law_people_v1.body [some t0, some t1, none, none, none, none] (fun G1 => WPar (parB c__law_people_v1.rf 0 [t0, t1] G1) (P .non)) (fun t G1 => WPar (parB c__law_people_v1.rf 0 [t0, t1] G1) (P t)) (fun _ => False) (fun _ => False) (fun n _ _ => isFL [t0, t1] = true ∧ X n)) (ha : argOk c__law_people_v1.rf 0 [t0, t1] = true := by top_args) : Call p (n + 1) "_law_people" [t0, t1] P X := opn u.s rfl ha rfl h
def c__law_done_v1 : Dc := ⟨["_law_crew", "_law_acts_here", "_law_act"], ["_law_crew", "_law_acts_here"], [],
    [.frr (.nm 2) .val [(.var 1)] [.asg (.nm 0) (.cal "_law_step" [(.var 0), (.shr 2)])],
      .ret (.var 0)]⟩
structure U__law_done_v1 (p : Pg) : Prop where
  s : Hs p "_law_done" c__law_done_v1
  _law_step : U__law_step p
theorem o__law_done_v1 {p : Pg} (u : U__law_done_v1 p) {n : Nat} {t0 t1 : T} {P : T → List T → Prop} {X : Str → Prop} (h : WB ⟨phi p n, p.gl, p.fu⟩ c__law_done_v1.body [some t0, some t1, none] (fun G1 => 2 ≤ G1.length ∧ P .non [t0, t1]) (fun t G1 => 2 ≤ G1.length ∧ P t [t0, t1]) (fun _ => False) (fun _ => False) (fun n _ _ => X n)) (ha : isFL [t0, t1] = true := by ktr_rel) : Call p (n + 1) "_law_done" [t0, t1] P X := opn0 u.s rfl rfl ha rfl h
def c__law_done_v2 : Dc := ⟨["_law_crew", "_law_acts", "_law_act"], ["_law_crew", "_law_acts"], [],
    [.frr (.nm 2) .val [(.var 1)] [.asg (.nm 0) (.cal "_law_step" [(.var 0), (.shr 2)])],
      .ret (.var 0)]⟩
structure U__law_done_v2 (p : Pg) : Prop where
  s : Hs p "_law_done" c__law_done_v2
  _law_step : U__law_step p
theorem o__law_done_v2 {p : Pg} (u : U__law_done_v2 p) {n : Nat} {t0 t1 : T} {P : T → List T → Prop} {X : Str → Prop} (h : WB ⟨phi p n, p.gl, p.fu⟩ c__law_done_v2.body [some t0, some t1, none] (fun G1 => 2 ≤ G1.length ∧ P .non [t0, t1]) (fun t G1 => 2 ≤ G1.length ∧ P t [t0, t1]) (fun _ => False) (fun _ => False) (fun n _ _ => X n)) (ha : isFL [t0, t1] = true := by ktr_rel) : Call p (n + 1) "_law_done" [t0, t1] P X := opn0 u.s rfl rfl ha rfl h
def c__law_acts_v1 : Dc := ⟨["_law_bag_here", "_law_widest", "_law_most", "_law_people_here", "_law_size", "_law_crew", "_law_away", "_law_here", "_law_lean", "_law_found", "_law_named", "_law_k", "_law_act"], ["_law_bag_here", "_law_widest", "_law_most"], [0],
    [.frz 3 (.asg (.nm 3) (.cal "_law_people" [(.ref 0), (.bin .add (.cal "_law_take" [(.ref 0), (.bin .add (.var 1) (.int 1))]) (.int 20))])),
      .asg (.nm 4) (.bin .sub (.bfn .len [(.var 3)]) (.int 20)),
      .par 5 6 (.bfn .tuple [(.slH (.var 3) (.var 4))]) (.slL (.var 3) (.var 4)),
      .par 7 8 (.var 5) (.bin .add (.int 1) (.cal "_law_take" [(.ref 0), (.int 3)])),
      .par 9 10 (.lst []) (.lst []),
      .frr (.nm 11) .rng [(.cal "_law_take" [(.ref 0), (.bin .add (.var 2) (.int 1))])] [.iff (.or [(.cmp .eq (.var 7) (.tup [])), (.and [(.cmp .ne (.var 6) (.lst [])), (.cmp .lt (.cal "_law_take" [(.ref 0), (.int 4)]) (.var 8))])]) [.frz 12 (.asg (.nm 12) (.tup [(.str "in"), (.mut .pop 6 [(.cal "_law_take" [(.ref 0), (.bfn .len [(.var 6)])])])])),
      .exp (.mut .append 10 [(.var 12)])] [.frz 12 (.asg (.nm 12) (.tup [(.str "out"), (.ix (.lst [(.cal "_law_take" [(.ref 0), (.bfn .len [(.var 7)])]), (.bin .sub (.bfn .len [(.var 7)]) (.int 1)), (.int 0)]) (.bin .mod (.cal "_law_take" [(.ref 0), (.int 4)]) (.int 3)))])),
      .exp (.mut .append 6 [(.ix (.var 7) (.ix (.var 12) (.int 1)))]),
      .exp (.mut .append 10 [(.tup [(.str "off"), (.ix (.var 7) (.ix (.var 12) (.int 1)))])])],
      .exp (.mut .append 9 [(.var 12)]),
      .frz 7 (.asg (.nm 7) (.cal "_law_step" [(.shr 7), (.shr 12)]))],
      .ret (.tup [(.mov 5), (.mov 9), (.mov 10)])]⟩
structure U__law_acts_v1 (p : Pg) : Prop where
  s : Hs p "_law_acts" c__law_acts_v1
  _law_people : U__law_people_v1 p
  _law_take : U__law_take_v3 p
  _law_step : U__law_step p
theorem o__law_acts_v1 {p : Pg} (u : U__law_acts_v1 p) {n : Nat} {t0 t1 t2 : T} {P : T → List T → Prop} {X : Str → Prop} (h : WB ⟨phi p n, p.gl, p.fu⟩ c__law_acts_v1.body [some t0, some t1, some t2, none, none, none, none, none, none, none, none, none, none] (fun G1 => WPar (parB c__law_acts_v1.rf 0 [t0, t1, t2] G1) (P .non)) (fun t G1 => WPar (parB c__law_acts_v1.rf 0 [t0, t1, t2] G1) (P t)) (fun _ => False) (fun _ => False) (fun n _ _ => isFL [t0, t1, t2] = true ∧ X n)) (ha : argOk c__law_acts_v1.rf 0 [t0, t1, t2] = true := by top_args) : Call p (n + 1) "_law_acts" [t0, t1, t2] P X := opn u.s rfl ha rfl h
def c__law_acts_v2 : Dc := ⟨["_law_bag_here", "_law_size", "_law_tale_here", "_law_found", "_law_act"], ["_law_bag_here", "_law_size", "_law_tale_here"], [0],
    [.asg (.nm 3) (.lst []),
      .frr (.nm 4) .val [(.var 2)] [.iff (.cmp .eq (.ix (.var 4) (.int 0)) (.str "in")) [.exp (.mut .append 3 [(.var 4)]),
      .asg (.nm 1) (.bin .add (.var 1) (.int 1))] [.exp (.mut .append 3 [(.tup [(.str "out"), (.ix (.lst [(.cal "_law_draw" [(.ref 0), (.var 1)]), (.bin .sub (.var 1) (.int 1)), (.int 0), (.cal "_law_draw" [(.ref 0), (.var 1)])]) (.cal "_law_draw" [(.ref 0), (.int 4)]))])]),
      .asg (.nm 1) (.bin .sub (.var 1) (.int 1))]],
      .ret (.mov 3)]⟩
structure U__law_acts_v2 (p : Pg) : Prop where
  s : Hs p "_law_acts" c__law_acts_v2
  _law_draw : U__law_draw p
theorem o__law_acts_v2 {p : Pg} (u : U__law_acts_v2 p) {n : Nat} {t0 t1 t2 : T} {P : T → List T → Prop} {X : Str → Prop} (h : WB ⟨phi p n, p.gl, p.fu⟩ c__law_acts_v2.body [some t0, some t1, some t2, none, none] (fun G1 => WPar (parB c__law_acts_v2.rf 0 [t0, t1, t2] G1) (P .non)) (fun t G1 => WPar (parB c__law_acts_v2.rf 0 [t0, t1, t2] G1) (P t)) (fun _ => False) (fun _ => False) (fun n _ _ => isFL [t0, t1, t2] = true ∧ X n)) (ha : argOk c__law_acts_v2.rf 0 [t0, t1, t2] = true := by top_args) : Call p (n + 1) "_law_acts" [t0, t1, t2] P X := opn u.s rfl ha rfl h
def c__law_built_v1 : Dc := ⟨["_law_bag_here", "_law_widest", "_law_most", "_law_people_here", "_law_size", "_law_crew", "_law_fresh", "_law_lean", "_law_found", "_law_k", "_law_way", "_law_leaves"], ["_law_bag_here", "_law_widest", "_law_most"], [0],
    [.frz 3 (.asg (.nm 3) (.cal "_law_people" [(.ref 0), (.bin .add (.cal "_law_take" [(.ref 0), (.bin .add (.var 1) (.int 1))]) (.var 2))])),
      .asg (.nm 4) (.bin .sub (.bfn .len [(.var 3)]) (.var 2)),
      .par 5 6 (.bfn .tuple [(.slH (.var 3) (.var 4))]) (.slL (.var 3) (.var 4)),
      .frz 7 (.asg (.nm 7) (.cal "_law_take" [(.ref 0), (.int 4)])),
      .asg (.nm 8) (.lst []),
      .frr (.nm 9) .rng [(.cal "_law_take" [(.ref 0), (.bin .add (.var 2) (.int 1))])] [.frz 10 (.asg (.nm 10) (.cal "_law_take" [(.ref 0), (.int 4)])),
      .frz 11 (.asg (.nm 11) (.ix (.lst [(.cmp .lt (.var 10) (.int 3)), (.cmp .lt (.var 10) (.int 1)), (.cmp .eq (.bin .mod (.bin .fdiv (.var 9) (.int 4)) (.int 2)) (.int 1)), (.cmp .lt (.var 10) (.int 2))]) (.var 7))),
      .iff (.and [(.var 11), (.cmp .gt (.var 4) (.int 0))]) [.exp (.mut .append 8 [(.tup [(.str "out")])]),
      .asg (.nm 4) (.bin .sub (.var 4) (.int 1))] [.exp (.mut .append 8 [(.tup [(.str "in"), (.mut .pop 6 [(.int 0)])])]),
      .asg (.nm 4) (.bin .add (.var 4) (.int 1))]],
      .ret (.tup [(.mov 5), (.mov 8)])]⟩
structure U__law_built_v1 (p : Pg) : Prop where
  s : Hs p "_law_built" c__law_built_v1
  _law_people : U__law_people_v1 p
  _law_take : U__law_take_v3 p
theorem o__law_built_v1 {p : Pg} (u : U__law_built_v1 p) {n : Nat} {t0 t1 t2 : T} {P : T → List T → Prop} {X : Str → Prop} (h : WB ⟨phi p n, p.gl, p.fu⟩ c__law_built_v1.body [some t0, some t1, some t2, none, none, none, none, none, none, none, none, none] (fun G1 => WPar (parB c__law_built_v1.rf 0 [t0, t1, t2] G1) (P .non)) (fun t G1 => WPar (parB c__law_built_v1.rf 0 [t0, t1, t2] G1) (P t)) (fun _ => False) (fun _ => False) (fun n _ _ => isFL [t0, t1, t2] = true ∧ X n)) (ha : argOk c__law_built_v1.rf 0 [t0, t1, t2] = true := by top_args) : Call p (n + 1) "_law_built" [t0, t1, t2] P X := opn u.s rfl ha rfl h
def c__law_built_v2 : Dc := ⟨["_law_bag_here", "_law_comings_here", "_law_size", "_law_found", "_law_one", "_law_spot", "_law_low", "_law_shut", "_law_free", "_law_at"], ["_law_bag_here", "_law_comings_here", "_law_size"], [0],
    [.asg (.nm 3) (.bin .mul (.lst [.non]) (.var 2)),
      .frr (.tp [(.nm 4), (.nm 5), (.nm 6)]) .val [(.var 1)] [.iff (.cmp .lt (.var 5) (.var 6)) [.asg (.sb 3 (.var 5)) (.var 4)] []],
      .asg (.nm 7) (.lst []),
      .frr (.tp [(.nm 6), (.nm 4)]) .val [(.bfn .sorted [(.lc (.tup [(.var 6), (.var 4)]) (.tp [(.nm 4), (.nm 5), (.nm 6)]) .val [(.var 1)] [(.cmp .ge (.var 5) (.var 6))] [4, 5, 6])])] [.frz 8 (.asl 8 (.lc (.var 9) (.nm 9) .rng [(.var 6)] [(.cmp .nin (.var 9) (.var 7))] [9])),
      .iff (.and [(.cmp .ne (.var 8) (.lst [])), (.cmp .eq (.cal "_law_draw" [(.ref 0), (.int 2)]) (.int 0))]) [.exp (.mut .append 7 [(.ix (.shr 8) (.cal "_law_draw" [(.ref 0), (.bfn .len [(.var 8)])]))]),
      .asg (.sb 3 (.ix (.var 7) (.neg (.int 1)))) (.var 4)] []],
      .ret (.bfn .tuple [(.var 3)])]⟩
structure U__law_built_v2 (p : Pg) : Prop where
  s : Hs p "_law_built" c__law_built_v2
  _law_draw : U__law_draw p
theorem o__law_built_v2 {p : Pg} (u : U__law_built_v2 p) {n : Nat} {t0 t1 t2 : T} {P : T → List T → Prop} {X : Str → Prop} (h : WB ⟨phi p n, p.gl, p.fu⟩ c__law_built_v2.body [some t0, some t1, some t2, none, none, none, none, none, none, none] (fun G1 => WPar (parB c__law_built_v2.rf 0 [t0, t1, t2] G1) (P .non)) (fun t G1 => WPar (parB c__law_built_v2.rf 0 [t0, t1, t2] G1) (P t)) (fun _ => False) (fun _ => False) (fun n _ _ => isFL [t0, t1, t2] = true ∧ X n)) (ha : argOk c__law_built_v2.rf 0 [t0, t1, t2] = true := by top_args) : Call p (n + 1) "_law_built" [t0, t1, t2] P X := opn u.s rfl ha rfl h
def c__law_few_v1 : Dc := ⟨["_law_bag_here", "_law_widest", "_law_most", "_law_bound", "_law_crew", "_law_plan", "_law_size", "_law_whole_of", "_law_found", "_law_act"], ["_law_bag_here", "_law_widest", "_law_most", "_law_bound"], [0],
    [.frz 5 (.asg (.tp [(.nm 4), (.nm 5)]) (.cal "_law_built" [(.ref 0), (.var 1), (.var 2)])),
      .par 6 7 (.bfn .len [(.var 4)]) (.int 1),
      .asg (.nm 8) (.lst []),
      .frr (.nm 9) .val [(.shr 5)] [.iff (.cmp .eq (.ix (.var 9) (.int 0)) (.str "out")) [.iff (.cmp .gt (.bin .mul (.var 7) (.var 6)) (.var 3)) [.ret (.tup [(.mov 4), (.mov 8)])] [],
      .asg (.nm 7) (.bin .mul (.var 7) (.var 6))] [],
      .frz 6 (.asg (.nm 6) (.bin .add (.var 6) (.ix (.lst [(.int 1), (.neg (.int 1))]) (.bfn .int [(.cmp .eq (.ix (.var 9) (.int 0)) (.str "out"))])))),
      .exp (.mut .append 8 [(.var 9)])],
      .ret (.tup [(.mov 4), (.mov 8)])]⟩
structure U__law_few_v1 (p : Pg) : Prop where
  s : Hs p "_law_few" c__law_few_v1
  _law_built : U__law_built_v1 p
theorem o__law_few_v1 {p : Pg} (u : U__law_few_v1 p) {n : Nat} {t0 t1 t2 t3 : T} {P : T → List T → Prop} {X : Str → Prop} (h : WB ⟨phi p n, p.gl, p.fu⟩ c__law_few_v1.body [some t0, some t1, some t2, some t3, none, none, none, none, none, none] (fun G1 => WPar (parB c__law_few_v1.rf 0 [t0, t1, t2, t3] G1) (P .non)) (fun t G1 => WPar (parB c__law_few_v1.rf 0 [t0, t1, t2, t3] G1) (P t)) (fun _ => False) (fun _ => False) (fun n _ _ => isFL [t0, t1, t2, t3] = true ∧ X n)) (ha : argOk c__law_few_v1.rf 0 [t0, t1, t2, t3] = true := by top_args) : Call p (n + 1) "_law_few" [t0, t1, t2, t3] P X := opn u.s rfl ha rfl h
def c__law_counted_v1 : Dc := ⟨["_law_crew", "_law_plan", "_law_found", "_law_act"], ["_law_crew", "_law_plan"], [],
    [.asg (.nm 2) (.lst [(.bfn .len [(.var 0)])]),
      .frr (.nm 3) .val [(.var 1)] [.exp (.mut .append 2 [(.bin .add (.ix (.var 2) (.neg (.int 1))) (.ix (.lst [(.int 1), (.neg (.int 1))]) (.bfn .int [(.cmp .eq (.ix (.var 3) (.int 0)) (.str "out"))])))])],
      .ret (.mov 2)]⟩
structure U__law_counted_v1 (p : Pg) : Prop where
  s : Hs p "_law_counted" c__law_counted_v1
theorem o__law_counted_v1 {p : Pg} (u : U__law_counted_v1 p) {n : Nat} {t0 t1 : T} {P : T → List T → Prop} {X : Str → Prop} (h : WB ⟨phi p n, p.gl, p.fu⟩ c__law_counted_v1.body [some t0, some t1, none, none] (fun G1 => 2 ≤ G1.length ∧ P .non [t0, t1]) (fun t G1 => 2 ≤ G1.length ∧ P t [t0, t1]) (fun _ => False) (fun _ => False) (fun n _ _ => X n)) (ha : isFL [t0, t1] = true := by ktr_rel) : Call p (n + 1) "_law_counted" [t0, t1] P X := opn0 u.s rfl rfl ha rfl h
def c__law_number_v2 : Dc := ⟨["_law_sack_here", "_law_some"], ["_law_sack_here"], [0],
    [.frz 1 (.asg (.nm 1) (.lst [(.int 0), (.cal "_law_grab" [(.ref 0), (.int 3)]), (.cal "_law_grab" [(.ref 0), (.int 40)]), (.cal "_law_grab" [(.ref 0), (.bin .pow (.int 10) (.int 9))]), (.cal "_law_grab" [(.ref 0), (.bin .pow (.int 10) (.int 29))]), (.bin .pow (.int 10) (.int 29))])),
      .ret (.ix (.shr 1) (.cal "_law_grab" [(.ref 0), (.int 6)]))]⟩
structure U__law_number_v2 (p : Pg) : Prop where
  s : Hs p "_law_number" c__law_number_v2
  _law_grab : U__law_grab p
theorem o__law_number_v2 {p : Pg} (u : U__law_number_v2 p) {n : Nat} {t0 : T} {P : T → List T → Prop} {X : Str → Prop} (h : WB ⟨phi p n, p.gl, p.fu⟩ c__law_number_v2.body [some t0, none] (fun G1 => WPar (parB c__law_number_v2.rf 0 [t0] G1) (P .non)) (fun t G1 => WPar (parB c__law_number_v2.rf 0 [t0] G1) (P t)) (fun _ => False) (fun _ => False) (fun n _ _ => isFL [t0] = true ∧ X n)) (ha : argOk c__law_number_v2.rf 0 [t0] = true := by top_args) : Call p (n + 1) "_law_number" [t0] P X := opn u.s rfl ha rfl h
def c__law_is_of_v2 : Dc := ⟨["_law_comings_here", "_law_size", "_law_last_line", "_law_folk_here", "_law_one", "_law_spot", "_law_low"], ["_law_comings_here", "_law_size", "_law_last_line"], [],
    [.frz 3 (.asg (.nm 3) (.lc (.var 4) (.tp [(.nm 4), (.nm 5), (.nm 6)]) .val [(.var 0)] [] [4, 5, 6])),
      .ret (.and [(.cmp .eq (.bfn .len [(.var 2)]) (.var 1)), (.cmp .eq (.lc (.var 4) (.nm 4) .val [(.var 2)] [(.cmp .nin (.var 4) (.var 3))] [4]) (.lst []))])]⟩
structure U__law_is_of_v2 (p : Pg) : Prop where
  s : Hs p "_law_is_of" c__law_is_of_v2
theorem o__law_is_of_v2 {p : Pg} (u : U__law_is_of_v2 p) {n : Nat} {t0 t1 t2 : T} {P : T → List T → Prop} {X : Str → Prop} (h : WB ⟨phi p n, p.gl, p.fu⟩ c__law_is_of_v2.body [some t0, some t1, some t2, none, none, none, none] (fun G1 => 3 ≤ G1.length ∧ P .non [t0, t1, t2]) (fun t G1 => 3 ≤ G1.length ∧ P t [t0, t1, t2]) (fun _ => False) (fun _ => False) (fun n _ _ => X n)) (ha : isFL [t0, t1, t2] = true := by ktr_rel) : Call p (n + 1) "_law_is_of" [t0, t1, t2] P X := opn0 u.s rfl rfl ha rfl h
def c__law_no_row_v1 : Dc := ⟨["_law_bag_here", "_law_crew", "_law_some"], ["_law_bag_here", "_law_crew"], [0],
    [.frz 2 (.asg (.nm 2) (.lst [.non, (.bfn .list [(.var 1)]), (.bin .add (.var 1) (.tup [(.str "zq"), (.str "zq")])), (.bin .add (.var 1) (.tup [(.str "A")])), (.bin .add (.var 1) (.tup [(.str "abcde")])), (.bin .add (.var 1) (.tup [(.str "")])), (.bin .add (.var 1) (.tup [(.int 1)]))])),
      .ret (.ix (.bin .add (.var 2) (.lst [(.str "ab"), .nev, (.int 5), (.bin .add (.var 1) (.tup [.non])), (.bin .add (.var 1) (.tup [(.tup [(.str "a")])]))])) (.cal "_law_take" [(.ref 0), (.int 12)]))]⟩
structure U__law_no_row_v1 (p : Pg) : Prop where
  s : Hs p "_law_no_row" c__law_no_row_v1
  _law_take : U__law_take_v3 p
theorem o__law_no_row_v1 {p : Pg} (u : U__law_no_row_v1 p) {n : Nat} {t0 t1 : T} {P : T → List T → Prop} {X : Str → Prop} (h : WB ⟨phi p n, p.gl, p.fu⟩ c__law_no_row_v1.body [some t0, some t1, none] (fun G1 => WPar (parB c__law_no_row_v1.rf 0 [t0, t1] G1) (P .non)) (fun t G1 => WPar (parB c__law_no_row_v1.rf 0 [t0, t1] G1) (P t)) (fun _ => False) (fun _ => False) (fun n _ _ => isFL [t0, t1] = true ∧ X n)) (ha : argOk c__law_no_row_v1.rf 0 [t0, t1] = true := by top_args) : Call p (n + 1) "_law_no_row" [t0, t1] P X := opn u.s rfl ha rfl h
-- ?? _law_no_row: {}
def c__law_kind_v1 : Dc := ⟨["_law_e", "_law_some", "_law_found", "_law_told", "_law_there"], ["_law_e"], [],
    [.frz 1 (.asg (.nm 1) (.lst [(.tup [(.str "row"), (.isi (.var 0) ["NoRow"])]), (.tup [(.str "deeds"), (.isi (.var 0) ["NoDeeds"])]), (.tup [(.str "word"), (.isi (.var 0) ["NoWord"])])])),
      .frz 1 (.asg (.nm 1) (.bin .add (.var 1) (.lst [(.tup [(.str "number"), (.isi (.var 0) ["NoNumber"])]), (.tup [(.str "end"), (.isi (.var 0) ["NoEnd"])]), (.tup [(.str "part"), (.isi (.var 0) ["NoPart"])])]))),
      .frz 1 (.asg (.nm 1) (.bin .add (.var 1) (.lst [(.tup [(.str "person"), (.isi (.var 0) ["NoPerson"])]), (.tup [(.str "place"), (.isi (.var 0) ["NoPlace"])])]))),
      .frz 2 (.asl 2 (.lc (.var 3) (.tp [(.nm 3), (.nm 4)]) .val [(.bin .add (.var 1) (.lst [(.tup [(.str "many"), (.isi (.var 0) ["TooMany"])])]))] [(.var 4)] [3, 4])),
      .ret (.ite (.and [(.cmp .eq (.bfn .len [(.var 2)]) (.int 1)), (.isi (.var 0) ["ValueError"])]) (.ix (.var 2) (.int 0)) (.str "odd"))]⟩
structure U__law_kind_v1 (p : Pg) : Prop where
  s : Hs p "_law_kind" c__law_kind_v1
theorem o__law_kind_v1 {p : Pg} (u : U__law_kind_v1 p) {n : Nat} {t0 : T} {P : T → List T → Prop} {X : Str → Prop} (h : WB ⟨phi p n, p.gl, p.fu⟩ c__law_kind_v1.body [some t0, none, none, none, none] (fun G1 => 1 ≤ G1.length ∧ P .non [t0]) (fun t G1 => 1 ≤ G1.length ∧ P t [t0]) (fun _ => False) (fun _ => False) (fun n _ _ => X n)) (ha : isFL [t0] = true := by ktr_rel) : Call p (n + 1) "_law_kind" [t0] P X := opn0 u.s rfl rfl ha rfl h
def c__law_no_plan : Dc := ⟨["_law_bag_here", "_law_crew", "_law_plan", "_law_some"], ["_law_bag_here", "_law_crew", "_law_plan"], [0],
    [.asg (.nm 3) (.lst [.non, (.bfn .tuple [(.var 2)]), (.bin .mul (.lst [(.tup [(.str "out")])]) (.bin .add (.bfn .len [(.var 1)]) (.int 1))), (.lst [(.tup [(.str "in"), (.str "zq")]), (.tup [(.str "in"), (.str "zq")])]), (.lst [(.tup [(.str "out"), (.int 0)])]), (.lst [(.lst [(.str "out")])])]),
      .asg (.nm 3) (.bin .add (.var 3) (.lst [(.lst [(.str "out")]), (.lst [(.tup [(.str "in"), (.str "A")])]), (.lst [(.tup [(.str "off"), (.str "a")])]), (.lst [(.tup [(.str "in")])]), .nev, (.lst [(.tup [(.str "in"), (.str "zq"), (.int 1)])]), (.lst [.non]), (.lst [(.tup [(.str "in"), (.lst [(.str "a")])])])])),
      .exp (.mut .appendO 3 [(.lst [(.tup [(.str "in"), (.str "zq")]), (.tup [(.str "out")]), (.tup [(.str "in"), (.str "zq")])])]),
      .iff (.cmp .ne (.var 1) (.tup [])) [.exp (.mut .append 3 [(.bin .add (.bin .mul (.lst [(.tup [(.str "out")])]) (.bfn .len [(.var 1)])) (.lst [(.tup [(.str "in"), (.ix (.var 1) (.int 0))])]))])] [],
      .ret (.ix (.shr 3) (.cal "_law_take" [(.ref 0), (.bfn .len [(.var 3)])]))]⟩
structure U__law_no_plan (p : Pg) : Prop where
  s : Hs p "_law_no_plan" c__law_no_plan
  _law_take : U__law_take_v3 p
theorem o__law_no_plan {p : Pg} (u : U__law_no_plan p) {n : Nat} {t0 t1 t2 : T} {P : T → List T → Prop} {X : Str → Prop} (h : WB ⟨phi p n, p.gl, p.fu⟩ c__law_no_plan.body [some t0, some t1, some t2, none] (fun G1 => WPar (parB c__law_no_plan.rf 0 [t0, t1, t2] G1) (P .non)) (fun t G1 => WPar (parB c__law_no_plan.rf 0 [t0, t1, t2] G1) (P t)) (fun _ => False) (fun _ => False) (fun n _ _ => isFL [t0, t1, t2] = true ∧ X n)) (ha : argOk c__law_no_plan.rf 0 [t0, t1, t2] = true := by top_args) : Call p (n + 1) "_law_no_plan" [t0, t1, t2] P X := opn u.s rfl ha rfl h
-- ?? _law_no_plan: {}
def c__law_folk : Dc := ⟨["_law_bag_here", "_law_amount", "_law_signs_all", "_law_shift", "_law_tail", "_law_some", "_law_k"], ["_law_bag_here", "_law_amount"], [0],
    [.asg (.nm 2) (.str "abcdefghijklmnopqrstuvwxyz"),
      .par 3 4 (.cal "_law_draw" [(.ref 0), (.int 26)]) (.ix (.lst [(.str ""), (.str "z"), (.str "qz")]) (.cal "_law_draw" [(.ref 0), (.int 3)])),
      .asg (.nm 5) (.lst []),
      .frr (.nm 6) .rng [(.var 1)] [.exp (.mut .append 5 [(.bin .add (.bin .add (.ix (.var 2) (.bin .mod (.bin .add (.var 6) (.var 3)) (.int 26))) (.ite (.cmp .gt (.var 6) (.int 25)) (.ix (.var 2) (.bin .fdiv (.var 6) (.int 26))) (.str ""))) (.var 4))])],
      .ret (.cal "_law_mixed" [(.ref 0), (.var 5)])]⟩
structure U__law_folk (p : Pg) : Prop where
  s : Hs p "_law_folk" c__law_folk
  _law_mixed : U__law_mixed_v2 p
  _law_draw : U__law_draw p
theorem o__law_folk {p : Pg} (u : U__law_folk p) {n : Nat} {t0 t1 : T} {P : T → List T → Prop} {X : Str → Prop} (h : WB ⟨phi p n, p.gl, p.fu⟩ c__law_folk.body [some t0, some t1, none, none, none, none, none] (fun G1 => WPar (parB c__law_folk.rf 0 [t0, t1] G1) (P .non)) (fun t G1 => WPar (parB c__law_folk.rf 0 [t0, t1] G1) (P t)) (fun _ => False) (fun _ => False) (fun n _ _ => isFL [t0, t1] = true ∧ X n)) (ha : argOk c__law_folk.rf 0 [t0, t1] = true := by top_args) : Call p (n + 1) "_law_folk" [t0, t1] P X := opn u.s rfl ha rfl h
def c__law_tale : Dc := ⟨["_law_bag_here", "_law_size", "_law_folk_here", "_law_most", "_law_found", "_law_rest", "_law_lean", "_law_turned", "_law_k", "_law_comes"], ["_law_bag_here", "_law_size", "_law_folk_here", "_law_most"], [0],
    [.par 4 5 (.lst []) (.bfn .list [(.var 2)]),
      .par 6 7 (.bin .add (.int 2) (.cal "_law_draw" [(.ref 0), (.int 3)])) (.cal "_law_draw" [(.ref 0), (.int 2)]),
      .frr (.nm 8) .rng [(.cal "_law_draw" [(.ref 0), (.bin .add (.var 3) (.int 1))])] [.asg (.nm 9) (.cmp .ne (.cmp .eq (.cal "_law_draw" [(.ref 0), (.shr 6)]) (.int 0)) (.cmp .eq (.var 7) (.int 0))),
      .iff (.and [(.cmp .ne (.var 5) (.lst [])), (.cmp .lt (.var 1) (.int 38)), (.or [(.cmp .eq (.var 1) (.int 0)), (.var 9)])]) [.exp (.mut .append 4 [(.tup [(.str "in"), (.mut .pop 5 [])])]),
      .asg (.nm 1) (.bin .add (.var 1) (.int 1))] [.iff (.cmp .gt (.var 1) (.int 0)) [.exp (.mut .append 4 [(.tup [(.str "out")])]),
      .asg (.nm 1) (.bin .sub (.var 1) (.int 1))] []]],
      .ret (.mov 4)]⟩
structure U__law_tale (p : Pg) : Prop where
  s : Hs p "_law_tale" c__law_tale
  _law_draw : U__law_draw p
theorem o__law_tale {p : Pg} (u : U__law_tale p) {n : Nat} {t0 t1 t2 t3 : T} {P : T → List T → Prop} {X : Str → Prop} (h : WB ⟨phi p n, p.gl, p.fu⟩ c__law_tale.body [some t0, some t1, some t2, some t3, none, none, none, none, none, none] (fun G1 => WPar (parB c__law_tale.rf 0 [t0, t1, t2, t3] G1) (P .non)) (fun t G1 => WPar (parB c__law_tale.rf 0 [t0, t1, t2, t3] G1) (P t)) (fun _ => False) (fun _ => False) (fun n _ _ => isFL [t0, t1, t2, t3] = true ∧ X n)) (ha : argOk c__law_tale.rf 0 [t0, t1, t2, t3] = true := by top_args) : Call p (n + 1) "_law_tale" [t0, t1, t2, t3] P X := opn u.s rfl ha rfl h
def c__law_out : Dc := ⟨["_law_line", "_law_spot"], ["_law_line", "_law_spot"], [],
    [.iff (.cmp .eq (.var 1) (.bin .sub (.bfn .len [(.var 0)]) (.int 1))) [.ret (.slH (.var 0) (.neg (.int 1)))] [],
      .ret (.bin .add (.bin .add (.slH (.var 0) (.var 1)) (.slL (.var 0) (.neg (.int 1)))) (.slB (.var 0) (.bin .add (.var 1) (.int 1)) (.neg (.int 1))))]⟩
structure U__law_out (p : Pg) : Prop where
  s : Hs p "_law_out" c__law_out
theorem o__law_out {p : Pg} (u : U__law_out p) {n : Nat} {t0 t1 : T} {P : T → List T → Prop} {X : Str → Prop} (h : WB ⟨phi p n, p.gl, p.fu⟩ c__law_out.body [some t0, some t1] (fun G1 => 2 ≤ G1.length ∧ P .non [t0, t1]) (fun t G1 => 2 ≤ G1.length ∧ P t [t0, t1]) (fun _ => False) (fun _ => False) (fun n _ _ => X n)) (ha : isFL [t0, t1] = true := by ktr_rel) : Call p (n + 1) "_law_out" [t0, t1] P X := opn0 u.s rfl rfl ha rfl h
def c__law_counts : Dc := ⟨["_law_size", "_law_tale_here", "_law_found", "_law_act"], ["_law_size", "_law_tale_here"], [],
    [.asg (.nm 2) (.lst [(.var 0)]),
      .frr (.nm 3) .val [(.var 1)] [.exp (.mut .append 2 [(.bin .add (.ix (.var 2) (.neg (.int 1))) (.ite (.cmp .eq (.ix (.var 3) (.int 0)) (.str "in")) (.int 1) (.neg (.int 1))))])],
      .ret (.mov 2)]⟩
structure U__law_counts (p : Pg) : Prop where
  s : Hs p "_law_counts" c__law_counts
theorem o__law_counts {p : Pg} (u : U__law_counts p) {n : Nat} {t0 t1 : T} {P : T → List T → Prop} {X : Str → Prop} (h : WB ⟨phi p n, p.gl, p.fu⟩ c__law_counts.body [some t0, some t1, none, none] (fun G1 => 2 ≤ G1.length ∧ P .non [t0, t1]) (fun t G1 => 2 ≤ G1.length ∧ P t [t0, t1]) (fun _ => False) (fun _ => False) (fun n _ _ => X n)) (ha : isFL [t0, t1] = true := by ktr_rel) : Call p (n + 1) "_law_counts" [t0, t1] P X := opn0 u.s rfl rfl ha rfl h
def c__law_comings_v1 : Dc := ⟨["_law_line", "_law_tale_here", "_law_counts_here", "_law_lows", "_law_k", "_law_found", "_law_spot", "_law_one", "_law_act"], ["_law_line", "_law_tale_here"], [],
    [.frz 2 (.asg (.nm 2) (.cal "_law_counts" [(.bfn .len [(.var 0)]), (.var 1)])),
      .asg (.nm 3) (.bfn .list [(.var 2)]),
      .frr (.nm 4) .rng [(.bin .sub (.bfn .len [(.var 2)]) (.int 2)), (.neg (.int 1)), (.neg (.int 1))] [.asg (.sb 3 (.var 4)) (.bfn .min [(.ix (.var 3) (.var 4)), (.ix (.var 3) (.bin .add (.var 4) (.int 1)))])],
      .asl 5 (.lc (.tup [(.var 7), (.var 6), (.ix (.var 3) (.int 0))]) (.tp [(.nm 6), (.nm 7)]) .enm [(.var 0)] [] [6, 7]),
      .frr (.tp [(.nm 4), (.nm 8)]) .enm [(.var 1)] [.iff (.cmp .eq (.ix (.var 8) (.int 0)) (.str "in")) [.exp (.mut .append 5 [(.tup [(.ix (.var 8) (.int 1)), (.ix (.var 2) (.var 4)), (.ix (.var 3) (.bin .add (.var 4) (.int 1)))])])] []],
      .ret (.mov 5)]⟩
structure U__law_comings_v1 (p : Pg) : Prop where
  s : Hs p "_law_comings" c__law_comings_v1
  _law_counts : U__law_counts p
theorem o__law_comings_v1 {p : Pg} (u : U__law_comings_v1 p) {n : Nat} {t0 t1 : T} {P : T → List T → Prop} {X : Str → Prop} (h : WB ⟨phi p n, p.gl, p.fu⟩ c__law_comings_v1.body [some t0, some t1, none, none, none, none, none, none, none] (fun G1 => 2 ≤ G1.length ∧ P .non [t0, t1]) (fun t G1 => 2 ≤ G1.length ∧ P t [t0, t1]) (fun _ => False) (fun _ => False) (fun n _ _ => X n)) (ha : isFL [t0, t1] = true := by ktr_rel) : Call p (n + 1) "_law_comings" [t0, t1] P X := opn0 u.s rfl rfl ha rfl h
def c__law_comings_v2 : Dc := ⟨["_law_crew", "_law_plan", "_law_counts_here", "_law_found", "_law_spot", "_law_one", "_law_k", "_law_act"], ["_law_crew", "_law_plan"], [],
    [.frz 2 (.asg (.nm 2) (.cal "_law_counted" [(.var 0), (.var 1)])),
      .asl 3 (.lc (.tup [(.var 5), (.var 4), (.bfn .min [(.var 2)])]) (.tp [(.nm 4), (.nm 5)]) .enm [(.var 0)] [] [4, 5]),
      .frr (.tp [(.nm 6), (.nm 7)]) .enm [(.var 1)] [.iff (.cmp .eq (.ix (.var 7) (.int 0)) (.str "in")) [.exp (.mut .append 3 [(.tup [(.ix (.var 7) (.int 1)), (.ix (.var 2) (.var 6)), (.bfn .min [(.slL (.var 2) (.bin .add (.var 6) (.int 1)))])])])] []],
      .ret (.mov 3)]⟩
structure U__law_comings_v2 (p : Pg) : Prop where
  s : Hs p "_law_comings" c__law_comings_v2
  _law_counted : U__law_counted_v1 p
theorem o__law_comings_v2 {p : Pg} (u : U__law_comings_v2 p) {n : Nat} {t0 t1 : T} {P : T → List T → Prop} {X : Str → Prop} (h : WB ⟨phi p n, p.gl, p.fu⟩ c__law_comings_v2.body [some t0, some t1, none, none, none, none, none, none] (fun G1 => 2 ≤ G1.length ∧ P .non [t0, t1]) (fun t G1 => 2 ≤ G1.length ∧ P t [t0, t1]) (fun _ => False) (fun _ => False) (fun n _ _ => X n)) (ha : isFL [t0, t1] = true := by ktr_rel) : Call p (n + 1) "_law_comings" [t0, t1] P X := opn0 u.s rfl rfl ha rfl h
def c__law_wrong_spot : Dc := ⟨["_law_comings_here", "_law_last_line", "_law_known", "_law_one", "_law_spot", "_law_low", "_law_at"], ["_law_comings_here", "_law_last_line"], [],
    [.frz 2 (.asg (.nm 2) .nev),
      .frr (.tp [(.nm 6), (.nm 3)]) .enm [(.var 1)] [.frz 5 (.frz 4 (.asg (.tp [(.nm 4), (.nm 5)]) (.ix (.var 2) (.var 3)))),
      .iff (.ite (.cmp .lt (.var 4) (.var 5)) (.cmp .ne (.var 6) (.var 4)) (.cmp .ge (.var 6) (.var 5))) [.ret (.mov 6)] []],
      .ret .non]⟩
structure U__law_wrong_spot (p : Pg) : Prop where
  s : Hs p "_law_wrong_spot" c__law_wrong_spot
theorem o__law_wrong_spot {p : Pg} (u : U__law_wrong_spot p) {n : Nat} {t0 t1 : T} {P : T → List T → Prop} {X : Str → Prop} (h : WB ⟨phi p n, p.gl, p.fu⟩ c__law_wrong_spot.body [some t0, some t1, none, none, none, none, none] (fun G1 => 2 ≤ G1.length ∧ P .non [t0, t1]) (fun t G1 => 2 ≤ G1.length ∧ P t [t0, t1]) (fun _ => False) (fun _ => False) (fun n _ _ => X n)) (ha : isFL [t0, t1] = true := by ktr_rel) : Call p (n + 1) "_law_wrong_spot" [t0, t1] P X := opn0 u.s rfl rfl ha rfl h
-- ?? _law_wrong_spot: dict([(_law_one, (_law_spot, _law_low)) for _law_one, _law_spot, _law_low in _law_comings_here])
def c__law_words_v1 : Dc := ⟨["_law_e", "_law_some", "_law_label", "_law_fits"], ["_law_e"], [],
    [.asg (.nm 1) (.lst [(.tup [(.str "NoRow"), (.isi (.var 0) ["NoRow"])]), (.tup [(.str "NoDeeds"), (.isi (.var 0) ["NoDeeds"])]), (.tup [(.str "NoEnd"), (.isi (.var 0) ["NoEnd"])])]),
      .asg (.nm 1) (.bin .add (.var 1) (.lst [(.tup [(.str "NoPerson"), (.isi (.var 0) ["NoPerson"])]), (.tup [(.str "NoPlace"), (.isi (.var 0) ["NoPlace"])])])),
      .asg (.nm 1) (.bin .add (.var 1) (.lst [(.tup [(.str "NoMoment"), (.isi (.var 0) ["NoMoment"])]), (.tup [(.str "NoNumber"), (.isi (.var 0) ["NoNumber"])])])),
      .asg (.nm 1) (.bin .add (.var 1) (.lst [(.tup [(.str "NoSizes"), (.isi (.var 0) ["NoSizes"])]), (.tup [(.str "NoLetters"), (.isi (.var 0) ["NoLetters"])])])),
      .asg (.nm 1) (.bin .add (.var 1) (.lst [(.tup [(.str "NoMoments"), (.isi (.var 0) ["NoMoments"])]), (.tup [(.str "NoWord"), (.isi (.var 0) ["NoWord"])])])),
      .asg (.nm 1) (.bin .add (.var 1) (.lst [(.tup [(.str "NoPart"), (.isi (.var 0) ["NoPart"])]), (.tup [(.str "NoSwaps"), (.isi (.var 0) ["NoSwaps"])])])),
      .asg (.nm 1) (.bin .add (.var 1) (.lst [(.tup [(.str "Unlike"), (.isi (.var 0) ["Unlike"])]), (.tup [(.str "NoWork"), (.isi (.var 0) ["NoWork"])])])),
      .asg (.nm 1) (.bin .add (.var 1) (.lst [(.tup [(.str "NoTable"), (.isi (.var 0) ["NoTable"])]), (.tup [(.str "TooMany"), (.isi (.var 0) ["TooMany"])])])),
      .asg (.nm 1) (.bin .add (.var 1) (.lst [(.tup [(.str "TooShort"), (.isi (.var 0) ["TooShort"])]), (.tup [(.str "NoText"), (.isi (.var 0) ["NoText"])])])),
      .exp (.mut .append 1 [(.tup [(.str "value"), (.isi (.var 0) ["ValueError"])])]),
      .ret (.lc (.var 2) (.tp [(.nm 2), (.nm 3)]) .val [(.var 1)] [(.var 3)] [2, 3])]⟩
structure U__law_words_v1 (p : Pg) : Prop where
  s : Hs p "_law_words" c__law_words_v1
theorem o__law_words_v1 {p : Pg} (u : U__law_words_v1 p) {n : Nat} {t0 : T} {P : T → List T → Prop} {X : Str → Prop} (h : WB ⟨phi p n, p.gl, p.fu⟩ c__law_words_v1.body [some t0, none, none, none] (fun G1 => 1 ≤ G1.length ∧ P .non [t0]) (fun t G1 => 1 ≤ G1.length ∧ P t [t0]) (fun _ => False) (fun _ => False) (fun n _ _ => X n)) (ha : isFL [t0] = true := by ktr_rel) : Call p (n + 1) "_law_words" [t0] P X := opn0 u.s rfl rfl ha rfl h
def c__wall : Dc := ⟨["k"], ["k"], [],
    [.whl (.bl true) [.pas]]⟩
structure U__wall (p : Pg) : Prop where
  s : Hs p "_wall" c__wall
theorem o__wall {p : Pg} (u : U__wall p) {n : Nat} {t0 : T} {P : T → List T → Prop} {X : Str → Prop} (h : WB ⟨phi p n, p.gl, p.fu⟩ c__wall.body [some t0] (fun G1 => 1 ≤ G1.length ∧ P .non [t0]) (fun t G1 => 1 ≤ G1.length ∧ P t [t0]) (fun _ => False) (fun _ => False) (fun n _ _ => X n)) (ha : isFL [t0] = true := by ktr_rel) : Call p (n + 1) "_wall" [t0] P X := opn0 u.s rfl rfl ha rfl h
def c__law_fall_rise : Dc := ⟨["_law_bag_here", "_law_widest", "_law_most", "_law_crew", "_law_plan", "_law_size", "_law_kind", "_law_sign"], ["_law_bag_here", "_law_widest", "_law_most"], [0],
    [.asg (.tp [(.nm 3), (.nm 4)]) (.cal "_law_built" [(.ref 0), (.var 1), (.var 2)]),
      .frz 5 (.asg (.nm 5) (.ix (.cal "_law_counted" [(.shr 3), (.shr 4)]) (.neg (.int 1)))),
      .frz 6 (.asg (.nm 6) (.cal "_law_take" [(.ref 0), (.int 3)])),
      .iff (.cmp .eq (.var 6) (.int 0)) [.asg (.nm 4) (.bin .add (.shr 4) (.bin .mul (.lst [(.tup [(.str "out")])]) (.cal "_law_take" [(.ref 0), (.bin .add (.var 5) (.int 1))])))] [],
      .iff (.cmp .eq (.var 6) (.int 1)) [.asg (.nm 4) (.bin .add (.shr 4) (.lc (.tup [(.str "in"), (.bin .add (.str "yx") (.var 7))]) (.nm 7) .val [(.slH (.str "pqrst") (.cal "_law_take" [(.ref 0), (.int 6)]))] [] [7]))] [],
      .ret (.tup [(.mov 3), (.mov 4)])]⟩
structure U__law_fall_rise (p : Pg) : Prop where
  s : Hs p "_law_fall_rise" c__law_fall_rise
  _law_built : U__law_built_v1 p
  _law_take : U__law_take_v3 p
  _law_counted : U__law_counted_v1 p
theorem o__law_fall_rise {p : Pg} (u : U__law_fall_rise p) {n : Nat} {t0 t1 t2 : T} {P : T → List T → Prop} {X : Str → Prop} (h : WB ⟨phi p n, p.gl, p.fu⟩ c__law_fall_rise.body [some t0, some t1, some t2, none, none, none, none, none] (fun G1 => WPar (parB c__law_fall_rise.rf 0 [t0, t1, t2] G1) (P .non)) (fun t G1 => WPar (parB c__law_fall_rise.rf 0 [t0, t1, t2] G1) (P t)) (fun _ => False) (fun _ => False) (fun n _ _ => isFL [t0, t1, t2] = true ∧ X n)) (ha : argOk c__law_fall_rise.rf 0 [t0, t1, t2] = true := by top_args) : Call p (n + 1) "_law_fall_rise" [t0, t1, t2] P X := opn u.s rfl ha rfl h
def c__law_ranked : Dc := ⟨["_law_crew", "_law_plan", "_law_lines", "_law_folk", "_law_act", "_law_some", "_law_line", "_law_one", "_law_numbers", "_law_at"], ["_law_crew", "_law_plan", "_law_lines"], [],
    [.frz 3 (.asg (.nm 3) (.bin .add (.bfn .list [(.var 0)]) (.lc (.ix (.var 4) (.int 1)) (.nm 4) .val [(.var 1)] [(.cmp .eq (.ix (.var 4) (.int 0)) (.str "in"))] [4]))),
      .frz 5 (.asg (.nm 5) (.bfn .sorted [(.lc (.lc (.met .index (.var 3) [(.var 7)]) (.nm 7) .val [(.var 6)] [] [7]) (.nm 6) .val [(.var 2)] [] [6])])),
      .ret (.lc (.bfn .tuple [(.lc (.ix (.var 3) (.var 9)) (.nm 9) .val [(.var 8)] [] [9])]) (.nm 8) .val [(.var 5)] [] [8])]⟩
structure U__law_ranked (p : Pg) : Prop where
  s : Hs p "_law_ranked" c__law_ranked
theorem o__law_ranked {p : Pg} (u : U__law_ranked p) {n : Nat} {t0 t1 t2 : T} {P : T → List T → Prop} {X : Str → Prop} (h : WB ⟨phi p n, p.gl, p.fu⟩ c__law_ranked.body [some t0, some t1, some t2, none, none, none, none, none, none, none] (fun G1 => 3 ≤ G1.length ∧ P .non [t0, t1, t2]) (fun t G1 => 3 ≤ G1.length ∧ P t [t0, t1, t2]) (fun _ => False) (fun _ => False) (fun n _ _ => X n)) (ha : isFL [t0, t1, t2] = true := by ktr_rel) : Call p (n + 1) "_law_ranked" [t0, t1, t2] P X := opn0 u.s rfl rfl ha rfl h
def c__law_rings : Dc := ⟨["_law_line", "_law_goal", "_law_goes", "_law_one", "_law_left", "_law_found", "_law_ring", "_law_spot", "_law_size"], ["_law_line", "_law_goal"], [],
    [.frz 2 (.asl 2 (.lc (.met .index (.var 1) [(.var 3)]) (.nm 3) .val [(.var 0)] [] [3])),
      .frz 4 (.asg (.nm 4) (.lrg (.bfn .len [(.var 0)]))),
      .asg (.nm 5) (.lst []),
      .whl (.cmp .ne (.var 4) (.lst [])) [.asg (.nm 6) (.lst [(.ix (.var 4) (.neg (.int 1)))]),
      .whl (.cmp .ne (.ix (.var 2) (.ix (.var 6) (.neg (.int 1)))) (.ix (.var 6) (.int 0))) [.exp (.mut .append 6 [(.ix (.var 2) (.ix (.var 6) (.neg (.int 1))))])],
      .frz 4 (.asl 4 (.lc (.var 7) (.nm 7) .val [(.var 4)] [(.cmp .nin (.var 7) (.var 6))] [7])),
      .exp (.mut .append 5 [(.bfn .len [(.var 6)])])],
      .ret (.tup [(.ix (.var 5) (.int 0)), (.lc (.var 8) (.nm 8) .val [(.slL (.var 5) (.int 1))] [(.cmp .gt (.var 8) (.int 1))] [8])])]⟩
structure U__law_rings (p : Pg) : Prop where
  s : Hs p "_law_rings" c__law_rings
theorem o__law_rings {p : Pg} (u : U__law_rings p) {n : Nat} {t0 t1 : T} {P : T → List T → Prop} {X : Str → Prop} (h : WB ⟨phi p n, p.gl, p.fu⟩ c__law_rings.body [some t0, some t1, none, none, none, none, none, none, none] (fun G1 => 2 ≤ G1.length ∧ P .non [t0, t1]) (fun t G1 => 2 ≤ G1.length ∧ P t [t0, t1]) (fun _ => False) (fun _ => False) (fun n _ _ => X n)) (ha : isFL [t0, t1] = true := by ktr_rel) : Call p (n + 1) "_law_rings" [t0, t1] P X := opn0 u.s rfl rfl ha rfl h
def c__law_work : Dc := ⟨["_law_bag_here", "_law_most", "_law_wide", "_law_lean", "_law_found", "_law_k"], ["_law_bag_here", "_law_most", "_law_wide"], [0],
    [.frz 3 (.asg (.nm 3) (.bin .add (.int 2) (.cal "_law_draw" [(.ref 0), (.int 3)]))),
      .asg (.nm 4) (.lst []),
      .frr (.nm 5) .rng [(.cal "_law_draw" [(.ref 0), (.bin .add (.var 1) (.int 1))])] [.iff (.cmp .eq (.cal "_law_draw" [(.ref 0), (.shr 3)]) (.int 0)) [.exp (.mut .append 4 [(.tup [(.str "put")])])] [.exp (.mut .append 4 [(.tup [(.str "out"), (.ix (.lst [(.cal "_law_draw" [(.ref 0), (.var 2)]), (.cal "_law_draw" [(.ref 0), (.bfn .min [(.var 2), (.int 4)])])]) (.cal "_law_draw" [(.ref 0), (.int 2)]))])])]],
      .ret (.mov 4)]⟩
structure U__law_work (p : Pg) : Prop where
  s : Hs p "_law_work" c__law_work
  _law_draw : U__law_draw p
theorem o__law_work {p : Pg} (u : U__law_work p) {n : Nat} {t0 t1 t2 : T} {P : T → List T → Prop} {X : Str → Prop} (h : WB ⟨phi p n, p.gl, p.fu⟩ c__law_work.body [some t0, some t1, some t2, none, none, none] (fun G1 => WPar (parB c__law_work.rf 0 [t0, t1, t2] G1) (P .non)) (fun t G1 => WPar (parB c__law_work.rf 0 [t0, t1, t2] G1) (P t)) (fun _ => False) (fun _ => False) (fun n _ _ => isFL [t0, t1, t2] = true ∧ X n)) (ha : argOk c__law_work.rf 0 [t0, t1, t2] = true := by top_args) : Call p (n + 1) "_law_work" [t0, t1, t2] P X := opn u.s rfl ha rfl h
def c__law_long : Dc := ⟨["_law_acts", "_law_spots", "_law_act"], ["_law_acts"], [],
    [.frz 1 (.asl 1 (.lc (.ix (.var 2) (.int 1)) (.nm 2) .val [(.var 0)] [(.cmp .eq (.ix (.var 2) (.int 0)) (.str "out"))] [2])),
      .ret (.bin .add (.bin .add (.bfn .max [(.bin .add (.var 1) (.lst [(.neg (.int 1))]))]) (.int 1)) (.bfn .len [(.var 1)]))]⟩
structure U__law_long (p : Pg) : Prop where
  s : Hs p "_law_long" c__law_long
theorem o__law_long {p : Pg} (u : U__law_long p) {n : Nat} {t0 : T} {P : T → List T → Prop} {X : Str → Prop} (h : WB ⟨phi p n, p.gl, p.fu⟩ c__law_long.body [some t0, none, none] (fun G1 => 1 ≤ G1.length ∧ P .non [t0]) (fun t G1 => 1 ≤ G1.length ∧ P t [t0]) (fun _ => False) (fun _ => False) (fun n _ _ => X n)) (ha : isFL [t0] = true := by ktr_rel) : Call p (n + 1) "_law_long" [t0] P X := opn0 u.s rfl rfl ha rfl h
def c__law_pile : Dc := ⟨["_law_acts", "_law_pile_here", "_law_spots", "_law_gone_in", "_law_came", "_law_act", "_law_spot"], ["_law_acts"], [],
    [.frz 4 (.asg (.tp [(.nm 1), (.nm 2), (.nm 3), (.nm 4)]) (.tup [(.lst []), .nev, (.int 0), (.int 0)])),
      .frr (.nm 5) .val [(.var 0)] [.iff (.cmp .eq (.ix (.var 5) (.int 0)) (.str "put")) [.exp (.mut .append 1 [(.var 4)]),
      .asg (.nm 4) (.bin .add (.var 4) (.int 1))] [.iff (.cmp .ne (.var 1) (.lst [])) [.asg (.sb 2 (.ix (.var 5) (.int 1))) (.tup [(.str "new"), (.mut .pop 1 [])])] [.asg (.sb 2 (.ix (.var 5) (.int 1))) (.tup [(.str "end"), (.var 3)]),
      .asg (.nm 3) (.bin .add (.var 3) (.int 1))]]],
      .ret (.tup [(.mov 3), (.lc (.tup [(.var 6), (.ix (.var 2) (.var 6))]) (.nm 6) .val [(.bfn .sorted [(.var 2)])] [] [6]), (.mov 1)])]⟩
structure U__law_pile (p : Pg) : Prop where
  s : Hs p "_law_pile" c__law_pile
theorem o__law_pile {p : Pg} (u : U__law_pile p) {n : Nat} {t0 : T} {P : T → List T → Prop} {X : Str → Prop} (h : WB ⟨phi p n, p.gl, p.fu⟩ c__law_pile.body [some t0, none, none, none, none, none, none] (fun G1 => 1 ≤ G1.length ∧ P .non [t0]) (fun t G1 => 1 ≤ G1.length ∧ P t [t0]) (fun _ => False) (fun _ => False) (fun n _ _ => X n)) (ha : isFL [t0] = true := by ktr_rel) : Call p (n + 1) "_law_pile" [t0] P X := opn0 u.s rfl rfl ha rfl h
-- ?? _law_pile: {}
def c__law_after : Dc := ⟨["_law_line", "_law_acts", "_law_turn", "_law_came", "_law_act", "_law_one"], ["_law_line", "_law_acts", "_law_turn"], [],
    [.par 0 3 (.bfn .list [(.var 0)]) (.int 0),
      .frr (.nm 4) .val [(.var 1)] [.iff (.cmp .eq (.ix (.var 4) (.int 0)) (.str "put")) [.exp (.mut .append 0 [(.tup [(.str "new"), (.var 2), (.var 3)])]),
      .asg (.nm 3) (.bin .add (.var 3) (.int 1))] [.frz 5 (.asg (.nm 5) (.mut .pop 0 [])),
      .iff (.cmp .lt (.ix (.var 4) (.int 1)) (.bfn .len [(.var 0)])) [.asg (.sb 0 (.ix (.var 4) (.int 1))) (.var 5)] []]],
      .ret (.var 0)]⟩
structure U__law_after (p : Pg) : Prop where
  s : Hs p "_law_after" c__law_after
theorem o__law_after {p : Pg} (u : U__law_after p) {n : Nat} {t0 t1 t2 : T} {P : T → List T → Prop} {X : Str → Prop} (h : WB ⟨phi p n, p.gl, p.fu⟩ c__law_after.body [some t0, some t1, some t2, none, none, none] (fun G1 => 3 ≤ G1.length ∧ P .non [t0, t1, t2]) (fun t G1 => 3 ≤ G1.length ∧ P t [t0, t1, t2]) (fun _ => False) (fun _ => False) (fun n _ _ => X n)) (ha : isFL [t0, t1, t2] = true := by ktr_rel) : Call p (n + 1) "_law_after" [t0, t1, t2] P X := opn0 u.s rfl rfl ha rfl h
def c__law_puts : Dc := ⟨["_law_acts", "_law_act"], ["_law_acts"], [],
    [.ret (.bfn .len [(.lc (.int 1) (.nm 1) .val [(.var 0)] [(.cmp .eq (.ix (.var 1) (.int 0)) (.str "put"))] [1])])]⟩
structure U__law_puts (p : Pg) : Prop where
  s : Hs p "_law_puts" c__law_puts
theorem o__law_puts {p : Pg} (u : U__law_puts p) {n : Nat} {t0 : T} {P : T → List T → Prop} {X : Str → Prop} (h : WB ⟨phi p n, p.gl, p.fu⟩ c__law_puts.body [some t0, none] (fun G1 => 1 ≤ G1.length ∧ P .non [t0]) (fun t G1 => 1 ≤ G1.length ∧ P t [t0]) (fun _ => False) (fun _ => False) (fun n _ _ => X n)) (ha : isFL [t0] = true := by ktr_rel) : Call p (n + 1) "_law_puts" [t0] P X := opn0 u.s rfl rfl ha rfl h
def c__law_made : Dc := ⟨["_law_sack_here", "_law_pool", "_law_most", "_law_signs", "_law_step", "_law_folk", "_law_numbers", "_law_named", "_law_acts", "_law_terms", "_law_tasks", "_law_k", "_law_going", "_law_sent", "_law_one", "_law_other"], ["_law_sack_here"], [0],
    [.frz 1 (.asg (.nm 1) (.cal "_law_names" [(.ref 0), (.bin .add (.int 1) (.cal "_law_grab" [(.ref 0), (.int 80)]))])),
      .frz 2 (.asg (.nm 2) (.ix (.lst [(.int 6), (.int 90)]) (.bin .fdiv (.cal "_law_grab" [(.ref 0), (.int 3)]) (.int 2)))),
      .frz 3 (.asg (.nm 3) (.lc (.cal "_law_grab" [(.ref 0), (.int 2)]) (.nm 4) .rng [(.cal "_law_grab" [(.ref 0), (.bin .add (.var 2) (.int 1))])] [] [4])),
      .frz 5 (.asl 5 (.lc (.ix (.shr 1) (.cal "_law_grab" [(.ref 0), (.bfn .len [(.var 1)])])) (.nm 4) .val [(.var 3)] [] [4])),
      .frz 6 (.asl 6 (.lc (.cal "_law_number" [(.ref 0)]) (.nm 4) .val [(.var 3)] [] [4])),
      .asg (.nm 7) (.cmp .eq (.cal "_law_grab" [(.ref 0), (.int 2)]) (.int 0)),
      .asg (.tp [(.nm 8), (.nm 9), (.nm 10)]) (.tup [(.lst []), (.lst []), (.lst [])]),
      .frr (.nm 11) .rng [(.bfn .len [(.var 3)])] [.frz 12 (.asg (.nm 12) (.ite (.var 7) (.tup [(.str "off"), (.ix (.var 5) (.var 11))]) (.tup [(.str "out"), (.ix (.var 6) (.var 11))]))),
      .exp (.mut .append 8 [(.ix (.lst [(.tup [(.str "in"), (.ix (.var 5) (.var 11))]), (.var 12)]) (.ix (.var 3) (.var 11)))]),
      .exp (.mut .append 9 [(.ix (.lst [(.tup [(.str "in"), (.ix (.var 5) (.var 11))]), (.tup [(.str "out")])]) (.ix (.var 3) (.var 11)))]),
      .exp (.mut .append 10 [(.ix (.lst [(.tup [(.str "put")]), (.tup [(.str "out"), (.ix (.var 6) (.var 11))])]) (.ix (.var 3) (.var 11)))])],
      .frz 13 (.asg (.nm 13) (.lc (.tup [(.bfn .min [(.var 14), (.var 15)]), (.bfn .max [(.var 14), (.var 15)])]) (.tp [(.nm 14), (.nm 15)]) .zip [(.var 6), (.bin .add (.slL (.var 6) (.int 1)) (.lst [(.int 0)]))] [] [14, 15])),
      .frz 13 (.asg (.nm 13) (.lc (.ite (.cmp .eq (.ix (.var 3) (.var 11)) (.int 0)) .non (.ix (.var 13) (.var 11))) (.nm 11) .rng [(.bfn .len [(.var 3)])] [] [11])),
      .ret (.lst [(.bfn .tuple [(.slH (.var 1) (.cal "_law_grab" [(.ref 0), (.bin .add (.bfn .len [(.var 1)]) (.int 1))]))]), (.mov 8), (.mov 9), (.mov 10), (.slH (.var 13) (.int 45))])]⟩
structure U__law_made (p : Pg) : Prop where
  s : Hs p "_law_made" c__law_made
  _law_names : U__law_names_v1 p
  _law_grab : U__law_grab p
  _law_number : U__law_number_v2 p
theorem o__law_made {p : Pg} (u : U__law_made p) {n : Nat} {t0 : T} {P : T → List T → Prop} {X : Str → Prop} (h : WB ⟨phi p n, p.gl, p.fu⟩ c__law_made.body [some t0, none, none, none, none, none, none, none, none, none, none, none, none, none, none, none] (fun G1 => WPar (parB c__law_made.rf 0 [t0] G1) (P .non)) (fun t G1 => WPar (parB c__law_made.rf 0 [t0] G1) (P t)) (fun _ => False) (fun _ => False) (fun n _ _ => isFL [t0] = true ∧ X n)) (ha : argOk c__law_made.rf 0 [t0] = true := by top_args) : Call p (n + 1) "_law_made" [t0] P X := opn u.s rfl ha rfl h
def c__law_plain : Dc := ⟨["_law_sack_here", "_law_line", "_law_fresh", "_law_most", "_law_people", "_law_spare", "_law_found", "_law_k", "_law_spot"], ["_law_sack_here", "_law_line", "_law_fresh", "_law_most"], [0],
    [.asg (.nm 4) (.bfn .list [(.var 1)]),
      .asg (.nm 5) (.bfn .list [(.var 2)]),
      .asg (.nm 6) (.lst []),
      .frr (.nm 7) .rng [(.cal "_law_grab" [(.ref 0), (.bin .add (.var 3) (.int 1))])] [.iff (.and [(.cmp .ne (.var 5) (.lst [])), (.or [(.cmp .eq (.var 4) (.lst [])), (.cmp .eq (.cal "_law_grab" [(.ref 0), (.int 2)]) (.int 0))])]) [.exp (.mut .append 4 [(.mut .pop 5 [(.int 0)])]),
      .exp (.mut .append 6 [(.tup [(.str "in"), (.ix (.var 4) (.neg (.int 1)))])])] [.iff (.cmp .ne (.var 4) (.lst [])) [.frz 8 (.asg (.nm 8) (.ix (.lst [(.int 0), (.bin .sub (.bfn .len [(.var 4)]) (.int 1)), (.cal "_law_grab" [(.ref 0), (.bfn .len [(.var 4)])])]) (.cal "_law_grab" [(.ref 0), (.int 3)]))),
      .exp (.mut .append 6 [(.tup [(.str "out"), (.var 8)])]),
      .asg (.sb 4 (.var 8)) (.ix (.var 4) (.neg (.int 1))),
      .exp (.mut .pop 4 [])] []]],
      .ret (.mov 6)]⟩
structure U__law_plain (p : Pg) : Prop where
  s : Hs p "_law_plain" c__law_plain
  _law_grab : U__law_grab p
theorem o__law_plain {p : Pg} (u : U__law_plain p) {n : Nat} {t0 t1 t2 t3 : T} {P : T → List T → Prop} {X : Str → Prop} (h : WB ⟨phi p n, p.gl, p.fu⟩ c__law_plain.body [some t0, some t1, some t2, some t3, none, none, none, none, none] (fun G1 => WPar (parB c__law_plain.rf 0 [t0, t1, t2, t3] G1) (P .non)) (fun t G1 => WPar (parB c__law_plain.rf 0 [t0, t1, t2, t3] G1) (P t)) (fun _ => False) (fun _ => False) (fun n _ _ => isFL [t0, t1, t2, t3] = true ∧ X n)) (ha : argOk c__law_plain.rf 0 [t0, t1, t2, t3] = true := by top_args) : Call p (n + 1) "_law_plain" [t0, t1, t2, t3] P X := opn u.s rfl ha rfl h
def c__law_word_of : Dc := ⟨["_law_acts_here", "_law_act"], ["_law_acts_here"], [],
    [.ret (.lc (.ite (.cmp .eq (.ix (.var 1) (.int 0)) (.str "in")) (.var 1) (.tup [(.str "out")])) (.nm 1) .val [(.var 0)] [] [1])]⟩
structure U__law_word_of (p : Pg) : Prop where
  s : Hs p "_law_word_of" c__law_word_of
theorem o__law_word_of {p : Pg} (u : U__law_word_of p) {n : Nat} {t0 : T} {P : T → List T → Prop} {X : Str → Prop} (h : WB ⟨phi p n, p.gl, p.fu⟩ c__law_word_of.body [some t0, none] (fun G1 => 1 ≤ G1.length ∧ P .non [t0]) (fun t G1 => 1 ≤ G1.length ∧ P t [t0]) (fun _ => False) (fun _ => False) (fun n _ _ => X n)) (ha : isFL [t0] = true := by ktr_rel) : Call p (n + 1) "_law_word_of" [t0] P X := opn0 u.s rfl rfl ha rfl h
end QX

set_option Elab.async false
set_option linter.all false
set_option maxRecDepth 100000
namespace QX
open PySem
def c_is_amount : Dc := ⟨["thing"], ["thing"], [],
    [.ret (.and [(.isi (.var 0) ["int"]), (.not (.isi (.var 0) ["bool"])), (.cmp .ge (.var 0) (.int 0))])]⟩
structure U_is_amount (p : Pg) : Prop where
  s : Hs p "is_amount" c_is_amount
theorem o_is_amount {p : Pg} (u : U_is_amount p) {n : Nat} {t0 : T} {P : T → List T → Prop} {X : Str → Prop} (h : WB ⟨phi p n, p.gl, p.fu⟩ c_is_amount.body [some t0] (fun G1 => 1 ≤ G1.length ∧ P .non [t0]) (fun t G1 => 1 ≤ G1.length ∧ P t [t0]) (fun _ => False) (fun _ => False) (fun n _ _ => X n)) (ha : isFL [t0] = true := by ktr_rel) : Call p (n + 1) "is_amount" [t0] P X := opn0 u.s rfl rfl ha rfl h
def c_is_person : Dc := ⟨["thing", "sign"], ["thing"], [],
    [.ret (.and [(.isi (.var 0) ["str"]), (.chn .le .le (.int 1) (.bfn .len [(.var 0)]) (.glo "MOST_SIGNS")), (.bfn .all [(.lc (.cmp .inn (.var 1) (.glo "SIGNS")) (.nm 1) .val [(.var 0)] [] [1])])])]⟩
structure U_is_person (p : Pg) : Prop where
  s : Hs p "is_person" c_is_person
  g_MOST_SIGNS : p.gl "MOST_SIGNS" = some (.int 4)
  g_SIGNS : p.gl "SIGNS" = some (.str "abcdefghijklmnopqrstuvwxyz")
theorem o_is_person {p : Pg} (u : U_is_person p) {n : Nat} {t0 : T} {P : T → List T → Prop} {X : Str → Prop} (h : WB ⟨phi p n, p.gl, p.fu⟩ c_is_person.body [some t0, none] (fun G1 => 1 ≤ G1.length ∧ P .non [t0]) (fun t G1 => 1 ≤ G1.length ∧ P t [t0]) (fun _ => False) (fun _ => False) (fun n _ _ => X n)) (ha : isFL [t0] = true := by ktr_rel) : Call p (n + 1) "is_person" [t0] P X := opn0 u.s rfl rfl ha rfl h
def c_is_row : Dc := ⟨["thing", "one"], ["thing"], [],
    [.ret (.and [(.isi (.var 0) ["tuple"]), (.bfn .all [(.lc (.cal "is_person" [(.var 1)]) (.nm 1) .val [(.var 0)] [] [1])]), (.cmp .eq (.bfn .lenSet [(.var 0)]) (.bfn .len [(.var 0)]))])]⟩
structure U_is_row (p : Pg) : Prop where
  s : Hs p "is_row" c_is_row
  is_person : U_is_person p
theorem o_is_row {p : Pg} (u : U_is_row p) {n : Nat} {t0 : T} {P : T → List T → Prop} {X : Str → Prop} (h : WB ⟨phi p n, p.gl, p.fu⟩ c_is_row.body [some t0, none] (fun G1 => 1 ≤ G1.length ∧ P .non [t0]) (fun t G1 => 1 ≤ G1.length ∧ P t [t0]) (fun _ => False) (fun _ => False) (fun n _ _ => X n)) (ha : isFL [t0] = true := by ktr_rel) : Call p (n + 1) "is_row" [t0] P X := opn0 u.s rfl rfl ha rfl h
def c_is_pair : Dc := ⟨["thing", "word"], ["thing", "word"], [],
    [.ret (.and [(.isi (.var 0) ["tuple"]), (.cmp .eq (.bfn .len [(.var 0)]) (.int 2)), (.isi (.ix (.var 0) (.int 0)) ["str"]), (.cmp .eq (.ix (.var 0) (.int 0)) (.var 1))])]⟩
structure U_is_pair (p : Pg) : Prop where
  s : Hs p "is_pair" c_is_pair
theorem o_is_pair {p : Pg} (u : U_is_pair p) {n : Nat} {t0 t1 : T} {P : T → List T → Prop} {X : Str → Prop} (h : WB ⟨phi p n, p.gl, p.fu⟩ c_is_pair.body [some t0, some t1] (fun G1 => 2 ≤ G1.length ∧ P .non [t0, t1]) (fun t G1 => 2 ≤ G1.length ∧ P t [t0, t1]) (fun _ => False) (fun _ => False) (fun n _ _ => X n)) (ha : isFL [t0, t1] = true := by ktr_rel) : Call p (n + 1) "is_pair" [t0, t1] P X := opn0 u.s rfl rfl ha rfl h
def c_is_coming : Dc := ⟨["thing"], ["thing"], [],
    [.ret (.and [(.cal "is_pair" [(.var 0), (.str "in")]), (.cal "is_person" [(.ix (.var 0) (.int 1))])])]⟩
structure U_is_coming (p : Pg) : Prop where
  s : Hs p "is_coming" c_is_coming
  is_pair : U_is_pair p
  is_person : U_is_person p
theorem o_is_coming {p : Pg} (u : U_is_coming p) {n : Nat} {t0 : T} {P : T → List T → Prop} {X : Str → Prop} (h : WB ⟨phi p n, p.gl, p.fu⟩ c_is_coming.body [some t0] (fun G1 => 1 ≤ G1.length ∧ P .non [t0]) (fun t G1 => 1 ≤ G1.length ∧ P t [t0]) (fun _ => False) (fun _ => False) (fun n _ _ => X n)) (ha : isFL [t0] = true := by ktr_rel) : Call p (n + 1) "is_coming" [t0] P X := opn0 u.s rfl rfl ha rfl h
def c_is_going : Dc := ⟨["thing"], ["thing"], [],
    [.ret (.and [(.cal "is_pair" [(.var 0), (.str "out")]), (.cal "is_amount" [(.ix (.var 0) (.int 1))])])]⟩
structure U_is_going (p : Pg) : Prop where
  s : Hs p "is_going" c_is_going
  is_pair : U_is_pair p
  is_amount : U_is_amount p
theorem o_is_going {p : Pg} (u : U_is_going p) {n : Nat} {t0 : T} {P : T → List T → Prop} {X : Str → Prop} (h : WB ⟨phi p n, p.gl, p.fu⟩ c_is_going.body [some t0] (fun G1 => 1 ≤ G1.length ∧ P .non [t0]) (fun t G1 => 1 ≤ G1.length ∧ P t [t0]) (fun _ => False) (fun _ => False) (fun n _ _ => X n)) (ha : isFL [t0] = true := by ktr_rel) : Call p (n + 1) "is_going" [t0] P X := opn0 u.s rfl rfl ha rfl h
def c_need_row : Dc := ⟨["row"], ["row"], [],
    [.iff (.not (.cal "is_row" [(.var 0)])) [.rse "NoRow" []] []]⟩
structure U_need_row (p : Pg) : Prop where
  s : Hs p "need_row" c_need_row
  is_row : U_is_row p
theorem o_need_row {p : Pg} (u : U_need_row p) {n : Nat} {t0 : T} {P : T → List T → Prop} {X : Str → Prop} (h : WB ⟨phi p n, p.gl, p.fu⟩ c_need_row.body [some t0] (fun G1 => 1 ≤ G1.length ∧ P .non [t0]) (fun t G1 => 1 ≤ G1.length ∧ P t [t0]) (fun _ => False) (fun _ => False) (fun n _ _ => X n)) (ha : isFL [t0] = true := by ktr_rel) : Call p (n + 1) "need_row" [t0] P X := opn0 u.s rfl rfl ha rfl h
def c_go_out : Dc := ⟨["people", "place", "gone", "last"], ["people", "place"], [0],
    [.asg (.nm 2) (.ix (.var 0) (.var 1)),
      .frz 3 (.asg (.nm 3) (.mut .pop 0 [])),
      .iff (.cmp .lt (.var 1) (.bfn .len [(.var 0)])) [.asg (.sb 0 (.var 1)) (.var 3)] [],
      .ret (.mov 2)]⟩
structure U_go_out (p : Pg) : Prop where
  s : Hs p "go_out" c_go_out
theorem o_go_out {p : Pg} (u : U_go_out p) {n : Nat} {t0 t1 : T} {P : T → List T → Prop} {X : Str → Prop} (h : WB ⟨phi p n, p.gl, p.fu⟩ c_go_out.body [some t0, some t1, none, none] (fun G1 => WPar (parB c_go_out.rf 0 [t0, t1] G1) (P .non)) (fun t G1 => WPar (parB c_go_out.rf 0 [t0, t1] G1) (P t)) (fun _ => False) (fun _ => False) (fun n _ _ => isFL [t0, t1] = true ∧ X n)) (ha : argOk c_go_out.rf 0 [t0, t1] = true := by top_args) : Call p (n + 1) "go_out" [t0, t1] P X := opn u.s rfl ha rfl h
def c_is_deeds_of : Dc := ⟨["row", "thing", "people", "deed"], ["row", "thing"], [],
    [.iff (.not (.isi (.var 1) ["list"])) [.ret (.bl false)] [],
      .asg (.nm 2) (.bfn .list [(.var 0)]),
      .frr (.nm 3) .val [(.var 1)] [.iff (.and [(.cal "is_coming" [(.shr 3)]), (.cmp .nin (.ix (.var 3) (.int 1)) (.var 2))]) [.exp (.mut .append 2 [(.ix (.var 3) (.int 1))])] [.iff (.and [(.cal "is_going" [(.shr 3)]), (.cmp .lt (.ix (.var 3) (.int 1)) (.bfn .len [(.var 2)]))]) [.exp (.cal "go_out" [(.ref 2), (.ix (.var 3) (.int 1))])] [.ret (.bl false)]]],
      .ret (.bl true)]⟩
structure U_is_deeds_of (p : Pg) : Prop where
  s : Hs p "is_deeds_of" c_is_deeds_of
  is_coming : U_is_coming p
  is_going : U_is_going p
  go_out : U_go_out p
theorem o_is_deeds_of {p : Pg} (u : U_is_deeds_of p) {n : Nat} {t0 t1 : T} {P : T → List T → Prop} {X : Str → Prop} (h : WB ⟨phi p n, p.gl, p.fu⟩ c_is_deeds_of.body [some t0, some t1, none, none] (fun G1 => 2 ≤ G1.length ∧ P .non [t0, t1]) (fun t G1 => 2 ≤ G1.length ∧ P t [t0, t1]) (fun _ => False) (fun _ => False) (fun n _ _ => X n)) (ha : isFL [t0, t1] = true := by ktr_rel) : Call p (n + 1) "is_deeds_of" [t0, t1] P X := opn0 u.s rfl rfl ha rfl h
def c_is_deeds : Dc := ⟨["row", "thing"], ["row", "thing"], [],
    [.exp (.cal "need_row" [(.var 0)]),
      .ret (.cal "is_deeds_of" [(.var 0), (.var 1)])]⟩
structure U_is_deeds (p : Pg) : Prop where
  s : Hs p "is_deeds" c_is_deeds
  need_row : U_need_row p
  is_deeds_of : U_is_deeds_of p
theorem o_is_deeds {p : Pg} (u : U_is_deeds p) {n : Nat} {t0 t1 : T} {P : T → List T → Prop} {X : Str → Prop} (h : WB ⟨phi p n, p.gl, p.fu⟩ c_is_deeds.body [some t0, some t1] (fun G1 => 2 ≤ G1.length ∧ P .non [t0, t1]) (fun t G1 => 2 ≤ G1.length ∧ P t [t0, t1]) (fun _ => False) (fun _ => False) (fun n _ _ => X n)) (ha : isFL [t0, t1] = true := by ktr_rel) : Call p (n + 1) "is_deeds" [t0, t1] P X := opn0 u.s rfl rfl ha rfl h
def c_need_deeds : Dc := ⟨["row", "deeds"], ["row", "deeds"], [],
    [.iff (.not (.cal "is_deeds_of" [(.var 0), (.var 1)])) [.rse "NoDeeds" []] []]⟩
structure U_need_deeds (p : Pg) : Prop where
  s : Hs p "need_deeds" c_need_deeds
  is_deeds_of : U_is_deeds_of p
theorem o_need_deeds {p : Pg} (u : U_need_deeds p) {n : Nat} {t0 t1 : T} {P : T → List T → Prop} {X : Str → Prop} (h : WB ⟨phi p n, p.gl, p.fu⟩ c_need_deeds.body [some t0, some t1] (fun G1 => 2 ≤ G1.length ∧ P .non [t0, t1]) (fun t G1 => 2 ≤ G1.length ∧ P t [t0, t1]) (fun _ => False) (fun _ => False) (fun n _ _ => X n)) (ha : isFL [t0, t1] = true := by ktr_rel) : Call p (n + 1) "need_deeds" [t0, t1] P X := opn0 u.s rfl rfl ha rfl h
def c_gone_by : Dc := ⟨["row", "deeds", "people", "gone", "deed"], ["row", "deeds"], [],
    [.asg (.nm 2) (.bfn .list [(.var 0)]),
      .asg (.nm 3) (.lst []),
      .frr (.nm 4) .val [(.var 1)] [.iff (.cmp .eq (.ix (.var 4) (.int 0)) (.str "in")) [.exp (.mut .append 2 [(.ix (.var 4) (.int 1))])] [.exp (.mut .append 3 [(.cal "go_out" [(.ref 2), (.ix (.var 4) (.int 1))])])]],
      .ret (.tup [(.bfn .tuple [(.var 2)]), (.mov 3)])]⟩
structure U_gone_by (p : Pg) : Prop where
  s : Hs p "gone_by" c_gone_by
  go_out : U_go_out p
theorem o_gone_by {p : Pg} (u : U_gone_by p) {n : Nat} {t0 t1 : T} {P : T → List T → Prop} {X : Str → Prop} (h : WB ⟨phi p n, p.gl, p.fu⟩ c_gone_by.body [some t0, some t1, none, none, none] (fun G1 => 2 ≤ G1.length ∧ P .non [t0, t1]) (fun t G1 => 2 ≤ G1.length ∧ P t [t0, t1]) (fun _ => False) (fun _ => False) (fun n _ _ => X n)) (ha : isFL [t0, t1] = true := by ktr_rel) : Call p (n + 1) "gone_by" [t0, t1] P X := opn0 u.s rfl rfl ha rfl h
def c_sizes_of : Dc := ⟨["row", "deeds", "found", "deed"], ["row", "deeds"], [],
    [.asg (.nm 2) (.lst [(.bfn .len [(.var 0)])]),
      .frr (.nm 3) .val [(.var 1)] [.exp (.mut .append 2 [(.bin .add (.ix (.var 2) (.neg (.int 1))) (.ite (.cmp .eq (.ix (.var 3) (.int 0)) (.str "in")) (.int 1) (.neg (.int 1))))])],
      .ret (.mov 2)]⟩
structure U_sizes_of (p : Pg) : Prop where
  s : Hs p "sizes_of" c_sizes_of
theorem o_sizes_of {p : Pg} (u : U_sizes_of p) {n : Nat} {t0 t1 : T} {P : T → List T → Prop} {X : Str → Prop} (h : WB ⟨phi p n, p.gl, p.fu⟩ c_sizes_of.body [some t0, some t1, none, none] (fun G1 => 2 ≤ G1.length ∧ P .non [t0, t1]) (fun t G1 => 2 ≤ G1.length ∧ P t [t0, t1]) (fun _ => False) (fun _ => False) (fun n _ _ => X n)) (ha : isFL [t0, t1] = true := by ktr_rel) : Call p (n + 1) "sizes_of" [t0, t1] P X := opn0 u.s rfl rfl ha rfl h
def c_go : Dc := ⟨["row", "deeds"], ["row", "deeds"], [],
    [.exp (.cal "need_row" [(.var 0)]),
      .exp (.cal "need_deeds" [(.var 0), (.var 1)]),
      .ret (.cal "gone_by" [(.var 0), (.var 1)])]⟩
structure U_go (p : Pg) : Prop where
  s : Hs p "go" c_go
  need_row : U_need_row p
  need_deeds : U_need_deeds p
  gone_by : U_gone_by p
theorem o_go {p : Pg} (u : U_go p) {n : Nat} {t0 t1 : T} {P : T → List T → Prop} {X : Str → Prop} (h : WB ⟨phi p n, p.gl, p.fu⟩ c_go.body [some t0, some t1] (fun G1 => 2 ≤ G1.length ∧ P .non [t0, t1]) (fun t G1 => 2 ≤ G1.length ∧ P t [t0, t1]) (fun _ => False) (fun _ => False) (fun n _ _ => X n)) (ha : isFL [t0, t1] = true := by ktr_rel) : Call p (n + 1) "go" [t0, t1] P X := opn0 u.s rfl rfl ha rfl h
def c_sizes : Dc := ⟨["row", "deeds"], ["row", "deeds"], [],
    [.exp (.cal "need_row" [(.var 0)]),
      .exp (.cal "need_deeds" [(.var 0), (.var 1)]),
      .ret (.cal "sizes_of" [(.var 0), (.var 1)])]⟩
structure U_sizes (p : Pg) : Prop where
  s : Hs p "sizes" c_sizes
  need_row : U_need_row p
  need_deeds : U_need_deeds p
  sizes_of : U_sizes_of p
theorem o_sizes {p : Pg} (u : U_sizes p) {n : Nat} {t0 t1 : T} {P : T → List T → Prop} {X : Str → Prop} (h : WB ⟨phi p n, p.gl, p.fu⟩ c_sizes.body [some t0, some t1] (fun G1 => 2 ≤ G1.length ∧ P .non [t0, t1]) (fun t G1 => 2 ≤ G1.length ∧ P t [t0, t1]) (fun _ => False) (fun _ => False) (fun n _ _ => X n)) (ha : isFL [t0, t1] = true := by ktr_rel) : Call p (n + 1) "sizes" [t0, t1] P X := opn0 u.s rfl rfl ha rfl h
def c_places : Dc := ⟨["row", "deeds", "person", "people", "found", "deed"], ["row", "deeds", "person"], [],
    [.exp (.cal "need_row" [(.var 0)]),
      .exp (.cal "need_deeds" [(.var 0), (.var 1)]),
      .iff (.not (.cal "is_person" [(.var 2)])) [.rse "NoPerson" []] [],
      .asg (.nm 3) (.bfn .list [(.var 0)]),
      .asg (.nm 4) (.lst [(.ite (.cmp .inn (.var 2) (.var 3)) (.met .index (.var 3) [(.var 2)]) .non)]),
      .frr (.nm 5) .val [(.var 1)] [.iff (.cmp .eq (.ix (.var 5) (.int 0)) (.str "in")) [.exp (.mut .append 3 [(.ix (.var 5) (.int 1))])] [.exp (.cal "go_out" [(.ref 3), (.ix (.var 5) (.int 1))])],
      .exp (.mut .append 4 [(.ite (.cmp .inn (.var 2) (.var 3)) (.met .index (.var 3) [(.var 2)]) .non)])],
      .ret (.mov 4)]⟩
structure U_places (p : Pg) : Prop where
  s : Hs p "places" c_places
  need_row : U_need_row p
  need_deeds : U_need_deeds p
  is_person : U_is_person p
  go_out : U_go_out p
theorem o_places {p : Pg} (u : U_places p) {n : Nat} {t0 t1 t2 : T} {P : T → List T → Prop} {X : Str → Prop} (h : WB ⟨phi p n, p.gl, p.fu⟩ c_places.body [some t0, some t1, some t2, none, none, none] (fun G1 => 3 ≤ G1.length ∧ P .non [t0, t1, t2]) (fun t G1 => 3 ≤ G1.length ∧ P t [t0, t1, t2]) (fun _ => False) (fun _ => False) (fun n _ _ => X n)) (ha : isFL [t0, t1, t2] = true := by ktr_rel) : Call p (n + 1) "places" [t0, t1, t2] P X := opn0 u.s rfl rfl ha rfl h
def c_are_sizes : Dc := ⟨["thing", "one", "other"], ["thing"], [],
    [.iff (.or [(.not (.isi (.var 0) ["list"])), (.cmp .eq (.var 0) (.lst [])), (.not (.bfn .all [(.lc (.cal "is_amount" [(.var 1)]) (.nm 1) .val [(.var 0)] [] [1])]))]) [.ret (.bl false)] [],
      .ret (.bfn .all [(.lc (.cmp .eq (.bfn .abs [(.bin .sub (.var 1) (.var 2))]) (.int 1)) (.tp [(.nm 1), (.nm 2)]) .zip [(.var 0), (.slL (.var 0) (.int 1))] [] [1, 2])])]⟩
structure U_are_sizes (p : Pg) : Prop where
  s : Hs p "are_sizes" c_are_sizes
  is_amount : U_is_amount p
theorem o_are_sizes {p : Pg} (u : U_are_sizes p) {n : Nat} {t0 : T} {P : T → List T → Prop} {X : Str → Prop} (h : WB ⟨phi p n, p.gl, p.fu⟩ c_are_sizes.body [some t0, none, none] (fun G1 => 1 ≤ G1.length ∧ P .non [t0]) (fun t G1 => 1 ≤ G1.length ∧ P t [t0]) (fun _ => False) (fun _ => False) (fun n _ _ => X n)) (ha : isFL [t0] = true := by ktr_rel) : Call p (n + 1) "are_sizes" [t0] P X := opn0 u.s rfl rfl ha rfl h
def c_need_kept : Dc := ⟨["sizes", "moment", "place"], ["sizes", "moment", "place"], [],
    [.iff (.not (.cal "are_sizes" [(.var 0)])) [.rse "NoSizes" [(.str "no sizes")]] [],
      .iff (.or [(.not (.cal "is_amount" [(.var 1)])), (.cmp .ge (.var 1) (.bfn .len [(.var 0)]))]) [.rse "NoMoment" [(.str "no moment")]] [],
      .iff (.or [(.not (.cal "is_amount" [(.var 2)])), (.cmp .ge (.var 2) (.ix (.var 0) (.var 1)))]) [.rse "NoPlace" [(.str "no place")]] []]⟩
structure U_need_kept (p : Pg) : Prop where
  s : Hs p "need_kept" c_need_kept
  are_sizes : U_are_sizes p
  is_amount : U_is_amount p
theorem o_need_kept {p : Pg} (u : U_need_kept p) {n : Nat} {t0 t1 t2 : T} {P : T → List T → Prop} {X : Str → Prop} (h : WB ⟨phi p n, p.gl, p.fu⟩ c_need_kept.body [some t0, some t1, some t2] (fun G1 => 3 ≤ G1.length ∧ P .non [t0, t1, t2]) (fun t G1 => 3 ≤ G1.length ∧ P t [t0, t1, t2]) (fun _ => False) (fun _ => False) (fun n _ _ => X n)) (ha : isFL [t0, t1, t2] = true := by ktr_rel) : Call p (n + 1) "need_kept" [t0, t1, t2] P X := opn0 u.s rfl rfl ha rfl h
def c_first_broken : Dc := ⟨["sizes", "moment", "place", "later"], ["sizes", "moment", "place"], [],
    [.frr (.nm 3) .rng [(.var 1), (.bfn .len [(.var 0)])] [.iff (.cmp .le (.ix (.var 0) (.var 3)) (.var 2)) [.ret (.mov 3)] []],
      .ret .non]⟩
structure U_first_broken (p : Pg) : Prop where
  s : Hs p "first_broken" c_first_broken
theorem o_first_broken {p : Pg} (u : U_first_broken p) {n : Nat} {t0 t1 t2 : T} {P : T → List T → Prop} {X : Str → Prop} (h : WB ⟨phi p n, p.gl, p.fu⟩ c_first_broken.body [some t0, some t1, some t2, none] (fun G1 => 3 ≤ G1.length ∧ P .non [t0, t1, t2]) (fun t G1 => 3 ≤ G1.length ∧ P t [t0, t1, t2]) (fun _ => False) (fun _ => False) (fun n _ _ => X n)) (ha : isFL [t0, t1, t2] = true := by ktr_rel) : Call p (n + 1) "first_broken" [t0, t1, t2] P X := opn0 u.s rfl rfl ha rfl h
def c_holds : Dc := ⟨["sizes", "moment", "place"], ["sizes", "moment", "place"], [],
    [.exp (.cal "need_kept" [(.var 0), (.var 1), (.var 2)]),
      .ret (.isN (.cal "first_broken" [(.var 0), (.var 1), (.var 2)]))]⟩
structure U_holds (p : Pg) : Prop where
  s : Hs p "holds" c_holds
  need_kept : U_need_kept p
  first_broken : U_first_broken p
theorem o_holds {p : Pg} (u : U_holds p) {n : Nat} {t0 t1 t2 : T} {P : T → List T → Prop} {X : Str → Prop} (h : WB ⟨phi p n, p.gl, p.fu⟩ c_holds.body [some t0, some t1, some t2] (fun G1 => 3 ≤ G1.length ∧ P .non [t0, t1, t2]) (fun t G1 => 3 ≤ G1.length ∧ P t [t0, t1, t2]) (fun _ => False) (fun _ => False) (fun n _ _ => X n)) (ha : isFL [t0, t1, t2] = true := by ktr_rel) : Call p (n + 1) "holds" [t0, t1, t2] P X := opn0 u.s rfl rfl ha rfl h
def c_broken : Dc := ⟨["sizes", "moment", "place"], ["sizes", "moment", "place"], [],
    [.exp (.cal "need_kept" [(.var 0), (.var 1), (.var 2)]),
      .ret (.cal "first_broken" [(.var 0), (.var 1), (.var 2)])]⟩
structure U_broken (p : Pg) : Prop where
  s : Hs p "broken" c_broken
  need_kept : U_need_kept p
  first_broken : U_first_broken p
theorem o_broken {p : Pg} (u : U_broken p) {n : Nat} {t0 t1 t2 : T} {P : T → List T → Prop} {X : Str → Prop} (h : WB ⟨phi p n, p.gl, p.fu⟩ c_broken.body [some t0, some t1, some t2] (fun G1 => 3 ≤ G1.length ∧ P .non [t0, t1, t2]) (fun t G1 => 3 ≤ G1.length ∧ P t [t0, t1, t2]) (fun _ => False) (fun _ => False) (fun n _ _ => X n)) (ha : isFL [t0, t1, t2] = true := by ktr_rel) : Call p (n + 1) "broken" [t0, t1, t2] P X := opn0 u.s rfl rfl ha rfl h
def c_held : Dc := ⟨["sizes", "found", "least", "size"], ["sizes"], [],
    [.iff (.not (.cal "are_sizes" [(.var 0)])) [.rse "NoSizes" [(.str "no sizes")]] [],
      .asg (.nm 1) (.lst []),
      .frz 2 (.asg (.nm 2) (.ix (.var 0) (.neg (.int 1)))),
      .frr (.nm 3) .rvd [(.var 0)] [.frz 2 (.asg (.nm 2) (.bfn .min [(.var 2), (.var 3)])),
      .exp (.mut .append 1 [(.var 2)])],
      .ret (.rev (.var 1))]⟩
structure U_held (p : Pg) : Prop where
  s : Hs p "held" c_held
  are_sizes : U_are_sizes p
theorem o_held {p : Pg} (u : U_held p) {n : Nat} {t0 : T} {P : T → List T → Prop} {X : Str → Prop} (h : WB ⟨phi p n, p.gl, p.fu⟩ c_held.body [some t0, none, none, none] (fun G1 => 1 ≤ G1.length ∧ P .non [t0]) (fun t G1 => 1 ≤ G1.length ∧ P t [t0]) (fun _ => False) (fun _ => False) (fun n _ _ => X n)) (ha : isFL [t0] = true := by ktr_rel) : Call p (n + 1) "held" [t0] P X := opn0 u.s rfl rfl ha rfl h
def c_is_word : Dc := ⟨["thing", "word"], ["thing", "word"], [],
    [.ret (.and [(.isi (.var 0) ["tuple"]), (.cmp .eq (.bfn .len [(.var 0)]) (.int 1)), (.isi (.ix (.var 0) (.int 0)) ["str"]), (.cmp .eq (.ix (.var 0) (.int 0)) (.var 1))])]⟩
structure U_is_word (p : Pg) : Prop where
  s : Hs p "is_word" c_is_word
theorem o_is_word {p : Pg} (u : U_is_word p) {n : Nat} {t0 t1 : T} {P : T → List T → Prop} {X : Str → Prop} (h : WB ⟨phi p n, p.gl, p.fu⟩ c_is_word.body [some t0, some t1] (fun G1 => 2 ≤ G1.length ∧ P .non [t0, t1]) (fun t G1 => 2 ≤ G1.length ∧ P t [t0, t1]) (fun _ => False) (fun _ => False) (fun n _ _ => X n)) (ha : isFL [t0, t1] = true := by ktr_rel) : Call p (n + 1) "is_word" [t0, t1] P X := opn0 u.s rfl rfl ha rfl h
def c_need_bare : Dc := ⟨["many", "deeds", "size", "deed"], ["many", "deeds"], [],
    [.iff (.not (.cal "is_amount" [(.var 0)])) [.rse "NoNumber" []] [],
      .iff (.not (.isi (.var 1) ["list"])) [.rse "NoDeeds" []] [],
      .asg (.nm 2) (.var 0),
      .frr (.nm 3) .val [(.var 1)] [.iff (.cal "is_word" [(.shr 3), (.str "in")]) [.aug 2 .add (.int 1)] [.iff (.and [(.cal "is_going" [(.shr 3)]), (.cmp .lt (.ix (.var 3) (.int 1)) (.var 2))]) [.aug 2 .sub (.int 1)] [.rse "NoDeeds" []]]]]⟩
structure U_need_bare (p : Pg) : Prop where
  s : Hs p "need_bare" c_need_bare
  is_amount : U_is_amount p
  is_word : U_is_word p
  is_going : U_is_going p
theorem o_need_bare {p : Pg} (u : U_need_bare p) {n : Nat} {t0 t1 : T} {P : T → List T → Prop} {X : Str → Prop} (h : WB ⟨phi p n, p.gl, p.fu⟩ c_need_bare.body [some t0, some t1, none, none] (fun G1 => 2 ≤ G1.length ∧ P .non [t0, t1]) (fun t G1 => 2 ≤ G1.length ∧ P t [t0, t1]) (fun _ => False) (fun _ => False) (fun n _ _ => X n)) (ha : isFL [t0, t1] = true := by ktr_rel) : Call p (n + 1) "need_bare" [t0, t1] P X := opn0 u.s rfl rfl ha rfl h
def c_bare_sizes : Dc := ⟨["many", "deeds", "found", "deed"], ["many", "deeds"], [],
    [.asg (.nm 2) (.lst [(.var 0)]),
      .frr (.nm 3) .val [(.var 1)] [.exp (.mut .append 2 [(.bin .add (.ix (.var 2) (.neg (.int 1))) (.ite (.cmp .eq (.ix (.var 3) (.int 0)) (.str "in")) (.int 1) (.neg (.int 1))))])],
      .ret (.mov 2)]⟩
structure U_bare_sizes (p : Pg) : Prop where
  s : Hs p "bare_sizes" c_bare_sizes
theorem o_bare_sizes {p : Pg} (u : U_bare_sizes p) {n : Nat} {t0 t1 : T} {P : T → List T → Prop} {X : Str → Prop} (h : WB ⟨phi p n, p.gl, p.fu⟩ c_bare_sizes.body [some t0, some t1, none, none] (fun G1 => 2 ≤ G1.length ∧ P .non [t0, t1]) (fun t G1 => 2 ≤ G1.length ∧ P t [t0, t1]) (fun _ => False) (fun _ => False) (fun n _ _ => X n)) (ha : isFL [t0, t1] = true := by ktr_rel) : Call p (n + 1) "bare_sizes" [t0, t1] P X := opn0 u.s rfl rfl ha rfl h
def c_need_traced : Dc := ⟨["many", "deeds", "moment", "place"], ["many", "deeds", "moment", "place"], [],
    [.exp (.cal "need_bare" [(.var 0), (.var 1)]),
      .iff (.or [(.not (.cal "is_amount" [(.var 2)])), (.cmp .gt (.var 2) (.bfn .len [(.var 1)]))]) [.rse "NoMoment" [(.str "no moment")]] [],
      .iff (.or [(.not (.cal "is_amount" [(.var 3)])), (.cmp .ge (.var 3) (.ix (.cal "bare_sizes" [(.var 0), (.var 1)]) (.var 2)))]) [.rse "NoPlace" [(.str "no place")]] []]⟩
structure U_need_traced (p : Pg) : Prop where
  s : Hs p "need_traced" c_need_traced
  need_bare : U_need_bare p
  is_amount : U_is_amount p
  bare_sizes : U_bare_sizes p
theorem o_need_traced {p : Pg} (u : U_need_traced p) {n : Nat} {t0 t1 t2 t3 : T} {P : T → List T → Prop} {X : Str → Prop} (h : WB ⟨phi p n, p.gl, p.fu⟩ c_need_traced.body [some t0, some t1, some t2, some t3] (fun G1 => 4 ≤ G1.length ∧ P .non [t0, t1, t2, t3]) (fun t G1 => 4 ≤ G1.length ∧ P t [t0, t1, t2, t3]) (fun _ => False) (fun _ => False) (fun n _ _ => X n)) (ha : isFL [t0, t1, t2, t3] = true := by ktr_rel) : Call p (n + 1) "need_traced" [t0, t1, t2, t3] P X := opn0 u.s rfl rfl ha rfl h
def c_trace : Dc := ⟨["many", "deeds", "moment", "place", "sizes", "found", "later", "deed"], ["many", "deeds", "moment", "place"], [],
    [.exp (.cal "need_traced" [(.var 0), (.var 1), (.var 2), (.var 3)]),
      .frz 4 (.asg (.nm 4) (.cal "bare_sizes" [(.var 0), (.var 1)])),
      .asg (.nm 5) (.lst [(.tup [(.var 2), (.var 3)])]),
      .frr (.nm 6) .rng [(.var 2), (.bfn .len [(.var 1)])] [.frz 7 (.asg (.nm 7) (.ix (.var 1) (.var 6))),
      .iff (.cmp .eq (.ix (.var 7) (.int 0)) (.str "out")) [.iff (.cmp .eq (.ix (.var 7) (.int 1)) (.var 3)) [.ret (.bin .add (.var 5) (.lst [(.tup [(.bin .add (.var 6) (.int 1)), .non])]))] [],
      .iff (.cmp .eq (.var 3) (.bin .sub (.ix (.var 4) (.var 6)) (.int 1))) [.asg (.nm 3) (.ix (.var 7) (.int 1)),
      .exp (.mut .append 5 [(.tup [(.bin .add (.var 6) (.int 1)), (.var 3)])])] []] []],
      .ret (.mov 5)]⟩
structure U_trace (p : Pg) : Prop where
  s : Hs p "trace" c_trace
  need_traced : U_need_traced p
  bare_sizes : U_bare_sizes p
theorem o_trace {p : Pg} (u : U_trace p) {n : Nat} {t0 t1 t2 t3 : T} {P : T → List T → Prop} {X : Str → Prop} (h : WB ⟨phi p n, p.gl, p.fu⟩ c_trace.body [some t0, some t1, some t2, some t3, none, none, none, none] (fun G1 => 4 ≤ G1.length ∧ P .non [t0, t1, t2, t3]) (fun t G1 => 4 ≤ G1.length ∧ P t [t0, t1, t2, t3]) (fun _ => False) (fun _ => False) (fun n _ _ => X n)) (ha : isFL [t0, t1, t2, t3] = true := by ktr_rel) : Call p (n + 1) "trace" [t0, t1, t2, t3] P X := opn0 u.s rfl rfl ha rfl h
def c_who : Dc := ⟨["many", "deeds", "moment", "place", "row", "one", "came", "deed", "last"], ["many", "deeds", "moment", "place"], [],
    [.exp (.cal "need_traced" [(.var 0), (.var 1), (.var 2), (.var 3)]),
      .asl 4 (.lc (.tup [(.str "first"), (.var 5)]) (.nm 5) .rng [(.var 0)] [] [5]),
      .asg (.nm 6) (.int 0),
      .frr (.nm 7) .val [(.slH (.var 1) (.var 2))] [.iff (.cmp .eq (.ix (.var 7) (.int 0)) (.str "in")) [.exp (.mut .append 4 [(.tup [(.str "came"), (.var 6)])]),
      .aug 6 .add (.int 1)] [.frz 8 (.asg (.nm 8) (.mut .pop 4 [])),
      .iff (.cmp .lt (.ix (.var 7) (.int 1)) (.bfn .len [(.var 4)])) [.asg (.sb 4 (.ix (.var 7) (.int 1))) (.var 8)] []]],
      .ret (.ix (.var 4) (.var 3))]⟩
structure U_who (p : Pg) : Prop where
  s : Hs p "who" c_who
  need_traced : U_need_traced p
theorem o_who {p : Pg} (u : U_who p) {n : Nat} {t0 t1 t2 t3 : T} {P : T → List T → Prop} {X : Str → Prop} (h : WB ⟨phi p n, p.gl, p.fu⟩ c_who.body [some t0, some t1, some t2, some t3, none, none, none, none, none] (fun G1 => 4 ≤ G1.length ∧ P .non [t0, t1, t2, t3]) (fun t G1 => 4 ≤ G1.length ∧ P t [t0, t1, t2, t3]) (fun _ => False) (fun _ => False) (fun n _ _ => X n)) (ha : isFL [t0, t1, t2, t3] = true := by ktr_rel) : Call p (n + 1) "who" [t0, t1, t2, t3] P X := opn0 u.s rfl rfl ha rfl h
def c_last_moves : Dc := ⟨["many", "deeds", "row", "later", "deed"], ["many", "deeds"], [],
    [.exp (.cal "need_bare" [(.var 0), (.var 1)]),
      .asg (.nm 2) (.bin .mul (.lst [(.int 0)]) (.var 0)),
      .frr (.tp [(.nm 3), (.nm 4)]) .enm [(.var 1)] [.iff (.cmp .eq (.ix (.var 4) (.int 0)) (.str "in")) [.exp (.mut .append 2 [(.bin .add (.var 3) (.int 1))])] [.exp (.mut .pop 2 []),
      .iff (.cmp .lt (.ix (.var 4) (.int 1)) (.bfn .len [(.var 2)])) [.asg (.sb 2 (.ix (.var 4) (.int 1))) (.bin .add (.var 3) (.int 1))] []]],
      .ret (.mov 2)]⟩
structure U_last_moves (p : Pg) : Prop where
  s : Hs p "last_moves" c_last_moves
  need_bare : U_need_bare p
theorem o_last_moves {p : Pg} (u : U_last_moves p) {n : Nat} {t0 t1 : T} {P : T → List T → Prop} {X : Str → Prop} (h : WB ⟨phi p n, p.gl, p.fu⟩ c_last_moves.body [some t0, some t1, none, none, none] (fun G1 => 2 ≤ G1.length ∧ P .non [t0, t1]) (fun t G1 => 2 ≤ G1.length ∧ P t [t0, t1]) (fun _ => False) (fun _ => False) (fun n _ _ => X n)) (ha : isFL [t0, t1] = true := by ktr_rel) : Call p (n + 1) "last_moves" [t0, t1] P X := opn0 u.s rfl rfl ha rfl h
def c_letters_of : Dc := ⟨["many", "deeds", "sizes", "deed", "size"], ["many", "deeds"], [],
    [.frz 2 (.asg (.nm 2) (.cal "bare_sizes" [(.var 0), (.var 1)])),
      .ret (.lc (.ite (.cmp .eq (.ix (.var 3) (.int 0)) (.str "out")) (.tup [(.ix (.var 3) (.int 1)), (.bin .sub (.var 4) (.int 1))]) .non) (.tp [(.nm 3), (.nm 4)]) .zip [(.var 1), (.var 2)] [] [3, 4])]⟩
structure U_letters_of (p : Pg) : Prop where
  s : Hs p "letters_of" c_letters_of
  bare_sizes : U_bare_sizes p
theorem o_letters_of {p : Pg} (u : U_letters_of p) {n : Nat} {t0 t1 : T} {P : T → List T → Prop} {X : Str → Prop} (h : WB ⟨phi p n, p.gl, p.fu⟩ c_letters_of.body [some t0, some t1, none, none, none] (fun G1 => 2 ≤ G1.length ∧ P .non [t0, t1]) (fun t G1 => 2 ≤ G1.length ∧ P t [t0, t1]) (fun _ => False) (fun _ => False) (fun n _ _ => X n)) (ha : isFL [t0, t1] = true := by ktr_rel) : Call p (n + 1) "letters_of" [t0, t1] P X := opn0 u.s rfl rfl ha rfl h
def c_letters : Dc := ⟨["many", "deeds"], ["many", "deeds"], [],
    [.exp (.cal "need_bare" [(.var 0), (.var 1)]),
      .ret (.cal "letters_of" [(.var 0), (.var 1)])]⟩
structure U_letters (p : Pg) : Prop where
  s : Hs p "letters" c_letters
  need_bare : U_need_bare p
  letters_of : U_letters_of p
theorem o_letters {p : Pg} (u : U_letters p) {n : Nat} {t0 t1 : T} {P : T → List T → Prop} {X : Str → Prop} (h : WB ⟨phi p n, p.gl, p.fu⟩ c_letters.body [some t0, some t1] (fun G1 => 2 ≤ G1.length ∧ P .non [t0, t1]) (fun t G1 => 2 ≤ G1.length ∧ P t [t0, t1]) (fun _ => False) (fun _ => False) (fun n _ _ => X n)) (ha : isFL [t0, t1] = true := by ktr_rel) : Call p (n + 1) "letters" [t0, t1] P X := opn0 u.s rfl rfl ha rfl h
def c_is_letter_v1 : Dc := ⟨["thing"], ["thing"], [],
    [.iff (.isN (.var 0)) [.ret (.bl true)] [],
      .iff (.or [(.not (.isi (.var 0) ["tuple"])), (.cmp .ne (.bfn .len [(.var 0)]) (.int 2)), (.not (.cal "is_amount" [(.ix (.var 0) (.int 0))])), (.not (.cal "is_amount" [(.ix (.var 0) (.int 1))]))]) [.ret (.bl false)] [],
      .ret (.cmp .le (.ix (.var 0) (.int 0)) (.ix (.var 0) (.int 1)))]⟩
structure U_is_letter_v1 (p : Pg) : Prop where
  s : Hs p "is_letter" c_is_letter_v1
  is_amount : U_is_amount p
theorem o_is_letter_v1 {p : Pg} (u : U_is_letter_v1 p) {n : Nat} {t0 : T} {P : T → List T → Prop} {X : Str → Prop} (h : WB ⟨phi p n, p.gl, p.fu⟩ c_is_letter_v1.body [some t0] (fun G1 => 1 ≤ G1.length ∧ P .non [t0]) (fun t G1 => 1 ≤ G1.length ∧ P t [t0]) (fun _ => False) (fun _ => False) (fun n _ _ => X n)) (ha : isFL [t0] = true := by ktr_rel) : Call p (n + 1) "is_letter" [t0] P X := opn0 u.s rfl rfl ha rfl h
def c_is_letter_v2 : Dc := ⟨["thing", "one"], ["thing"], [],
    [.iff (.or [(.not (.isi (.var 0) ["tuple"])), (.cmp .ne (.bfn .len [(.var 0)]) (.int 2)), (.not (.bfn .all [(.lc (.cal "is_amount" [(.var 1)]) (.nm 1) .val [(.var 0)] [] [1])]))]) [.ret (.bl false)] [],
      .ret (.cmp .le (.ix (.var 0) (.int 0)) (.ix (.var 0) (.int 1)))]⟩
structure U_is_letter_v2 (p : Pg) : Prop where
  s : Hs p "is_letter" c_is_letter_v2
  is_amount : U_is_amount p
theorem o_is_letter_v2 {p : Pg} (u : U_is_letter_v2 p) {n : Nat} {t0 : T} {P : T → List T → Prop} {X : Str → Prop} (h : WB ⟨phi p n, p.gl, p.fu⟩ c_is_letter_v2.body [some t0, none] (fun G1 => 1 ≤ G1.length ∧ P .non [t0]) (fun t G1 => 1 ≤ G1.length ∧ P t [t0]) (fun _ => False) (fun _ => False) (fun n _ _ => X n)) (ha : isFL [t0] = true := by ktr_rel) : Call p (n + 1) "is_letter" [t0] P X := opn0 u.s rfl rfl ha rfl h
def c_heard : Dc := ⟨["number", "letter", "place", "last"], ["number", "letter"], [],
    [.iff (.or [(.isN (.var 1)), (.isN (.var 0))]) [.ret (.var 0)] [],
      .asg (.tp [(.nm 2), (.nm 3)]) (.var 1),
      .iff (.cmp .eq (.var 0) (.var 2)) [.ret .non] [],
      .ret (.ite (.cmp .eq (.var 0) (.var 3)) (.mov 2) (.var 0))]⟩
structure U_heard (p : Pg) : Prop where
  s : Hs p "heard" c_heard
theorem o_heard {p : Pg} (u : U_heard p) {n : Nat} {t0 t1 : T} {P : T → List T → Prop} {X : Str → Prop} (h : WB ⟨phi p n, p.gl, p.fu⟩ c_heard.body [some t0, some t1, none, none] (fun G1 => 2 ≤ G1.length ∧ P .non [t0, t1]) (fun t G1 => 2 ≤ G1.length ∧ P t [t0, t1]) (fun _ => False) (fun _ => False) (fun n _ _ => X n)) (ha : isFL [t0, t1] = true := by ktr_rel) : Call p (n + 1) "heard" [t0, t1] P X := opn0 u.s rfl rfl ha rfl h
def c_kept_v1 : Dc := ⟨["number", "sent", "one", "letter"], ["number", "sent"], [],
    [.iff (.not (.cal "is_amount" [(.var 0)])) [.rse "NoNumber" [(.str "no number")]] [],
      .iff (.or [(.not (.isi (.var 1) ["list"])), (.not (.bfn .all [(.lc (.cal "is_letter" [(.var 2)]) (.nm 2) .val [(.var 1)] [] [2])]))]) [.rse "NoLetters" [(.str "no letters")]] [],
      .frr (.nm 3) .val [(.var 1)] [.asg (.nm 0) (.cal "heard" [(.var 0), (.shr 3)])],
      .ret (.var 0)]⟩
structure U_kept_v1 (p : Pg) : Prop where
  s : Hs p "kept" c_kept_v1
  is_amount : U_is_amount p
  heard : U_heard p
  is_letter : U_is_letter_v1 p
theorem o_kept_v1 {p : Pg} (u : U_kept_v1 p) {n : Nat} {t0 t1 : T} {P : T → List T → Prop} {X : Str → Prop} (h : WB ⟨phi p n, p.gl, p.fu⟩ c_kept_v1.body [some t0, some t1, none, none] (fun G1 => 2 ≤ G1.length ∧ P .non [t0, t1]) (fun t G1 => 2 ≤ G1.length ∧ P t [t0, t1]) (fun _ => False) (fun _ => False) (fun n _ _ => X n)) (ha : isFL [t0, t1] = true := by ktr_rel) : Call p (n + 1) "kept" [t0, t1] P X := opn0 u.s rfl rfl ha rfl h
def c_kept_v2 : Dc := ⟨["number", "sent", "one", "letter"], ["number", "sent"], [],
    [.iff (.not (.cal "is_amount" [(.var 0)])) [.rse "NoNumber" [(.str "no number")]] [],
      .iff (.or [(.not (.isi (.var 1) ["list"])), (.not (.bfn .all [(.lc .nev (.nm 2) .val [(.var 1)] [] [2])]))]) [.rse "NoLetters" [(.str "no letters")]] [],
      .frr (.nm 3) .val [(.var 1)] [.asg (.nm 0) (.cal "heard" [(.var 0), (.shr 3)])],
      .ret (.var 0)]⟩
structure U_kept_v2 (p : Pg) : Prop where
  s : Hs p "kept" c_kept_v2
  is_amount : U_is_amount p
  heard : U_heard p
theorem o_kept_v2 {p : Pg} (u : U_kept_v2 p) {n : Nat} {t0 t1 : T} {P : T → List T → Prop} {X : Str → Prop} (h : WB ⟨phi p n, p.gl, p.fu⟩ c_kept_v2.body [some t0, some t1, none, none] (fun G1 => 2 ≤ G1.length ∧ P .non [t0, t1]) (fun t G1 => 2 ≤ G1.length ∧ P t [t0, t1]) (fun _ => False) (fun _ => False) (fun n _ _ => X n)) (ha : isFL [t0, t1] = true := by ktr_rel) : Call p (n + 1) "kept" [t0, t1] P X := opn0 u.s rfl rfl ha rfl h
-- ?? kept: is_letter_letters(one)
def c_need_moments : Dc := ⟨["deeds", "lost", "one", "other"], ["deeds", "lost"], [],
    [.iff (.or [(.not (.isi (.var 1) ["list"])), (.not (.bfn .all [(.lc (.cal "is_amount" [(.var 2)]) (.nm 2) .val [(.var 1)] [] [2])]))]) [.rse "NoMoments" [(.str "no moments")]] [],
      .iff (.not (.bfn .all [(.lc (.cmp .lt (.var 2) (.var 3)) (.tp [(.nm 2), (.nm 3)]) .zip [(.var 1), (.slL (.var 1) (.int 1))] [] [2, 3])])) [.rse "NoMoments" [(.str "no moments")]] [],
      .iff (.not (.bfn .all [(.lc (.and [(.chn .lt .le (.int 0) (.var 2) (.bfn .len [(.var 0)])), (.cmp .eq (.ix (.ix (.var 0) (.bin .sub (.var 2) (.int 1))) (.int 0)) (.str "out"))]) (.nm 2) .val [(.var 1)] [] [2])])) [.rse "NoMoments" [(.str "no moments")]] []]⟩
structure U_need_moments (p : Pg) : Prop where
  s : Hs p "need_moments" c_need_moments
  is_amount : U_is_amount p
theorem o_need_moments {p : Pg} (u : U_need_moments p) {n : Nat} {t0 t1 : T} {P : T → List T → Prop} {X : Str → Prop} (h : WB ⟨phi p n, p.gl, p.fu⟩ c_need_moments.body [some t0, some t1, none, none] (fun G1 => 2 ≤ G1.length ∧ P .non [t0, t1]) (fun t G1 => 2 ≤ G1.length ∧ P t [t0, t1]) (fun _ => False) (fun _ => False) (fun n _ _ => X n)) (ha : isFL [t0, t1] = true := by ktr_rel) : Call p (n + 1) "need_moments" [t0, t1] P X := opn0 u.s rfl rfl ha rfl h
def c_wrong : Dc := ⟨["many", "deeds", "lost", "people", "place", "came", "sizes", "later", "letter", "one"], ["many", "deeds", "lost"], [],
    [.exp (.cal "need_bare" [(.var 0), (.var 1)]),
      .exp (.cal "need_moments" [(.var 1), (.var 2)]),
      .asl 3 (.lc (.lst [(.tup [(.str "first"), (.var 4)]), (.var 4), (.var 4)]) (.nm 4) .rng [(.var 0)] [] [4]),
      .asg (.nm 5) (.int 0),
      .frz 6 (.asg (.nm 6) (.cal "bare_sizes" [(.var 0), (.var 1)])),
      .frr (.tp [(.nm 7), (.nm 8)]) .enm [(.cal "letters_of" [(.var 0), (.var 1)])] [.iff (.isN (.var 8)) [.exp (.mut .appendO 3 [(.lst [(.tup [(.str "came"), (.var 5)]), (.ix (.var 6) (.var 7)), (.ix (.var 6) (.var 7))])]),
      .aug 5 .add (.int 1)] [.frh (.nm 9) 3 [.asg (.sb 9 (.int 2)) (.cal "heard" [(.ix (.var 9) (.int 2)), (.shr 8)]),
      .iff (.cmp .nin (.bin .add (.var 7) (.int 1)) (.var 2)) [.asg (.sb 9 (.int 1)) (.cal "heard" [(.ix (.var 9) (.int 1)), (.shr 8)])] []]]],
      .ret (.lc (.bfn .tuple [(.var 9)]) (.nm 9) .val [(.var 3)] [(.cmp .ne (.ix (.var 9) (.int 1)) (.ix (.var 9) (.int 2)))] [9])]⟩
structure U_wrong (p : Pg) : Prop where
  s : Hs p "wrong" c_wrong
  need_bare : U_need_bare p
  need_moments : U_need_moments p
  bare_sizes : U_bare_sizes p
  letters_of : U_letters_of p
  heard : U_heard p
theorem o_wrong {p : Pg} (u : U_wrong p) {n : Nat} {t0 t1 t2 : T} {P : T → List T → Prop} {X : Str → Prop} (h : WB ⟨phi p n, p.gl, p.fu⟩ c_wrong.body [some t0, some t1, some t2, none, none, none, none, none, none, none] (fun G1 => 3 ≤ G1.length ∧ P .non [t0, t1, t2]) (fun t G1 => 3 ≤ G1.length ∧ P t [t0, t1, t2]) (fun _ => False) (fun _ => False) (fun n _ _ => X n)) (ha : isFL [t0, t1, t2] = true := by ktr_rel) : Call p (n + 1) "wrong" [t0, t1, t2] P X := opn0 u.s rfl rfl ha rfl h
def c_is_named : Dc := ⟨["thing"], ["thing"], [],
    [.ret (.and [(.isi (.var 0) ["tuple"]), (.cmp .eq (.bfn .len [(.var 0)]) (.int 2)), (.cmp .inn (.ix (.var 0) (.int 0)) (.tup [(.str "in"), (.str "off")])), (.cal "is_person" [(.ix (.var 0) (.int 1))])])]⟩
structure U_is_named (p : Pg) : Prop where
  s : Hs p "is_named" c_is_named
  is_person : U_is_person p
theorem o_is_named {p : Pg} (u : U_is_named p) {n : Nat} {t0 : T} {P : T → List T → Prop} {X : Str → Prop} (h : WB ⟨phi p n, p.gl, p.fu⟩ c_is_named.body [some t0] (fun G1 => 1 ≤ G1.length ∧ P .non [t0]) (fun t G1 => 1 ≤ G1.length ∧ P t [t0]) (fun _ => False) (fun _ => False) (fun n _ _ => X n)) (ha : isFL [t0] = true := by ktr_rel) : Call p (n + 1) "is_named" [t0] P X := opn0 u.s rfl rfl ha rfl h
def c_by_places : Dc := ⟨["row", "deeds", "here", "found", "deed", "place", "last"], ["row", "deeds"], [],
    [.exp (.cal "need_row" [(.var 0)]),
      .iff (.not (.isi (.var 1) ["list"])) [.rse "NoDeeds" []] [],
      .asg (.nm 2) (.bfn .list [(.var 0)]),
      .asg (.nm 3) (.lst []),
      .frr (.nm 4) .val [(.var 1)] [.iff (.or [(.not (.cal "is_named" [(.shr 4)])), (.cmp .ne (.cmp .inn (.ix (.var 4) (.int 1)) (.var 2)) (.cmp .eq (.ix (.var 4) (.int 0)) (.str "off")))]) [.rse "NoDeeds" []] [],
      .iff (.cmp .eq (.ix (.var 4) (.int 0)) (.str "in")) [.exp (.mut .append 2 [(.ix (.var 4) (.int 1))]),
      .exp (.mut .append 3 [(.var 4)])] [.frz 5 (.asg (.nm 5) (.met .index (.var 2) [(.ix (.var 4) (.int 1))])),
      .frz 6 (.asg (.nm 6) (.mut .pop 2 [])),
      .iff (.cmp .lt (.var 5) (.bfn .len [(.var 2)])) [.asg (.sb 2 (.var 5)) (.var 6)] [],
      .exp (.mut .append 3 [(.tup [(.str "out"), (.var 5)])])]],
      .ret (.mov 3)]⟩
structure U_by_places (p : Pg) : Prop where
  s : Hs p "by_places" c_by_places
  need_row : U_need_row p
  is_named : U_is_named p
theorem o_by_places {p : Pg} (u : U_by_places p) {n : Nat} {t0 t1 : T} {P : T → List T → Prop} {X : Str → Prop} (h : WB ⟨phi p n, p.gl, p.fu⟩ c_by_places.body [some t0, some t1, none, none, none, none, none] (fun G1 => 2 ≤ G1.length ∧ P .non [t0, t1]) (fun t G1 => 2 ≤ G1.length ∧ P t [t0, t1]) (fun _ => False) (fun _ => False) (fun n _ _ => X n)) (ha : isFL [t0, t1] = true := by ktr_rel) : Call p (n + 1) "by_places" [t0, t1] P X := opn0 u.s rfl rfl ha rfl h
def c_by_names : Dc := ⟨["row", "deeds", "left", "found", "deed"], ["row", "deeds"], [],
    [.exp (.cal "need_row" [(.var 0)]),
      .exp (.cal "need_deeds" [(.var 0), (.var 1)]),
      .asg (.nm 2) (.rev (.ix (.cal "gone_by" [(.var 0), (.var 1)]) (.int 1))),
      .asg (.nm 3) (.lst []),
      .frr (.nm 4) .val [(.var 1)] [.exp (.mut .append 3 [(.ite (.cmp .eq (.ix (.var 4) (.int 0)) (.str "in")) (.var 4) (.tup [(.str "off"), (.mut .pop 2 [])]))])],
      .ret (.mov 3)]⟩
structure U_by_names (p : Pg) : Prop where
  s : Hs p "by_names" c_by_names
  need_row : U_need_row p
  need_deeds : U_need_deeds p
  gone_by : U_gone_by p
theorem o_by_names {p : Pg} (u : U_by_names p) {n : Nat} {t0 t1 : T} {P : T → List T → Prop} {X : Str → Prop} (h : WB ⟨phi p n, p.gl, p.fu⟩ c_by_names.body [some t0, some t1, none, none, none] (fun G1 => 2 ≤ G1.length ∧ P .non [t0, t1]) (fun t G1 => 2 ≤ G1.length ∧ P t [t0, t1]) (fun _ => False) (fun _ => False) (fun n _ _ => X n)) (ha : isFL [t0, t1] = true := by ktr_rel) : Call p (n + 1) "by_names" [t0, t1] P X := opn0 u.s rfl rfl ha rfl h
def c_need_word : Dc := ⟨["row", "word", "people", "size", "deed"], ["row", "word"], [],
    [.exp (.cal "need_row" [(.var 0)]),
      .iff (.not (.isi (.var 1) ["list"])) [.rse "NoWord" []] [],
      .asg (.nm 2) (.bfn .list [(.var 0)]),
      .frz 3 (.asg (.nm 3) (.bfn .len [(.var 0)])),
      .frr (.nm 4) .val [(.var 1)] [.iff (.not (.isi (.var 4) ["tuple"])) [.rse "NoWord" []] [],
      .iff (.and [(.cmp .eq (.bfn .len [(.var 4)]) (.int 2)), (.cmp .eq (.ix (.var 4) (.int 0)) (.str "in")), (.cal "is_person" [(.ix (.var 4) (.int 1))]), (.cmp .nin (.ix (.var 4) (.int 1)) (.var 2))]) [.exp (.mut .append 2 [(.ix (.var 4) (.int 1))]),
      .aug 3 .add (.int 1)] [.iff (.and [(.cmp .eq (.var 4) (.tup [(.str "out")])), (.cmp .gt (.var 3) (.int 0))]) [.aug 3 .sub (.int 1)] [.rse "NoWord" []]]]]⟩
structure U_need_word (p : Pg) : Prop where
  s : Hs p "need_word" c_need_word
  need_row : U_need_row p
  is_person : U_is_person p
theorem o_need_word {p : Pg} (u : U_need_word p) {n : Nat} {t0 t1 : T} {P : T → List T → Prop} {X : Str → Prop} (h : WB ⟨phi p n, p.gl, p.fu⟩ c_need_word.body [some t0, some t1, none, none, none] (fun G1 => 2 ≤ G1.length ∧ P .non [t0, t1]) (fun t G1 => 2 ≤ G1.length ∧ P t [t0, t1]) (fun _ => False) (fun _ => False) (fun n _ _ => X n)) (ha : isFL [t0, t1] = true := by ktr_rel) : Call p (n + 1) "need_word" [t0, t1] P X := opn0 u.s rfl rfl ha rfl h
def c_word_sizes : Dc := ⟨["row", "word", "found", "deed"], ["row", "word"], [],
    [.asg (.nm 2) (.lst [(.bfn .len [(.var 0)])]),
      .frr (.nm 3) .val [(.var 1)] [.exp (.mut .append 2 [(.bin .add (.ix (.var 2) (.neg (.int 1))) (.ite (.cmp .eq (.ix (.var 3) (.int 0)) (.str "in")) (.int 1) (.neg (.int 1))))])],
      .ret (.mov 2)]⟩
structure U_word_sizes (p : Pg) : Prop where
  s : Hs p "word_sizes" c_word_sizes
theorem o_word_sizes {p : Pg} (u : U_word_sizes p) {n : Nat} {t0 t1 : T} {P : T → List T → Prop} {X : Str → Prop} (h : WB ⟨phi p n, p.gl, p.fu⟩ c_word_sizes.body [some t0, some t1, none, none] (fun G1 => 2 ≤ G1.length ∧ P .non [t0, t1]) (fun t G1 => 2 ≤ G1.length ∧ P t [t0, t1]) (fun _ => False) (fun _ => False) (fun n _ _ => X n)) (ha : isFL [t0, t1] = true := by ktr_rel) : Call p (n + 1) "word_sizes" [t0, t1] P X := opn0 u.s rfl rfl ha rfl h
def c_orders_by : Dc := ⟨["row", "word", "found", "size", "deed"], ["row", "word"], [],
    [.asg (.nm 2) (.int 1),
      .frr (.tp [(.nm 3), (.nm 4)]) .zip [(.cal "word_sizes" [(.var 0), (.var 1)]), (.var 1)] [.aug 2 .mul (.ite (.cmp .eq (.ix (.var 4) (.int 0)) (.str "out")) (.var 3) (.int 1))],
      .ret (.mov 2)]⟩
structure U_orders_by (p : Pg) : Prop where
  s : Hs p "orders_by" c_orders_by
  word_sizes : U_word_sizes p
theorem o_orders_by {p : Pg} (u : U_orders_by p) {n : Nat} {t0 t1 : T} {P : T → List T → Prop} {X : Str → Prop} (h : WB ⟨phi p n, p.gl, p.fu⟩ c_orders_by.body [some t0, some t1, none, none, none] (fun G1 => 2 ≤ G1.length ∧ P .non [t0, t1]) (fun t G1 => 2 ≤ G1.length ∧ P t [t0, t1]) (fun _ => False) (fun _ => False) (fun n _ _ => X n)) (ha : isFL [t0, t1] = true := by ktr_rel) : Call p (n + 1) "orders_by" [t0, t1] P X := opn0 u.s rfl rfl ha rfl h
def c_orders : Dc := ⟨["row", "word"], ["row", "word"], [],
    [.exp (.cal "need_word" [(.var 0), (.var 1)]),
      .ret (.cal "orders_by" [(.var 0), (.var 1)])]⟩
structure U_orders (p : Pg) : Prop where
  s : Hs p "orders" c_orders
  need_word : U_need_word p
  orders_by : U_orders_by p
theorem o_orders {p : Pg} (u : U_orders p) {n : Nat} {t0 t1 : T} {P : T → List T → Prop} {X : Str → Prop} (h : WB ⟨phi p n, p.gl, p.fu⟩ c_orders.body [some t0, some t1] (fun G1 => 2 ≤ G1.length ∧ P .non [t0, t1]) (fun t G1 => 2 ≤ G1.length ∧ P t [t0, t1]) (fun _ => False) (fun _ => False) (fun n _ _ => X n)) (ha : isFL [t0, t1] = true := by ktr_rel) : Call p (n + 1) "orders" [t0, t1] P X := opn0 u.s rfl rfl ha rfl h
def c_nth_order : Dc := ⟨["row", "word", "number", "found", "size", "deed"], ["row", "word", "number"], [],
    [.exp (.cal "need_word" [(.var 0), (.var 1)]),
      .iff (.or [(.not (.cal "is_amount" [(.var 2)])), (.cmp .ge (.var 2) (.cal "orders_by" [(.var 0), (.var 1)]))]) [.rse "NoNumber" []] [],
      .asg (.nm 3) (.lst []),
      .frr (.tp [(.nm 4), (.nm 5)]) .val [(.rev (.bfn .list [.nev]))] [.iff (.cmp .eq (.ix (.var 5) (.int 0)) (.str "in")) [.exp (.mut .append 3 [(.var 5)])] [.exp (.mut .append 3 [(.tup [(.str "out"), (.bin .mod (.var 2) (.var 4))])]),
      .aug 2 .fdiv (.var 4)]],
      .ret (.rev (.var 3))]⟩
structure U_nth_order (p : Pg) : Prop where
  s : Hs p "nth_order" c_nth_order
  need_word : U_need_word p
  is_amount : U_is_amount p
  orders_by : U_orders_by p
  word_sizes : U_word_sizes p
theorem o_nth_order {p : Pg} (u : U_nth_order p) {n : Nat} {t0 t1 t2 : T} {P : T → List T → Prop} {X : Str → Prop} (h : WB ⟨phi p n, p.gl, p.fu⟩ c_nth_order.body [some t0, some t1, some t2, none, none, none] (fun G1 => 3 ≤ G1.length ∧ P .non [t0, t1, t2]) (fun t G1 => 3 ≤ G1.length ∧ P t [t0, t1, t2]) (fun _ => False) (fun _ => False) (fun n _ _ => X n)) (ha : isFL [t0, t1, t2] = true := by ktr_rel) : Call p (n + 1) "nth_order" [t0, t1, t2] P X := opn0 u.s rfl rfl ha rfl h
-- ?? nth_order: zip(word_sizes(row, word), word)
def c_order_of : Dc := ⟨["row", "deeds", "comers", "deed", "person", "found", "size"], ["row", "deeds"], [],
    [.exp (.cal "need_row" [(.var 0)]),
      .exp (.cal "need_deeds" [(.var 0), (.var 1)]),
      .frz 2 (.asl 2 (.lc (.ix (.var 3) (.int 1)) (.nm 3) .val [(.var 1)] [(.cmp .eq (.ix (.var 3) (.int 0)) (.str "in"))] [3])),
      .iff (.cmp .lt (.bfn .len [.nev]) (.bin .add (.bfn .len [(.var 0)]) (.bfn .len [(.var 2)]))) [.rse "NoDeeds" []] [],
      .asg (.nm 5) (.int 0),
      .frr (.tp [(.nm 6), (.nm 3)]) .zip [(.cal "sizes_of" [(.var 0), (.var 1)]), (.var 1)] [.iff (.cmp .eq (.ix (.var 3) (.int 0)) (.str "out")) [.asg (.nm 5) (.bin .add (.bin .mul (.var 5) (.var 6)) (.ix (.var 3) (.int 1)))] []],
      .ret (.mov 5)]⟩
structure U_order_of (p : Pg) : Prop where
  s : Hs p "order_of" c_order_of
  need_row : U_need_row p
  need_deeds : U_need_deeds p
  sizes_of : U_sizes_of p
theorem o_order_of {p : Pg} (u : U_order_of p) {n : Nat} {t0 t1 : T} {P : T → List T → Prop} {X : Str → Prop} (h : WB ⟨phi p n, p.gl, p.fu⟩ c_order_of.body [some t0, some t1, none, none, none, none, none] (fun G1 => 2 ≤ G1.length ∧ P .non [t0, t1]) (fun t G1 => 2 ≤ G1.length ∧ P t [t0, t1]) (fun _ => False) (fun _ => False) (fun n _ _ => X n)) (ha : isFL [t0, t1] = true := by ktr_rel) : Call p (n + 1) "order_of" [t0, t1] P X := opn0 u.s rfl rfl ha rfl h
-- ?? order_of: {person: True for person in list(row) + comers}
def c_least_on : Dc := ⟨["sizes", "found", "moment"], ["sizes"], [],
    [.asg (.nm 1) (.bfn .list [(.var 0)]),
      .frr (.nm 2) .rng [(.bin .sub (.bfn .len [(.var 0)]) (.int 2)), (.neg (.int 1)), (.neg (.int 1))] [.asg (.sb 1 (.var 2)) (.bfn .min [(.ix (.var 1) (.var 2)), (.ix (.var 1) (.bin .add (.var 2) (.int 1)))])],
      .ret (.mov 1)]⟩
structure U_least_on (p : Pg) : Prop where
  s : Hs p "least_on" c_least_on
theorem o_least_on {p : Pg} (u : U_least_on p) {n : Nat} {t0 : T} {P : T → List T → Prop} {X : Str → Prop} (h : WB ⟨phi p n, p.gl, p.fu⟩ c_least_on.body [some t0, none, none] (fun G1 => 1 ≤ G1.length ∧ P .non [t0]) (fun t G1 => 1 ≤ G1.length ∧ P t [t0]) (fun _ => False) (fun _ => False) (fun n _ _ => X n)) (ha : isFL [t0] = true := by ktr_rel) : Call p (n + 1) "least_on" [t0] P X := opn0 u.s rfl rfl ha rfl h
def c_marks_of : Dc := ⟨["row", "word", "numbers", "lows", "found", "place", "person", "moment", "deed"], ["row", "word"], [],
    [.frz 2 (.asg (.nm 2) (.cal "word_sizes" [(.var 0), (.var 1)])),
      .frz 3 (.asg (.nm 3) (.cal "least_on" [(.shr 2)])),
      .asl 4 (.lc (.tup [(.var 6), (.var 5), (.ix (.var 3) (.int 0))]) (.tp [(.nm 5), (.nm 6)]) .enm [(.var 0)] [] [5, 6]),
      .frr (.tp [(.nm 7), (.nm 8)]) .enm [(.var 1)] [.iff (.cmp .eq (.ix (.var 8) (.int 0)) (.str "in")) [.exp (.mut .append 4 [(.tup [(.ix (.var 8) (.int 1)), (.ix (.var 2) (.var 7)), (.ix (.var 3) (.bin .add (.var 7) (.int 1)))])])] []],
      .ret (.mov 4)]⟩
structure U_marks_of (p : Pg) : Prop where
  s : Hs p "marks_of" c_marks_of
  word_sizes : U_word_sizes p
  least_on : U_least_on p
theorem o_marks_of {p : Pg} (u : U_marks_of p) {n : Nat} {t0 t1 : T} {P : T → List T → Prop} {X : Str → Prop} (h : WB ⟨phi p n, p.gl, p.fu⟩ c_marks_of.body [some t0, some t1, none, none, none, none, none, none, none] (fun G1 => 2 ≤ G1.length ∧ P .non [t0, t1]) (fun t G1 => 2 ≤ G1.length ∧ P t [t0, t1]) (fun _ => False) (fun _ => False) (fun n _ _ => X n)) (ha : isFL [t0, t1] = true := by ktr_rel) : Call p (n + 1) "marks_of" [t0, t1] P X := opn0 u.s rfl rfl ha rfl h
def c_may_stand : Dc := ⟨["place", "mark", "spot"], ["place", "mark", "spot"], [],
    [.ret (.ite (.cmp .lt (.var 0) (.var 1)) (.cmp .eq (.var 2) (.var 0)) (.cmp .lt (.var 2) (.var 1)))]⟩
structure U_may_stand (p : Pg) : Prop where
  s : Hs p "may_stand" c_may_stand
theorem o_may_stand {p : Pg} (u : U_may_stand p) {n : Nat} {t0 t1 t2 : T} {P : T → List T → Prop} {X : Str → Prop} (h : WB ⟨phi p n, p.gl, p.fu⟩ c_may_stand.body [some t0, some t1, some t2] (fun G1 => 3 ≤ G1.length ∧ P .non [t0, t1, t2]) (fun t G1 => 3 ≤ G1.length ∧ P t [t0, t1, t2]) (fun _ => False) (fun _ => False) (fun n _ _ => X n)) (ha : isFL [t0, t1, t2] = true := by ktr_rel) : Call p (n + 1) "may_stand" [t0, t1, t2] P X := opn0 u.s rfl rfl ha rfl h
def c_last_size : Dc := ⟨["row", "word"], ["row", "word"], [],
    [.ret (.ix (.cal "word_sizes" [(.var 0), (.var 1)]) (.neg (.int 1)))]⟩
structure U_last_size (p : Pg) : Prop where
  s : Hs p "last_size" c_last_size
  word_sizes : U_word_sizes p
theorem o_last_size {p : Pg} (u : U_last_size p) {n : Nat} {t0 t1 : T} {P : T → List T → Prop} {X : Str → Prop} (h : WB ⟨phi p n, p.gl, p.fu⟩ c_last_size.body [some t0, some t1] (fun G1 => 2 ≤ G1.length ∧ P .non [t0, t1]) (fun t G1 => 2 ≤ G1.length ∧ P t [t0, t1]) (fun _ => False) (fun _ => False) (fun n _ _ => X n)) (ha : isFL [t0, t1] = true := by ktr_rel) : Call p (n + 1) "last_size" [t0, t1] P X := opn0 u.s rfl rfl ha rfl h
def c_known_of : Dc := ⟨["row", "word", "person", "place", "mark"], ["row", "word"], [],
    [.ret .nev]⟩
structure U_known_of (p : Pg) : Prop where
  s : Hs p "known_of" c_known_of
  marks_of : U_marks_of p
theorem o_known_of {p : Pg} (u : U_known_of p) {n : Nat} {t0 t1 : T} {P : T → List T → Prop} {X : Str → Prop} (h : WB ⟨phi p n, p.gl, p.fu⟩ c_known_of.body [some t0, some t1, none, none, none] (fun G1 => 2 ≤ G1.length ∧ P .non [t0, t1]) (fun t G1 => 2 ≤ G1.length ∧ P t [t0, t1]) (fun _ => False) (fun _ => False) (fun n _ _ => X n)) (ha : isFL [t0, t1] = true := by ktr_rel) : Call p (n + 1) "known_of" [t0, t1] P X := opn0 u.s rfl rfl ha rfl h
-- ?? known_of: {person: (place, mark) for person, place, mark in marks_of(row, word)}
def c_need_end : Dc := ⟨["row", "word", "end"], ["row", "word", "end"], [],
    [.exp (.cal "need_word" [(.var 0), (.var 1)]),
      .iff (.not (.cal "is_row" [(.var 2)])) [.rse "NoEnd" []] []]⟩
structure U_need_end (p : Pg) : Prop where
  s : Hs p "need_end" c_need_end
  need_word : U_need_word p
  is_row : U_is_row p
theorem o_need_end {p : Pg} (u : U_need_end p) {n : Nat} {t0 t1 t2 : T} {P : T → List T → Prop} {X : Str → Prop} (h : WB ⟨phi p n, p.gl, p.fu⟩ c_need_end.body [some t0, some t1, some t2] (fun G1 => 3 ≤ G1.length ∧ P .non [t0, t1, t2]) (fun t G1 => 3 ≤ G1.length ∧ P t [t0, t1, t2]) (fun _ => False) (fun _ => False) (fun n _ _ => X n)) (ha : isFL [t0, t1, t2] = true := by ktr_rel) : Call p (n + 1) "need_end" [t0, t1, t2] P X := opn0 u.s rfl rfl ha rfl h
def c_is_of_these : Dc := ⟨["row", "word", "end", "known", "person"], ["row", "word", "end"], [],
    [.frz 3 (.asg (.nm 3) (.cal "known_of" [(.var 0), (.var 1)])),
      .ret (.and [(.cmp .eq (.bfn .len [(.var 2)]) (.cal "last_size" [(.var 0), (.var 1)])), (.bfn .all [(.lc (.cmp .inn (.var 4) (.var 3)) (.nm 4) .val [(.var 2)] [] [4])])])]⟩
structure U_is_of_these (p : Pg) : Prop where
  s : Hs p "is_of_these" c_is_of_these
  known_of : U_known_of p
  last_size : U_last_size p
theorem o_is_of_these {p : Pg} (u : U_is_of_these p) {n : Nat} {t0 t1 t2 : T} {P : T → List T → Prop} {X : Str → Prop} (h : WB ⟨phi p n, p.gl, p.fu⟩ c_is_of_these.body [some t0, some t1, some t2, none, none] (fun G1 => 3 ≤ G1.length ∧ P .non [t0, t1, t2]) (fun t G1 => 3 ≤ G1.length ∧ P t [t0, t1, t2]) (fun _ => False) (fun _ => False) (fun n _ _ => X n)) (ha : isFL [t0, t1, t2] = true := by ktr_rel) : Call p (n + 1) "is_of_these" [t0, t1, t2] P X := opn0 u.s rfl rfl ha rfl h
def c_first_wrong : Dc := ⟨["row", "word", "end", "known", "spot", "person", "place", "mark"], ["row", "word", "end"], [],
    [.frz 3 (.asg (.nm 3) (.cal "known_of" [(.var 0), (.var 1)])),
      .frr (.tp [(.nm 4), (.nm 5)]) .enm [(.var 2)] [.frz 7 (.frz 6 (.asg (.tp [(.nm 6), (.nm 7)]) (.ix (.var 3) (.var 5)))),
      .iff (.not (.cal "may_stand" [(.shr 6), (.shr 7), (.var 4)])) [.ret (.mov 4)] []],
      .ret .non]⟩
structure U_first_wrong (p : Pg) : Prop where
  s : Hs p "first_wrong" c_first_wrong
  known_of : U_known_of p
  may_stand : U_may_stand p
theorem o_first_wrong {p : Pg} (u : U_first_wrong p) {n : Nat} {t0 t1 t2 : T} {P : T → List T → Prop} {X : Str → Prop} (h : WB ⟨phi p n, p.gl, p.fu⟩ c_first_wrong.body [some t0, some t1, some t2, none, none, none, none, none] (fun G1 => 3 ≤ G1.length ∧ P .non [t0, t1, t2]) (fun t G1 => 3 ≤ G1.length ∧ P t [t0, t1, t2]) (fun _ => False) (fun _ => False) (fun n _ _ => X n)) (ha : isFL [t0, t1, t2] = true := by ktr_rel) : Call p (n + 1) "first_wrong" [t0, t1, t2] P X := opn0 u.s rfl rfl ha rfl h
def c_is_possible : Dc := ⟨["row", "word", "end"], ["row", "word", "end"], [],
    [.ret (.and [(.cal "is_of_these" [(.var 0), (.var 1), (.var 2)]), (.isN (.cal "first_wrong" [(.var 0), (.var 1), (.var 2)]))])]⟩
structure U_is_possible (p : Pg) : Prop where
  s : Hs p "is_possible" c_is_possible
  is_of_these : U_is_of_these p
  first_wrong : U_first_wrong p
theorem o_is_possible {p : Pg} (u : U_is_possible p) {n : Nat} {t0 t1 t2 : T} {P : T → List T → Prop} {X : Str → Prop} (h : WB ⟨phi p n, p.gl, p.fu⟩ c_is_possible.body [some t0, some t1, some t2] (fun G1 => 3 ≤ G1.length ∧ P .non [t0, t1, t2]) (fun t G1 => 3 ≤ G1.length ∧ P t [t0, t1, t2]) (fun _ => False) (fun _ => False) (fun n _ _ => X n)) (ha : isFL [t0, t1, t2] = true := by ktr_rel) : Call p (n + 1) "is_possible" [t0, t1, t2] P X := opn0 u.s rfl rfl ha rfl h
def c_can_be : Dc := ⟨["row", "word", "end"], ["row", "word", "end"], [],
    [.exp (.cal "need_end" [(.var 0), (.var 1), (.var 2)]),
      .ret (.cal "is_possible" [(.var 0), (.var 1), (.var 2)])]⟩
structure U_can_be (p : Pg) : Prop where
  s : Hs p "can_be" c_can_be
  need_end : U_need_end p
  is_possible : U_is_possible p
theorem o_can_be {p : Pg} (u : U_can_be p) {n : Nat} {t0 t1 t2 : T} {P : T → List T → Prop} {X : Str → Prop} (h : WB ⟨phi p n, p.gl, p.fu⟩ c_can_be.body [some t0, some t1, some t2] (fun G1 => 3 ≤ G1.length ∧ P .non [t0, t1, t2]) (fun t G1 => 3 ≤ G1.length ∧ P t [t0, t1, t2]) (fun _ => False) (fun _ => False) (fun n _ _ => X n)) (ha : isFL [t0, t1, t2] = true := by ktr_rel) : Call p (n + 1) "can_be" [t0, t1, t2] P X := opn0 u.s rfl rfl ha rfl h
def c_why_not : Dc := ⟨["row", "word", "end", "spot"], ["row", "word", "end"], [],
    [.exp (.cal "need_end" [(.var 0), (.var 1), (.var 2)]),
      .iff (.not (.cal "is_of_these" [(.var 0), (.var 1), (.var 2)])) [.rse "NoEnd" []] [],
      .asg (.nm 3) (.cal "first_wrong" [(.var 0), (.var 1), (.var 2)]),
      .ret (.ite (.isN (.var 3)) .non (.tup [(.ix (.var 2) (.var 3)), (.mov 3)]))]⟩
structure U_why_not (p : Pg) : Prop where
  s : Hs p "why_not" c_why_not
  need_end : U_need_end p
  first_wrong : U_first_wrong p
  is_of_these : U_is_of_these p
theorem o_why_not {p : Pg} (u : U_why_not p) {n : Nat} {t0 t1 t2 : T} {P : T → List T → Prop} {X : Str → Prop} (h : WB ⟨phi p n, p.gl, p.fu⟩ c_why_not.body [some t0, some t1, some t2, none] (fun G1 => 3 ≤ G1.length ∧ P .non [t0, t1, t2]) (fun t G1 => 3 ≤ G1.length ∧ P t [t0, t1, t2]) (fun _ => False) (fun _ => False) (fun n _ _ => X n)) (ha : isFL [t0, t1, t2] = true := by ktr_rel) : Call p (n + 1) "why_not" [t0, t1, t2] P X := opn0 u.s rfl rfl ha rfl h
def c_marks : Dc := ⟨["row", "word"], ["row", "word"], [],
    [.exp (.cal "need_word" [(.var 0), (.var 1)]),
      .ret (.cal "marks_of" [(.var 0), (.var 1)])]⟩
structure U_marks (p : Pg) : Prop where
  s : Hs p "marks" c_marks
  need_word : U_need_word p
  marks_of : U_marks_of p
theorem o_marks {p : Pg} (u : U_marks p) {n : Nat} {t0 t1 : T} {P : T → List T → Prop} {X : Str → Prop} (h : WB ⟨phi p n, p.gl, p.fu⟩ c_marks.body [some t0, some t1] (fun G1 => 2 ≤ G1.length ∧ P .non [t0, t1]) (fun t G1 => 2 ≤ G1.length ∧ P t [t0, t1]) (fun _ => False) (fun _ => False) (fun n _ _ => X n)) (ha : isFL [t0, t1] = true := by ktr_rel) : Call p (n + 1) "marks" [t0, t1] P X := opn0 u.s rfl rfl ha rfl h
def c_history : Dc := ⟨["row", "word", "end", "wished", "spot", "person", "here", "found", "deed"], ["row", "word", "end"], [],
    [.exp (.cal "need_end" [(.var 0), (.var 1), (.var 2)]),
      .iff (.not (.cal "is_possible" [(.var 0), (.var 1), (.var 2)])) [.ret .non] [],
      .asg (.nm 3) .nev,
      .asg (.nm 6) (.bfn .list [(.var 0)]),
      .asg (.nm 7) (.lst []),
      .frr (.nm 8) .val [(.var 1)] [.iff (.cmp .eq (.ix (.var 8) (.int 0)) (.str "in")) [.exp (.mut .append 6 [(.ix (.var 8) (.int 1))]),
      .exp (.mut .append 7 [(.var 8)])] [.frz 5 (.asg (.nm 5) (.mut .pop 6 [])),
      .frz 4 (.asg (.nm 4) (.met .get (.var 3) [(.var 5), (.bfn .len [(.var 6)])])),
      .iff (.cmp .lt (.var 4) (.bfn .len [(.var 6)])) [.asg (.sb 6 (.var 4)) (.var 5)] [],
      .exp (.mut .append 7 [(.tup [(.str "out"), (.var 4)])])]],
      .ret (.mov 7)]⟩
structure U_history (p : Pg) : Prop where
  s : Hs p "history" c_history
  need_end : U_need_end p
  is_possible : U_is_possible p
theorem o_history {p : Pg} (u : U_history p) {n : Nat} {t0 t1 t2 : T} {P : T → List T → Prop} {X : Str → Prop} (h : WB ⟨phi p n, p.gl, p.fu⟩ c_history.body [some t0, some t1, some t2, none, none, none, none, none, none] (fun G1 => 3 ≤ G1.length ∧ P .non [t0, t1, t2]) (fun t G1 => 3 ≤ G1.length ∧ P t [t0, t1, t2]) (fun _ => False) (fun _ => False) (fun n _ _ => X n)) (ha : isFL [t0, t1, t2] = true := by ktr_rel) : Call p (n + 1) "history" [t0, t1, t2] P X := opn0 u.s rfl rfl ha rfl h
-- ?? history: {person: spot for spot, person in enumerate(end)}
def c_moved : Dc := ⟨["row", "word", "end", "known", "spot", "person"], ["row", "word", "end"], [],
    [.exp (.cal "need_end" [(.var 0), (.var 1), (.var 2)]),
      .iff (.not (.cal "is_possible" [(.var 0), (.var 1), (.var 2)])) [.rse "NoEnd" []] [],
      .frz 3 (.asg (.nm 3) (.cal "known_of" [(.var 0), (.var 1)])),
      .ret (.bfn .sorted [(.lc (.var 5) (.tp [(.nm 4), (.nm 5)]) .enm [(.var 2)] [(.cmp .ne (.ix (.ix (.var 3) (.var 5)) (.int 0)) (.var 4))] [4, 5])])]⟩
structure U_moved (p : Pg) : Prop where
  s : Hs p "moved" c_moved
  need_end : U_need_end p
  known_of : U_known_of p
  is_possible : U_is_possible p
theorem o_moved {p : Pg} (u : U_moved p) {n : Nat} {t0 t1 t2 : T} {P : T → List T → Prop} {X : Str → Prop} (h : WB ⟨phi p n, p.gl, p.fu⟩ c_moved.body [some t0, some t1, some t2, none, none, none] (fun G1 => 3 ≤ G1.length ∧ P .non [t0, t1, t2]) (fun t G1 => 3 ≤ G1.length ∧ P t [t0, t1, t2]) (fun _ => False) (fun _ => False) (fun n _ _ => X n)) (ha : isFL [t0, t1, t2] = true := by ktr_rel) : Call p (n + 1) "moved" [t0, t1, t2] P X := opn0 u.s rfl rfl ha rfl h
def c_comings_of : Dc := ⟨["row", "word"], ["row", "word"], [],
    [.exp (.cal "need_word" [(.var 0), (.var 1)]),
      .ret .nev]⟩
structure U_comings_of (p : Pg) : Prop where
  s : Hs p "comings_of" c_comings_of
  need_word : U_need_word p
theorem o_comings_of {p : Pg} (u : U_comings_of p) {n : Nat} {t0 t1 : T} {P : T → List T → Prop} {X : Str → Prop} (h : WB ⟨phi p n, p.gl, p.fu⟩ c_comings_of.body [some t0, some t1] (fun G1 => 2 ≤ G1.length ∧ P .non [t0, t1]) (fun t G1 => 2 ≤ G1.length ∧ P t [t0, t1]) (fun _ => False) (fun _ => False) (fun n _ _ => X n)) (ha : isFL [t0, t1] = true := by ktr_rel) : Call p (n + 1) "comings_of" [t0, t1] P X := opn0 u.s rfl rfl ha rfl h
-- ?? comings_of: Comings(row, word)
def c_owners : Dc := ⟨["row", "word", "comings", "by_place", "person", "place"], ["row", "word"], [],
    [.frz 2 (.asg (.nm 2) (.cal "comings_of" [(.var 0), (.var 1)])),
      .asg (.nm 3) .nev,
      .ret (.lc (.ix (.var 3) (.var 5)) (.nm 5) .rng [.nev] [] [5])]⟩
structure U_owners (p : Pg) : Prop where
  s : Hs p "owners" c_owners
  comings_of : U_comings_of p
theorem o_owners {p : Pg} (u : U_owners p) {n : Nat} {t0 t1 : T} {P : T → List T → Prop} {X : Str → Prop} (h : WB ⟨phi p n, p.gl, p.fu⟩ c_owners.body [some t0, some t1, none, none, none, none] (fun G1 => 2 ≤ G1.length ∧ P .non [t0, t1]) (fun t G1 => 2 ≤ G1.length ∧ P t [t0, t1]) (fun _ => False) (fun _ => False) (fun n _ _ => X n)) (ha : isFL [t0, t1] = true := by ktr_rel) : Call p (n + 1) "owners" [t0, t1] P X := opn0 u.s rfl rfl ha rfl h
-- ?? owners: {place: person for person, place in comings.own_places.items()}
-- ?? owners: comings.last_size
def c_wanderers : Dc := ⟨["row", "word"], ["row", "word"], [],
    [.ret .nev]⟩
structure U_wanderers (p : Pg) : Prop where
  s : Hs p "wanderers" c_wanderers
  comings_of : U_comings_of p
theorem o_wanderers {p : Pg} (u : U_wanderers p) {n : Nat} {t0 t1 : T} {P : T → List T → Prop} {X : Str → Prop} (h : WB ⟨phi p n, p.gl, p.fu⟩ c_wanderers.body [some t0, some t1] (fun G1 => 2 ≤ G1.length ∧ P .non [t0, t1]) (fun t G1 => 2 ≤ G1.length ∧ P t [t0, t1]) (fun _ => False) (fun _ => False) (fun n _ _ => X n)) (ha : isFL [t0, t1] = true := by ktr_rel) : Call p (n + 1) "wanderers" [t0, t1] P X := opn0 u.s rfl rfl ha rfl h
-- ?? wanderers: sorted(list(comings_of(row, word).roaming.items()), key=lambda one: one[1])
def c_many_rows : Dc := ⟨["row", "word", "comings"], ["row", "word"], [],
    [.frz 2 (.asg (.nm 2) (.cal "comings_of" [(.var 0), (.var 1)])),
      .ret .nev]⟩
structure U_many_rows (p : Pg) : Prop where
  s : Hs p "many_rows" c_many_rows
  comings_of : U_comings_of p
theorem o_many_rows {p : Pg} (u : U_many_rows p) {n : Nat} {t0 t1 : T} {P : T → List T → Prop} {X : Str → Prop} (h : WB ⟨phi p n, p.gl, p.fu⟩ c_many_rows.body [some t0, some t1, none] (fun G1 => 2 ≤ G1.length ∧ P .non [t0, t1]) (fun t G1 => 2 ≤ G1.length ∧ P t [t0, t1]) (fun _ => False) (fun _ => False) (fun n _ _ => X n)) (ha : isFL [t0, t1] = true := by ktr_rel) : Call p (n + 1) "many_rows" [t0, t1] P X := opn0 u.s rfl rfl ha rfl h
-- ?? many_rows: comings.with_part([None] * comings.last_size)
def c_nth_row : Dc := ⟨["row", "word", "number", "comings", "part", "place", "person", "many"], ["row", "word", "number"], [],
    [.frz 3 (.asg (.nm 3) (.cal "comings_of" [(.var 0), (.var 1)])),
      .asg (.nm 4) (.bin .mul (.lst [.non]) .nev),
      .iff (.or [(.not (.cal "is_amount" [(.var 2)])), (.cmp .ge (.var 2) .nev)]) [.rse "NoNumber" []] [],
      .frr (.nm 5) .rng [.nev] [.frr (.tp [(.nm 6), (.nm 7)]) .val [.nev] [.iff (.cmp .lt (.var 2) (.var 7)) [.asg (.sb 4 (.var 5)) (.var 6),
      .brk] [],
      .aug 2 .sub (.var 7)]],
      .ret (.bfn .tuple [(.var 4)])]⟩
structure U_nth_row (p : Pg) : Prop where
  s : Hs p "nth_row" c_nth_row
  comings_of : U_comings_of p
  is_amount : U_is_amount p
theorem o_nth_row {p : Pg} (u : U_nth_row p) {n : Nat} {t0 t1 t2 : T} {P : T → List T → Prop} {X : Str → Prop} (h : WB ⟨phi p n, p.gl, p.fu⟩ c_nth_row.body [some t0, some t1, some t2, none, none, none, none, none] (fun G1 => 3 ≤ G1.length ∧ P .non [t0, t1, t2]) (fun t G1 => 3 ≤ G1.length ∧ P t [t0, t1, t2]) (fun _ => False) (fun _ => False) (fun n _ _ => X n)) (ha : isFL [t0, t1, t2] = true := by ktr_rel) : Call p (n + 1) "nth_row" [t0, t1, t2] P X := opn0 u.s rfl rfl ha rfl h
-- ?? nth_row: comings.last_size
-- ?? nth_row: comings.with_part(part)
-- ?? nth_row: comings.last_size
-- ?? nth_row: comings.steps_at(part)
def c_row_number : Dc := ⟨["row", "word", "end", "comings", "part", "found", "place", "there", "person", "many"], ["row", "word", "end"], [],
    [.iff (.not (.cal "can_be" [(.var 0), (.var 1), (.var 2)])) [.rse "NoEnd" []] [],
      .frz 3 (.asg (.nm 3) .nev),
      .asg (.nm 4) (.bin .mul (.lst [.non]) .nev),
      .asg (.nm 5) (.int 0),
      .frr (.tp [(.nm 6), (.nm 7)]) .enm [(.var 2)] [.frr (.tp [(.nm 8), (.nm 9)]) .val [.nev] [.iff (.cmp .eq (.var 8) (.var 7)) [.brk] [],
      .aug 5 .add (.var 9)],
      .asg (.sb 4 (.var 6)) (.var 7)],
      .ret (.mov 5)]⟩
structure U_row_number (p : Pg) : Prop where
  s : Hs p "row_number" c_row_number
  can_be : U_can_be p
theorem o_row_number {p : Pg} (u : U_row_number p) {n : Nat} {t0 t1 t2 : T} {P : T → List T → Prop} {X : Str → Prop} (h : WB ⟨phi p n, p.gl, p.fu⟩ c_row_number.body [some t0, some t1, some t2, none, none, none, none, none, none, none] (fun G1 => 3 ≤ G1.length ∧ P .non [t0, t1, t2]) (fun t G1 => 3 ≤ G1.length ∧ P t [t0, t1, t2]) (fun _ => False) (fun _ => False) (fun n _ _ => X n)) (ha : isFL [t0, t1, t2] = true := by ktr_rel) : Call p (n + 1) "row_number" [t0, t1, t2] P X := opn0 u.s rfl rfl ha rfl h
-- ?? row_number: Comings(row, word)
-- ?? row_number: comings.last_size
-- ?? row_number: comings.steps_at(part)
def c_need_part : Dc := ⟨["comings", "part", "there", "person", "people"], ["comings", "part"], [],
    [.iff (.or [(.not (.isi (.var 1) ["list"])), (.cmp .ne (.bfn .len [(.var 1)]) .nev)]) [.rse "NoPart" []] [],
      .frz 2 (.asl 2 (.lc (.var 3) (.nm 3) .val [(.var 1)] [(.noN (.var 3))] [3])),
      .frz 4 (.asg (.nm 4) .nev),
      .iff (.not (.bfn .all [(.lc (.and [(.isi (.var 3) ["str"]), (.cmp .inn (.var 3) (.var 4))]) (.nm 3) .val [(.var 2)] [] [3])])) [.rse "NoPart" []] [],
      .iff (.cmp .lt (.bfn .len [.nev]) (.bfn .len [(.var 2)])) [.rse "NoPart" []] []]⟩
structure U_need_part (p : Pg) : Prop where
  s : Hs p "need_part" c_need_part
theorem o_need_part {p : Pg} (u : U_need_part p) {n : Nat} {t0 t1 : T} {P : T → List T → Prop} {X : Str → Prop} (h : WB ⟨phi p n, p.gl, p.fu⟩ c_need_part.body [some t0, some t1, none, none, none] (fun G1 => 2 ≤ G1.length ∧ P .non [t0, t1]) (fun t G1 => 2 ≤ G1.length ∧ P t [t0, t1]) (fun _ => False) (fun _ => False) (fun n _ _ => X n)) (ha : isFL [t0, t1] = true := by ktr_rel) : Call p (n + 1) "need_part" [t0, t1] P X := opn0 u.s rfl rfl ha rfl h
-- ?? need_part: comings.last_size
-- ?? need_part: comings.people()
-- ?? need_part: {person: True for person in there}
def c_many_with : Dc := ⟨["row", "word", "part", "comings"], ["row", "word", "part"], [],
    [.frz 3 (.asg (.nm 3) (.cal "comings_of" [(.var 0), (.var 1)])),
      .exp (.cal "need_part" [(.shr 3), (.var 2)]),
      .ret .nev]⟩
structure U_many_with (p : Pg) : Prop where
  s : Hs p "many_with" c_many_with
  comings_of : U_comings_of p
  need_part : U_need_part p
theorem o_many_with {p : Pg} (u : U_many_with p) {n : Nat} {t0 t1 t2 : T} {P : T → List T → Prop} {X : Str → Prop} (h : WB ⟨phi p n, p.gl, p.fu⟩ c_many_with.body [some t0, some t1, some t2, none] (fun G1 => 3 ≤ G1.length ∧ P .non [t0, t1, t2]) (fun t G1 => 3 ≤ G1.length ∧ P t [t0, t1, t2]) (fun _ => False) (fun _ => False) (fun n _ _ => X n)) (ha : isFL [t0, t1, t2] = true := by ktr_rel) : Call p (n + 1) "many_with" [t0, t1, t2] P X := opn0 u.s rfl rfl ha rfl h
-- ?? many_with: comings.with_part(part)
def c_can_stand : Dc := ⟨["row", "word", "person", "comings", "place"], ["row", "word", "person"], [],
    [.frz 3 (.asg (.nm 3) (.cal "comings_of" [(.var 0), (.var 1)])),
      .iff (.or [(.not (.isi (.var 2) ["str"])), (.cmp .nin (.var 2) .nev)]) [.rse "NoPerson" []] [],
      .ret (.lc (.var 4) (.nm 4) .rng [.nev] [.nev] [4])]⟩
structure U_can_stand (p : Pg) : Prop where
  s : Hs p "can_stand" c_can_stand
  comings_of : U_comings_of p
theorem o_can_stand {p : Pg} (u : U_can_stand p) {n : Nat} {t0 t1 t2 : T} {P : T → List T → Prop} {X : Str → Prop} (h : WB ⟨phi p n, p.gl, p.fu⟩ c_can_stand.body [some t0, some t1, some t2, none, none] (fun G1 => 3 ≤ G1.length ∧ P .non [t0, t1, t2]) (fun t G1 => 3 ≤ G1.length ∧ P t [t0, t1, t2]) (fun _ => False) (fun _ => False) (fun n _ _ => X n)) (ha : isFL [t0, t1, t2] = true := by ktr_rel) : Call p (n + 1) "can_stand" [t0, t1, t2] P X := opn0 u.s rfl rfl ha rfl h
-- ?? can_stand: comings.people()
-- ?? can_stand: comings.last_size
-- ?? can_stand: comings.can_be_there(person, place)
def c_can_be_at : Dc := ⟨["row", "word", "place", "comings", "person"], ["row", "word", "place"], [],
    [.frz 3 (.asg (.nm 3) (.cal "comings_of" [(.var 0), (.var 1)])),
      .iff (.or [(.not (.cal "is_amount" [(.var 2)])), (.cmp .ge (.var 2) .nev)]) [.rse "NoPlace" []] [],
      .ret (.lc (.var 4) (.nm 4) .val [.nev] [.nev] [4])]⟩
structure U_can_be_at (p : Pg) : Prop where
  s : Hs p "can_be_at" c_can_be_at
  comings_of : U_comings_of p
  is_amount : U_is_amount p
theorem o_can_be_at {p : Pg} (u : U_can_be_at p) {n : Nat} {t0 t1 t2 : T} {P : T → List T → Prop} {X : Str → Prop} (h : WB ⟨phi p n, p.gl, p.fu⟩ c_can_be_at.body [some t0, some t1, some t2, none, none] (fun G1 => 3 ≤ G1.length ∧ P .non [t0, t1, t2]) (fun t G1 => 3 ≤ G1.length ∧ P t [t0, t1, t2]) (fun _ => False) (fun _ => False) (fun n _ _ => X n)) (ha : isFL [t0, t1, t2] = true := by ktr_rel) : Call p (n + 1) "can_be_at" [t0, t1, t2] P X := opn0 u.s rfl rfl ha rfl h
-- ?? can_be_at: comings.last_size
-- ?? can_be_at: comings.people()
-- ?? can_be_at: comings.can_be_there(person, place)
def c_without : Dc := ⟨["row", "place", "rest"], ["row", "place"], [],
    [.asg (.nm 2) (.slH (.var 0) (.neg (.int 1))),
      .ret (.ite (.cmp .eq (.var 1) (.bfn .len [(.var 2)])) (.mov 2) (.bin .add (.bin .add (.slH (.var 2) (.var 1)) (.slL (.var 0) (.neg (.int 1)))) (.slL (.var 2) (.bin .add (.var 1) (.int 1)))))]⟩
structure U_without (p : Pg) : Prop where
  s : Hs p "without" c_without
theorem o_without {p : Pg} (u : U_without p) {n : Nat} {t0 t1 : T} {P : T → List T → Prop} {X : Str → Prop} (h : WB ⟨phi p n, p.gl, p.fu⟩ c_without.body [some t0, some t1, none] (fun G1 => 2 ≤ G1.length ∧ P .non [t0, t1]) (fun t G1 => 2 ≤ G1.length ∧ P t [t0, t1]) (fun _ => False) (fun _ => False) (fun n _ _ => X n)) (ha : isFL [t0, t1] = true := by ktr_rel) : Call p (n + 1) "without" [t0, t1] P X := opn0 u.s rfl rfl ha rfl h
def c_rows_behind : Dc := ⟨["rows", "deed", "found", "here", "many", "there", "place"], ["rows", "deed"], [],
    [.asg (.nm 2) .nev,
      .frr (.tp [(.nm 3), (.nm 4)]) .val [.nev] [.frr (.nm 5) .val [(.ite (.cmp .eq (.ix (.var 1) (.int 0)) (.str "in")) (.lst [(.bin .add (.var 3) (.tup [(.ix (.var 1) (.int 1))]))]) (.lc (.cal "without" [(.var 3), (.var 6)]) (.nm 6) .rng [(.bfn .len [(.var 3)])] [] [6]))] [.asg (.sb 2 (.var 5)) (.bin .add (.met .get (.var 2) [(.var 5), (.int 0)]) (.var 4))]],
      .ret (.mov 2)]⟩
structure U_rows_behind (p : Pg) : Prop where
  s : Hs p "rows_behind" c_rows_behind
  without : U_without p
theorem o_rows_behind {p : Pg} (u : U_rows_behind p) {n : Nat} {t0 t1 : T} {P : T → List T → Prop} {X : Str → Prop} (h : WB ⟨phi p n, p.gl, p.fu⟩ c_rows_behind.body [some t0, some t1, none, none, none, none, none] (fun G1 => 2 ≤ G1.length ∧ P .non [t0, t1]) (fun t G1 => 2 ≤ G1.length ∧ P t [t0, t1]) (fun _ => False) (fun _ => False) (fun n _ _ => X n)) (ha : isFL [t0, t1] = true := by ktr_rel) : Call p (n + 1) "rows_behind" [t0, t1] P X := opn0 u.s rfl rfl ha rfl h
-- ?? rows_behind: {}
-- ?? rows_behind: rows.items()
def c_how_many : Dc := ⟨["row", "word", "end", "rows", "deed"], ["row", "word", "end"], [],
    [.exp (.cal "need_word" [(.var 0), (.var 1)]),
      .iff (.not (.cal "is_row" [(.var 2)])) [.rse "NoEnd" []] [],
      .iff (.cmp .gt (.cal "orders_by" [(.var 0), (.var 1)]) (.glo "MOST_ORDERS")) [.rse "TooMany" [(.glo "MOST_ORDERS")]] [],
      .asg (.nm 3) .nev,
      .frr (.nm 4) .val [(.var 1)] [.frz 3 (.asg (.nm 3) (.cal "rows_behind" [(.shr 3), (.shr 4)]))],
      .ret (.met .get (.var 3) [(.var 2), (.int 0)])]⟩
structure U_how_many (p : Pg) : Prop where
  s : Hs p "how_many" c_how_many
  need_word : U_need_word p
  is_row : U_is_row p
  orders_by : U_orders_by p
  rows_behind : U_rows_behind p
  g_MOST_ORDERS : p.gl "MOST_ORDERS" = some (.int 5000)
theorem o_how_many {p : Pg} (u : U_how_many p) {n : Nat} {t0 t1 t2 : T} {P : T → List T → Prop} {X : Str → Prop} (h : WB ⟨phi p n, p.gl, p.fu⟩ c_how_many.body [some t0, some t1, some t2, none, none] (fun G1 => 3 ≤ G1.length ∧ P .non [t0, t1, t2]) (fun t G1 => 3 ≤ G1.length ∧ P t [t0, t1, t2]) (fun _ => False) (fun _ => False) (fun n _ _ => X n)) (ha : isFL [t0, t1, t2] = true := by ktr_rel) : Call p (n + 1) "how_many" [t0, t1, t2] P X := opn0 u.s rfl rfl ha rfl h
-- ?? how_many: {row: 1}
def c_swapped : Dc := ⟨["row", "spots", "spot", "people"], ["row", "spots"], [],
    [.exp (.cal "need_row" [(.var 0)]),
      .iff (.or [(.not (.isi (.var 1) ["list"])), (.not (.bfn .all [(.lc (.and [(.cal "is_amount" [(.var 2)]), (.cmp .lt (.bin .add (.var 2) (.int 1)) (.bfn .len [(.var 0)]))]) (.nm 2) .val [(.var 1)] [] [2])]))]) [.rse "NoSwaps" []] [],
      .asg (.nm 3) (.bfn .list [(.var 0)]),
      .frr (.nm 2) .val [(.var 1)] [.asg (.tp [(.sb 3 (.var 2)), (.sb 3 (.neg (.int 1)))]) (.tup [(.ix (.var 3) (.neg (.int 1))), (.ix (.var 3) (.var 2))])],
      .ret (.bfn .tuple [(.var 3)])]⟩
structure U_swapped (p : Pg) : Prop where
  s : Hs p "swapped" c_swapped
  need_row : U_need_row p
  is_amount : U_is_amount p
theorem o_swapped {p : Pg} (u : U_swapped p) {n : Nat} {t0 t1 : T} {P : T → List T → Prop} {X : Str → Prop} (h : WB ⟨phi p n, p.gl, p.fu⟩ c_swapped.body [some t0, some t1, none, none] (fun G1 => 2 ≤ G1.length ∧ P .non [t0, t1]) (fun t G1 => 2 ≤ G1.length ∧ P t [t0, t1]) (fun _ => False) (fun _ => False) (fun n _ _ => X n)) (ha : isFL [t0, t1] = true := by ktr_rel) : Call p (n + 1) "swapped" [t0, t1] P X := opn0 u.s rfl rfl ha rfl h
def c_need_like : Dc := ⟨["row", "wished"], ["row", "wished"], [],
    [.exp (.cal "need_row" [(.var 0)]),
      .exp (.cal "need_row" [(.var 1)]),
      .iff (.or [(.cmp .eq (.var 0) (.tup [])), (.cmp .ne (.bfn .sorted [(.var 0)]) (.bfn .sorted [(.var 1)]))]) [.rse "Unlike" []] []]⟩
structure U_need_like (p : Pg) : Prop where
  s : Hs p "need_like" c_need_like
  need_row : U_need_row p
theorem o_need_like {p : Pg} (u : U_need_like p) {n : Nat} {t0 t1 : T} {P : T → List T → Prop} {X : Str → Prop} (h : WB ⟨phi p n, p.gl, p.fu⟩ c_need_like.body [some t0, some t1] (fun G1 => 2 ≤ G1.length ∧ P .non [t0, t1]) (fun t G1 => 2 ≤ G1.length ∧ P t [t0, t1]) (fun _ => False) (fun _ => False) (fun n _ _ => X n)) (ha : isFL [t0, t1] = true := by ktr_rel) : Call p (n + 1) "need_like" [t0, t1] P X := opn0 u.s rfl rfl ha rfl h
def c_ring_lengths : Dc := ⟨["row", "wished", "goes", "person", "known", "lengths", "first", "many", "place", "length"], ["row", "wished"], [],
    [.frz 2 (.asl 2 (.lc (.met .index (.var 1) [(.var 3)]) (.nm 3) .val [(.var 0)] [] [3])),
      .asg (.nm 4) .nev,
      .asg (.nm 5) (.lst []),
      .frr (.nm 6) .rng [(.bin .sub (.bfn .len [(.var 0)]) (.int 1)), (.neg (.int 1)), (.neg (.int 1))] [.iff (.cmp .nin (.var 6) (.var 4)) [.par 7 8 (.int 0) (.var 6),
      .whl (.cmp .nin (.var 8) (.var 4)) [.asg (.sb 4 (.var 8)) (.bl true),
      .par 7 8 (.bin .add (.var 7) (.int 1)) (.ix (.var 2) (.var 8))],
      .exp (.mut .append 5 [(.var 7)])] []],
      .ret (.tup [(.ix (.var 5) (.int 0)), (.lc (.var 9) (.nm 9) .val [(.slL (.var 5) (.int 1))] [(.cmp .gt (.var 9) (.int 1))] [9])])]⟩
structure U_ring_lengths (p : Pg) : Prop where
  s : Hs p "ring_lengths" c_ring_lengths
theorem o_ring_lengths {p : Pg} (u : U_ring_lengths p) {n : Nat} {t0 t1 : T} {P : T → List T → Prop} {X : Str → Prop} (h : WB ⟨phi p n, p.gl, p.fu⟩ c_ring_lengths.body [some t0, some t1, none, none, none, none, none, none, none, none] (fun G1 => 2 ≤ G1.length ∧ P .non [t0, t1]) (fun t G1 => 2 ≤ G1.length ∧ P t [t0, t1]) (fun _ => False) (fun _ => False) (fun n _ _ => X n)) (ha : isFL [t0, t1] = true := by ktr_rel) : Call p (n + 1) "ring_lengths" [t0, t1] P X := opn0 u.s rfl rfl ha rfl h
-- ?? ring_lengths: {}
def c_fewest_of : Dc := ⟨["last", "others", "length"], ["last", "others"], [],
    [.ret (.bin .add (.bin .sub (.var 0) (.int 1)) (.bfn .sum [(.lc (.bin .add (.var 2) (.int 1)) (.nm 2) .val [(.var 1)] [] [2])]))]⟩
structure U_fewest_of (p : Pg) : Prop where
  s : Hs p "fewest_of" c_fewest_of
theorem o_fewest_of {p : Pg} (u : U_fewest_of p) {n : Nat} {t0 t1 : T} {P : T → List T → Prop} {X : Str → Prop} (h : WB ⟨phi p n, p.gl, p.fu⟩ c_fewest_of.body [some t0, some t1, none] (fun G1 => 2 ≤ G1.length ∧ P .non [t0, t1]) (fun t G1 => 2 ≤ G1.length ∧ P t [t0, t1]) (fun _ => False) (fun _ => False) (fun n _ _ => X n)) (ha : isFL [t0, t1] = true := by ktr_rel) : Call p (n + 1) "fewest_of" [t0, t1] P X := opn0 u.s rfl rfl ha rfl h
def c_fewest : Dc := ⟨["row", "wished", "last", "others"], ["row", "wished"], [],
    [.exp (.cal "need_like" [(.var 0), (.var 1)]),
      .frz 3 (.frz 2 (.asg (.tp [(.nm 2), (.nm 3)]) (.cal "ring_lengths" [(.var 0), (.var 1)]))),
      .ret (.cal "fewest_of" [(.shr 2), (.shr 3)])]⟩
structure U_fewest (p : Pg) : Prop where
  s : Hs p "fewest" c_fewest
  need_like : U_need_like p
  ring_lengths : U_ring_lengths p
  fewest_of : U_fewest_of p
theorem o_fewest {p : Pg} (u : U_fewest p) {n : Nat} {t0 t1 : T} {P : T → List T → Prop} {X : Str → Prop} (h : WB ⟨phi p n, p.gl, p.fu⟩ c_fewest.body [some t0, some t1, none, none] (fun G1 => 2 ≤ G1.length ∧ P .non [t0, t1]) (fun t G1 => 2 ≤ G1.length ∧ P t [t0, t1]) (fun _ => False) (fun _ => False) (fun n _ _ => X n)) (ha : isFL [t0, t1] = true := by ktr_rel) : Call p (n + 1) "fewest" [t0, t1] P X := opn0 u.s rfl rfl ha rfl h
def c_swaps : Dc := ⟨["row", "wished", "people", "found", "spot", "place"], ["row", "wished"], [],
    [.exp (.cal "need_like" [(.var 0), (.var 1)]),
      .asg (.nm 2) (.bfn .list [(.var 0)]),
      .asg (.nm 3) (.lst []),
      .whl (.cmp .ne (.bfn .tuple [(.var 2)]) (.var 1)) [.frz 4 (.asg (.nm 4) (.met .index (.var 1) [(.ix (.var 2) (.neg (.int 1)))])),
      .iff (.cmp .eq (.var 4) (.bin .sub (.bfn .len [(.var 2)]) (.int 1))) [.frz 4 (.asg (.nm 4) (.ix (.lc (.var 5) (.nm 5) .rng [(.bfn .len [(.var 2)])] [(.cmp .ne (.ix (.var 2) (.var 5)) (.ix (.var 1) (.var 5)))] [5]) (.int 0)))] [],
      .asg (.tp [(.sb 2 (.var 4)), (.sb 2 (.neg (.int 1)))]) (.tup [(.ix (.var 2) (.neg (.int 1))), (.ix (.var 2) (.var 4))]),
      .exp (.mut .append 3 [(.var 4)])],
      .ret (.mov 3)]⟩
structure U_swaps (p : Pg) : Prop where
  s : Hs p "swaps" c_swaps
  need_like : U_need_like p
theorem o_swaps {p : Pg} (u : U_swaps p) {n : Nat} {t0 t1 : T} {P : T → List T → Prop} {X : Str → Prop} (h : WB ⟨phi p n, p.gl, p.fu⟩ c_swaps.body [some t0, some t1, none, none, none, none] (fun G1 => 2 ≤ G1.length ∧ P .non [t0, t1]) (fun t G1 => 2 ≤ G1.length ∧ P t [t0, t1]) (fun _ => False) (fun _ => False) (fun n _ _ => X n)) (ha : isFL [t0, t1] = true := by ktr_rel) : Call p (n + 1) "swaps" [t0, t1] P X := opn0 u.s rfl rfl ha rfl h
def c_product : Dc := ⟨["numbers", "found", "number"], ["numbers"], [],
    [.asg (.nm 1) (.int 1),
      .frr (.nm 2) .val [(.var 0)] [.aug 1 .mul (.var 2)],
      .ret (.mov 1)]⟩
structure U_product (p : Pg) : Prop where
  s : Hs p "product" c_product
theorem o_product {p : Pg} (u : U_product p) {n : Nat} {t0 : T} {P : T → List T → Prop} {X : Str → Prop} (h : WB ⟨phi p n, p.gl, p.fu⟩ c_product.body [some t0, none, none] (fun G1 => 1 ≤ G1.length ∧ P .non [t0]) (fun t G1 => 1 ≤ G1.length ∧ P t [t0]) (fun _ => False) (fun _ => False) (fun n _ _ => X n)) (ha : isFL [t0] = true := by ktr_rel) : Call p (n + 1) "product" [t0] P X := opn0 u.s rfl rfl ha rfl h
def c_many_ways : Dc := ⟨["row", "wished", "last", "others", "many", "ways"], ["row", "wished"], [],
    [.exp (.cal "need_like" [(.var 0), (.var 1)]),
      .frz 3 (.frz 2 (.asg (.tp [(.nm 2), (.nm 3)]) (.cal "ring_lengths" [(.var 0), (.var 1)]))),
      .frz 4 (.asg (.nm 4) (.cal "fewest_of" [(.shr 2), (.shr 3)])),
      .frz 5 (.asg (.nm 5) (.bin .mul (.bin .mul (.var 2) (.cal "product" [(.shr 3)])) (.cal "product" [(.bfn .list [.nev])]))),
      .ret (.bin .fdiv (.var 5) (.cal "product" [(.bfn .list [.nev])]))]⟩
structure U_many_ways (p : Pg) : Prop where
  s : Hs p "many_ways" c_many_ways
  need_like : U_need_like p
  ring_lengths : U_ring_lengths p
  fewest_of : U_fewest_of p
  product : U_product p
theorem o_many_ways {p : Pg} (u : U_many_ways p) {n : Nat} {t0 t1 : T} {P : T → List T → Prop} {X : Str → Prop} (h : WB ⟨phi p n, p.gl, p.fu⟩ c_many_ways.body [some t0, some t1, none, none, none, none] (fun G1 => 2 ≤ G1.length ∧ P .non [t0, t1]) (fun t G1 => 2 ≤ G1.length ∧ P t [t0, t1]) (fun _ => False) (fun _ => False) (fun n _ _ => X n)) (ha : isFL [t0, t1] = true := by ktr_rel) : Call p (n + 1) "many_ways" [t0, t1] P X := opn0 u.s rfl rfl ha rfl h
-- ?? many_ways: range(1, many + 1)
-- ?? many_ways: range(1, many - len(others) + 2)
def c_is_work : Dc := ⟨["thing", "one"], ["thing"], [],
    [.ret (.and [(.isi (.var 0) ["list"]), (.bfn .all [(.lc (.or [(.cal "is_word" [(.var 1), (.str "put")]), (.cal "is_going" [(.var 1)])]) (.nm 1) .val [(.var 0)] [] [1])])])]⟩
structure U_is_work (p : Pg) : Prop where
  s : Hs p "is_work" c_is_work
  is_word : U_is_word p
  is_going : U_is_going p
theorem o_is_work {p : Pg} (u : U_is_work p) {n : Nat} {t0 : T} {P : T → List T → Prop} {X : Str → Prop} (h : WB ⟨phi p n, p.gl, p.fu⟩ c_is_work.body [some t0, none] (fun G1 => 1 ≤ G1.length ∧ P .non [t0]) (fun t G1 => 1 ≤ G1.length ∧ P t [t0]) (fun _ => False) (fun _ => False) (fun n _ _ => X n)) (ha : isFL [t0] = true := by ktr_rel) : Call p (n + 1) "is_work" [t0] P X := opn0 u.s rfl rfl ha rfl h
def c_need_work : Dc := ⟨["thing"], ["thing"], [],
    [.iff (.not (.cal "is_work" [(.var 0)])) [.rse "NoWork" []] []]⟩
structure U_need_work (p : Pg) : Prop where
  s : Hs p "need_work" c_need_work
  is_work : U_is_work p
theorem o_need_work {p : Pg} (u : U_need_work p) {n : Nat} {t0 : T} {P : T → List T → Prop} {X : Str → Prop} (h : WB ⟨phi p n, p.gl, p.fu⟩ c_need_work.body [some t0] (fun G1 => 1 ≤ G1.length ∧ P .non [t0]) (fun t G1 => 1 ≤ G1.length ∧ P t [t0]) (fun _ => False) (fun _ => False) (fun n _ _ => X n)) (ha : isFL [t0] = true := by ktr_rel) : Call p (n + 1) "need_work" [t0] P X := opn0 u.s rfl rfl ha rfl h
def c_outs_of : Dc := ⟨["work", "deed"], ["work"], [],
    [.ret (.lc (.ix (.var 1) (.int 1)) (.nm 1) .val [(.var 0)] [(.cmp .eq (.ix (.var 1) (.int 0)) (.glo "OUT"))] [1])]⟩
structure U_outs_of (p : Pg) : Prop where
  s : Hs p "outs_of" c_outs_of
  g_OUT : p.gl "OUT" = some (.str "out")
theorem o_outs_of {p : Pg} (u : U_outs_of p) {n : Nat} {t0 : T} {P : T → List T → Prop} {X : Str → Prop} (h : WB ⟨phi p n, p.gl, p.fu⟩ c_outs_of.body [some t0, none] (fun G1 => 1 ≤ G1.length ∧ P .non [t0]) (fun t G1 => 1 ≤ G1.length ∧ P t [t0]) (fun _ => False) (fun _ => False) (fun n _ _ => X n)) (ha : isFL [t0] = true := by ktr_rel) : Call p (n + 1) "outs_of" [t0] P X := opn0 u.s rfl rfl ha rfl h
def c_length_for : Dc := ⟨["work", "outs"], ["work"], [],
    [.frz 1 (.asg (.nm 1) (.cal "outs_of" [(.var 0)])),
      .ret (.bin .add (.bin .add .nev (.int 1)) (.bfn .len [(.var 1)]))]⟩
structure U_length_for (p : Pg) : Prop where
  s : Hs p "length_for" c_length_for
  outs_of : U_outs_of p
theorem o_length_for {p : Pg} (u : U_length_for p) {n : Nat} {t0 : T} {P : T → List T → Prop} {X : Str → Prop} (h : WB ⟨phi p n, p.gl, p.fu⟩ c_length_for.body [some t0, none] (fun G1 => 1 ≤ G1.length ∧ P .non [t0]) (fun t G1 => 1 ≤ G1.length ∧ P t [t0]) (fun _ => False) (fun _ => False) (fun n _ _ => X n)) (ha : isFL [t0] = true := by ktr_rel) : Call p (n + 1) "length_for" [t0] P X := opn0 u.s rfl rfl ha rfl h
-- ?? length_for: max(outs, default=-1)
def c_need : Dc := ⟨["work"], ["work"], [],
    [.exp (.cal "need_work" [(.var 0)]),
      .ret (.cal "length_for" [(.var 0)])]⟩
structure U_need (p : Pg) : Prop where
  s : Hs p "need" c_need
  need_work : U_need_work p
  length_for : U_length_for p
theorem o_need {p : Pg} (u : U_need p) {n : Nat} {t0 : T} {P : T → List T → Prop} {X : Str → Prop} (h : WB ⟨phi p n, p.gl, p.fu⟩ c_need.body [some t0] (fun G1 => 1 ≤ G1.length ∧ P .non [t0]) (fun t G1 => 1 ≤ G1.length ∧ P t [t0]) (fun _ => False) (fun _ => False) (fun n _ _ => X n)) (ha : isFL [t0] = true := by ktr_rel) : Call p (n + 1) "need" [t0] P X := opn0 u.s rfl rfl ha rfl h
def c_table_of : Dc := ⟨["work", "taken", "holes", "left", "many", "deed"], ["work"], [],
    [.asg (.nm 1) (.int 0),
      .asg (.nm 2) .nev,
      .asg (.nm 3) (.lst []),
      .asg (.nm 4) (.int 0),
      .frr (.nm 5) .val [(.var 0)] [.iff (.cmp .eq (.ix (.var 5) (.int 0)) (.glo "PUT")) [.exp (.mut .append 3 [(.var 4)]),
      .aug 4 .add (.int 1)] [.iff (.cmp .ne (.var 3) (.lst [])) [.asg (.sb 2 (.ix (.var 5) (.int 1))) (.tup [(.glo "NEW"), (.mut .pop 3 [])])] [.asg (.sb 2 (.ix (.var 5) (.int 1))) (.tup [(.glo "END"), (.var 1)]),
      .aug 1 .add (.int 1)]]],
      .ret (.tup [(.mov 1), (.bfn .sorted [.nev]), (.mov 3)])]⟩
structure U_table_of (p : Pg) : Prop where
  s : Hs p "table_of" c_table_of
  g_PUT : p.gl "PUT" = some (.str "put")
  g_NEW : p.gl "NEW" = some (.str "new")
  g_END : p.gl "END" = some (.str "end")
theorem o_table_of {p : Pg} (u : U_table_of p) {n : Nat} {t0 : T} {P : T → List T → Prop} {X : Str → Prop} (h : WB ⟨phi p n, p.gl, p.fu⟩ c_table_of.body [some t0, none, none, none, none, none] (fun G1 => 1 ≤ G1.length ∧ P .non [t0]) (fun t G1 => 1 ≤ G1.length ∧ P t [t0]) (fun _ => False) (fun _ => False) (fun n _ _ => X n)) (ha : isFL [t0] = true := by ktr_rel) : Call p (n + 1) "table_of" [t0] P X := opn0 u.s rfl rfl ha rfl h
-- ?? table_of: {}
-- ?? table_of: holes.items()
def c_table : Dc := ⟨["work"], ["work"], [],
    [.exp (.cal "need_work" [(.var 0)]),
      .ret (.cal "table_of" [(.var 0)])]⟩
structure U_table (p : Pg) : Prop where
  s : Hs p "table" c_table
  need_work : U_need_work p
  table_of : U_table_of p
theorem o_table {p : Pg} (u : U_table p) {n : Nat} {t0 : T} {P : T → List T → Prop} {X : Str → Prop} (h : WB ⟨phi p n, p.gl, p.fu⟩ c_table.body [some t0] (fun G1 => 1 ≤ G1.length ∧ P .non [t0]) (fun t G1 => 1 ≤ G1.length ∧ P t [t0]) (fun _ => False) (fun _ => False) (fun n _ _ => X n)) (ha : isFL [t0] = true := by ktr_rel) : Call p (n + 1) "table" [t0] P X := opn0 u.s rfl rfl ha rfl h
def c_works_alike : Dc := ⟨["work", "other"], ["work", "other"], [],
    [.exp (.cal "need_work" [(.var 0)]),
      .exp (.cal "need_work" [(.var 1)]),
      .ret (.cmp .eq (.cal "table_of" [(.var 0)]) (.cal "table_of" [(.var 1)]))]⟩
structure U_works_alike (p : Pg) : Prop where
  s : Hs p "works_alike" c_works_alike
  need_work : U_need_work p
  table_of : U_table_of p
theorem o_works_alike {p : Pg} (u : U_works_alike p) {n : Nat} {t0 t1 : T} {P : T → List T → Prop} {X : Str → Prop} (h : WB ⟨phi p n, p.gl, p.fu⟩ c_works_alike.body [some t0, some t1] (fun G1 => 2 ≤ G1.length ∧ P .non [t0, t1]) (fun t G1 => 2 ≤ G1.length ∧ P t [t0, t1]) (fun _ => False) (fun _ => False) (fun n _ _ => X n)) (ha : isFL [t0, t1] = true := by ktr_rel) : Call p (n + 1) "works_alike" [t0, t1] P X := opn0 u.s rfl rfl ha rfl h
def c_is_who : Dc := ⟨["thing", "taken"], ["thing", "taken"], [],
    [.iff (.or [(.not (.isi (.var 0) ["tuple"])), (.cmp .ne (.bfn .len [(.var 0)]) (.int 2)), (.not (.isi (.ix (.var 0) (.int 0)) ["str"])), (.not (.cal "is_amount" [(.ix (.var 0) (.int 1))]))]) [.ret (.bl false)] [],
      .ret (.or [(.cmp .eq (.ix (.var 0) (.int 0)) (.glo "NEW")), (.and [(.cmp .eq (.ix (.var 0) (.int 0)) (.glo "END")), (.cmp .lt (.ix (.var 0) (.int 1)) (.var 1))])])]⟩
structure U_is_who (p : Pg) : Prop where
  s : Hs p "is_who" c_is_who
  is_amount : U_is_amount p
  g_NEW : p.gl "NEW" = some (.str "new")
  g_END : p.gl "END" = some (.str "end")
theorem o_is_who {p : Pg} (u : U_is_who p) {n : Nat} {t0 t1 : T} {P : T → List T → Prop} {X : Str → Prop} (h : WB ⟨phi p n, p.gl, p.fu⟩ c_is_who.body [some t0, some t1] (fun G1 => 2 ≤ G1.length ∧ P .non [t0, t1]) (fun t G1 => 2 ≤ G1.length ∧ P t [t0, t1]) (fun _ => False) (fun _ => False) (fun n _ _ => X n)) (ha : isFL [t0, t1] = true := by ktr_rel) : Call p (n + 1) "is_who" [t0, t1] P X := opn0 u.s rfl rfl ha rfl h
def c_is_hole : Dc := ⟨["thing", "taken"], ["thing", "taken"], [],
    [.ret (.and [(.isi (.var 0) ["tuple"]), (.cmp .eq (.bfn .len [(.var 0)]) (.int 2)), (.cal "is_amount" [(.ix (.var 0) (.int 0))]), (.cal "is_who" [(.ix (.var 0) (.int 1)), (.var 1)])])]⟩
structure U_is_hole (p : Pg) : Prop where
  s : Hs p "is_hole" c_is_hole
  is_amount : U_is_amount p
  is_who : U_is_who p
theorem o_is_hole {p : Pg} (u : U_is_hole p) {n : Nat} {t0 t1 : T} {P : T → List T → Prop} {X : Str → Prop} (h : WB ⟨phi p n, p.gl, p.fu⟩ c_is_hole.body [some t0, some t1] (fun G1 => 2 ≤ G1.length ∧ P .non [t0, t1]) (fun t G1 => 2 ≤ G1.length ∧ P t [t0, t1]) (fun _ => False) (fun _ => False) (fun n _ _ => X n)) (ha : isFL [t0, t1] = true := by ktr_rel) : Call p (n + 1) "is_hole" [t0, t1] P X := opn0 u.s rfl rfl ha rfl h
def c_is_rising : Dc := ⟨["numbers", "one", "other"], ["numbers"], [],
    [.ret (.bfn .all [(.lc (.cmp .lt (.var 1) (.var 2)) (.tp [(.nm 1), (.nm 2)]) .zip [(.var 0), (.slL (.var 0) (.int 1))] [] [1, 2])])]⟩
structure U_is_rising (p : Pg) : Prop where
  s : Hs p "is_rising" c_is_rising
theorem o_is_rising {p : Pg} (u : U_is_rising p) {n : Nat} {t0 : T} {P : T → List T → Prop} {X : Str → Prop} (h : WB ⟨phi p n, p.gl, p.fu⟩ c_is_rising.body [some t0, none, none] (fun G1 => 1 ≤ G1.length ∧ P .non [t0]) (fun t G1 => 1 ≤ G1.length ∧ P t [t0]) (fun _ => False) (fun _ => False) (fun n _ _ => X n)) (ha : isFL [t0] = true := by ktr_rel) : Call p (n + 1) "is_rising" [t0] P X := opn0 u.s rfl rfl ha rfl h
def c_is_table : Dc := ⟨["thing", "taken", "holes", "left", "hole", "number", "place", "who", "there"], ["thing"], [],
    [.iff (.or [(.not (.isi (.var 0) ["tuple"])), (.cmp .ne (.bfn .len [(.var 0)]) (.int 3))]) [.ret (.bl false)] [],
      .asg (.tp [(.nm 1), (.nm 2), (.nm 3)]) (.var 0),
      .iff (.or [(.not (.cal "is_amount" [(.shr 1)])), (.not (.isi (.var 2) ["list"])), (.not (.isi (.var 3) ["list"]))]) [.ret (.bl false)] [],
      .iff (.or [(.not (.bfn .all [(.lc (.cal "is_hole" [(.var 4), (.var 1)]) (.nm 4) .val [(.var 2)] [] [4])])), (.not (.bfn .all [(.lc (.cal "is_amount" [(.var 5)]) (.nm 5) .val [(.var 3)] [] [5])]))]) [.ret (.bl false)] [],
      .iff (.or [(.not (.cal "is_rising" [(.lc (.var 6) (.tp [(.nm 6), (.nm 7)]) .val [(.var 2)] [] [6, 7])])), (.not (.cal "is_rising" [(.shr 3)]))]) [.ret (.bl false)] [],
      .frz 8 (.asg (.nm 8) (.bin .add (.lc (.var 7) (.tp [(.nm 6), (.nm 7)]) .val [(.var 2)] [] [6, 7]) (.lc (.tup [(.glo "NEW"), (.var 5)]) (.nm 5) .val [(.var 3)] [] [5]))),
      .ret (.cmp .eq (.bfn .lenSet [(.var 8)]) (.bfn .len [(.var 8)]))]⟩
structure U_is_table (p : Pg) : Prop where
  s : Hs p "is_table" c_is_table
  is_amount : U_is_amount p
  is_rising : U_is_rising p
  is_hole : U_is_hole p
  g_NEW : p.gl "NEW" = some (.str "new")
theorem o_is_table {p : Pg} (u : U_is_table p) {n : Nat} {t0 : T} {P : T → List T → Prop} {X : Str → Prop} (h : WB ⟨phi p n, p.gl, p.fu⟩ c_is_table.body [some t0, none, none, none, none, none, none, none, none] (fun G1 => 1 ≤ G1.length ∧ P .non [t0]) (fun t G1 => 1 ≤ G1.length ∧ P t [t0]) (fun _ => False) (fun _ => False) (fun n _ _ => X n)) (ha : isFL [t0] = true := by ktr_rel) : Call p (n + 1) "is_table" [t0] P X := opn0 u.s rfl rfl ha rfl h
def c_need_table : Dc := ⟨["thing"], ["thing"], [],
    [.iff (.not (.cal "is_table" [(.var 0)])) [.rse "NoTable" []] []]⟩
structure U_need_table (p : Pg) : Prop where
  s : Hs p "need_table" c_need_table
  is_table : U_is_table p
theorem o_need_table {p : Pg} (u : U_need_table p) {n : Nat} {t0 : T} {P : T → List T → Prop} {X : Str → Prop} (h : WB ⟨phi p n, p.gl, p.fu⟩ c_need_table.body [some t0] (fun G1 => 1 ≤ G1.length ∧ P .non [t0]) (fun t G1 => 1 ≤ G1.length ∧ P t [t0]) (fun _ => False) (fun _ => False) (fun n _ _ => X n)) (ha : isFL [t0] = true := by ktr_rel) : Call p (n + 1) "need_table" [t0] P X := opn0 u.s rfl rfl ha rfl h
def c_need_number : Dc := ⟨["thing"], ["thing"], [],
    [.iff (.not (.cal "is_amount" [(.var 0)])) [.rse "NoNumber" []] []]⟩
structure U_need_number (p : Pg) : Prop where
  s : Hs p "need_number" c_need_number
  is_amount : U_is_amount p
theorem o_need_number {p : Pg} (u : U_need_number p) {n : Nat} {t0 : T} {P : T → List T → Prop} {X : Str → Prop} (h : WB ⟨phi p n, p.gl, p.fu⟩ c_need_number.body [some t0] (fun G1 => 1 ≤ G1.length ∧ P .non [t0]) (fun t G1 => 1 ≤ G1.length ∧ P t [t0]) (fun _ => False) (fun _ => False) (fun n _ _ => X n)) (ha : isFL [t0] = true := by ktr_rel) : Call p (n + 1) "need_number" [t0] P X := opn0 u.s rfl rfl ha rfl h
def c_behind : Dc := ⟨["ahead", "other", "puts", "taken", "holes", "left", "all_holes", "place", "who", "stay", "all_left", "number"], ["ahead", "other", "puts"], [],
    [.exp (.cal "need_table" [(.var 0)]),
      .exp (.cal "need_table" [(.var 1)]),
      .exp (.cal "need_number" [(.var 2)]),
      .asg (.tp [(.nm 3), (.nm 4), (.nm 5)]) (.var 0),
      .nev,
      .frz 6 (.asg (.nm 6) .nev),
      .exp .nev,
      .frz 9 (.asg (.nm 9) (.bfn .max [(.int 0), (.bin .sub (.bfn .len [(.var 5)]) (.ix (.var 1) (.int 0)))])),
      .asg (.nm 10) (.bin .add (.slH (.var 5) (.var 9)) (.lc (.bin .add (.var 11) (.var 2)) (.nm 11) .val [(.ix (.var 1) (.int 2))] [] [11])),
      .ret (.tup [(.bin .add (.var 3) (.bfn .max [(.int 0), (.bin .sub (.ix (.var 1) (.int 0)) (.bfn .len [(.var 5)]))])), (.bfn .sorted [.nev]), (.mov 10)])]⟩
structure U_behind (p : Pg) : Prop where
  s : Hs p "behind" c_behind
  need_table : U_need_table p
  need_number : U_need_number p
  g_NEW : p.gl "NEW" = some (.str "new")
  g_END : p.gl "END" = some (.str "end")
theorem o_behind {p : Pg} (u : U_behind p) {n : Nat} {t0 t1 t2 : T} {P : T → List T → Prop} {X : Str → Prop} (h : WB ⟨phi p n, p.gl, p.fu⟩ c_behind.body [some t0, some t1, some t2, none, none, none, none, none, none, none, none, none] (fun G1 => 3 ≤ G1.length ∧ P .non [t0, t1, t2]) (fun t G1 => 3 ≤ G1.length ∧ P t [t0, t1, t2]) (fun _ => False) (fun _ => False) (fun n _ _ => X n)) (ha : isFL [t0, t1, t2] = true := by ktr_rel) : Call p (n + 1) "behind" [t0, t1, t2] P X := opn0 u.s rfl rfl ha rfl h
-- ?? behind: stmt def known(who):     if who[0] == NEW:         return (NEW, w
-- ?? behind: dict(holes)
-- ?? behind: all_holes.update({place: known(who) for place, who in other[1]})
-- ?? behind: all_holes.items()
def c_at_depth : Dc := ⟨["told", "turn", "depth", "row_long", "taken", "holes", "left", "more", "back"], ["told", "turn", "depth", "row_long"], [],
    [.asg (.tp [(.nm 4), (.nm 5), (.nm 6)]) (.var 0),
      .asg (.nm 7) (.bin .sub (.bfn .len [(.var 6)]) (.var 4)),
      .iff (.cmp .lt (.var 2) (.bfn .len [(.var 6)])) [.asg (.nm 8) (.int 0)] [.iff (.cmp .le (.var 7) (.int 0)) [.asg (.nm 8) (.var 1)] [.frz 8 (.asg (.nm 8) (.bfn .min [(.var 1), (.bin .add (.bin .fdiv (.bin .sub (.var 2) (.bfn .len [(.var 6)])) (.var 7)) (.int 1))]))]],
      .aug 2 .sub (.bin .mul (.var 8) (.var 7)),
      .iff (.cmp .eq (.var 8) (.var 1)) [.ret (.tup [(.glo "FIRST"), (.bin .sub (.bin .sub (.var 3) (.int 1)) (.var 2))])] [],
      .ret (.tup [(.glo "NEW"), (.bin .sub (.bin .sub (.var 1) (.var 8)) (.int 1)), (.ix (.var 6) (.bin .sub (.bin .sub (.bfn .len [(.var 6)]) (.int 1)) (.var 2)))])]⟩
structure U_at_depth (p : Pg) : Prop where
  s : Hs p "at_depth" c_at_depth
  g_NEW : p.gl "NEW" = some (.str "new")
  g_FIRST : p.gl "FIRST" = some (.str "first")
theorem o_at_depth {p : Pg} (u : U_at_depth p) {n : Nat} {t0 t1 t2 t3 : T} {P : T → List T → Prop} {X : Str → Prop} (h : WB ⟨phi p n, p.gl, p.fu⟩ c_at_depth.body [some t0, some t1, some t2, some t3, none, none, none, none, none] (fun G1 => 4 ≤ G1.length ∧ P .non [t0, t1, t2, t3]) (fun t G1 => 4 ≤ G1.length ∧ P t [t0, t1, t2, t3]) (fun _ => False) (fun _ => False) (fun n _ _ => X n)) (ha : isFL [t0, t1, t2, t3] = true := by ktr_rel) : Call p (n + 1) "at_depth" [t0, t1, t2, t3] P X := opn0 u.s rfl rfl ha rfl h
def c_need_long : Dc := ⟨["work", "many", "row_long", "wanted", "outs", "less", "turn"], ["work", "many", "row_long"], [],
    [.frz 3 (.asg (.nm 3) (.cal "length_for" [(.var 0)])),
      .iff (.and [(.cmp .gt (.var 1) (.int 0)), (.cmp .lt (.var 2) (.var 3))]) [.rse "TooShort" [(.int 0)]] [],
      .frz 4 (.asg (.nm 4) (.bfn .len [(.cal "outs_of" [(.var 0)])])),
      .asg (.nm 5) (.bin .sub (.bin .mul (.int 2) (.var 4)) (.bfn .len [(.var 0)])),
      .iff (.and [(.cmp .gt (.var 5) (.int 0)), (.cmp .gt (.var 1) (.int 0))]) [.asg (.nm 6) (.bin .add (.bin .fdiv (.bin .sub (.var 2) (.var 3)) (.var 5)) (.int 1)),
      .iff (.cmp .lt (.var 6) (.var 1)) [.rse "TooShort" [(.var 6)]] []] []]⟩
structure U_need_long (p : Pg) : Prop where
  s : Hs p "need_long" c_need_long
  length_for : U_length_for p
  outs_of : U_outs_of p
theorem o_need_long {p : Pg} (u : U_need_long p) {n : Nat} {t0 t1 t2 : T} {P : T → List T → Prop} {X : Str → Prop} (h : WB ⟨phi p n, p.gl, p.fu⟩ c_need_long.body [some t0, some t1, some t2, none, none, none, none] (fun G1 => 3 ≤ G1.length ∧ P .non [t0, t1, t2]) (fun t G1 => 3 ≤ G1.length ∧ P t [t0, t1, t2]) (fun _ => False) (fun _ => False) (fun n _ _ => X n)) (ha : isFL [t0, t1, t2] = true := by ktr_rel) : Call p (n + 1) "need_long" [t0, t1, t2] P X := opn0 u.s rfl rfl ha rfl h
def c_far : Dc := ⟨["work", "many", "row_long", "place", "told", "size", "who"], ["work", "many", "row_long", "place"], [],
    [.exp (.cal "need_work" [(.var 0)]),
      .exp (.cal "need_number" [(.var 1)]),
      .exp (.cal "need_number" [(.var 2)]),
      .iff (.not (.cal "is_amount" [(.var 3)])) [.rse "NoPlace" []] [],
      .exp (.cal "need_long" [(.var 0), (.var 1), (.var 2)]),
      .frz 4 (.asg (.nm 4) (.cal "table_of" [(.var 0)])),
      .frz 5 (.asg (.nm 5) (.bin .add (.var 2) (.bin .mul (.var 1) (.bin .sub (.bfn .len [(.ix (.var 4) (.int 2))]) (.ix (.var 4) (.int 0)))))),
      .iff (.cmp .ge (.var 3) (.var 5)) [.ret .non] [],
      .frz 6 (.asg (.nm 6) (.ite (.cmp .gt (.var 1) (.int 0)) (.met .get .nev [(.var 3)]) .non)),
      .iff (.isN (.var 6)) [.ret (.cal "at_depth" [(.shr 4), (.var 1), (.bin .sub (.bin .sub (.var 5) (.int 1)) (.var 3)), (.var 2)])] [],
      .iff (.cmp .eq (.ix (.var 6) (.int 0)) (.glo "NEW")) [.ret (.tup [(.glo "NEW"), (.bin .sub (.var 1) (.int 1)), (.ix (.var 6) (.int 1))])] [],
      .ret (.cal "at_depth" [(.shr 4), (.bin .sub (.var 1) (.int 1)), (.ix (.var 6) (.int 1)), (.var 2)])]⟩
structure U_far (p : Pg) : Prop where
  s : Hs p "far" c_far
  need_work : U_need_work p
  need_number : U_need_number p
  need_long : U_need_long p
  table_of : U_table_of p
  at_depth : U_at_depth p
  is_amount : U_is_amount p
  g_NEW : p.gl "NEW" = some (.str "new")
theorem o_far {p : Pg} (u : U_far p) {n : Nat} {t0 t1 t2 t3 : T} {P : T → List T → Prop} {X : Str → Prop} (h : WB ⟨phi p n, p.gl, p.fu⟩ c_far.body [some t0, some t1, some t2, some t3, none, none, none] (fun G1 => 4 ≤ G1.length ∧ P .non [t0, t1, t2, t3]) (fun t G1 => 4 ≤ G1.length ∧ P t [t0, t1, t2, t3]) (fun _ => False) (fun _ => False) (fun n _ _ => X n)) (ha : isFL [t0, t1, t2, t3] = true := by ktr_rel) : Call p (n + 1) "far" [t0, t1, t2, t3] P X := opn0 u.s rfl rfl ha rfl h
-- ?? far: dict(told[1])
def c_are_letters_v1 : Dc := ⟨["thing", "one"], ["thing"], [],
    [.ret (.and [(.isi (.var 0) ["list"]), (.bfn .all [(.lc (.or [(.isN (.var 1)), (.cal "is_letter" [(.var 1)])]) (.nm 1) .val [(.var 0)] [] [1])])])]⟩
structure U_are_letters_v1 (p : Pg) : Prop where
  s : Hs p "are_letters" c_are_letters_v1
  is_letter : U_is_letter_v2 p
theorem o_are_letters_v1 {p : Pg} (u : U_are_letters_v1 p) {n : Nat} {t0 : T} {P : T → List T → Prop} {X : Str → Prop} (h : WB ⟨phi p n, p.gl, p.fu⟩ c_are_letters_v1.body [some t0, none] (fun G1 => 1 ≤ G1.length ∧ P .non [t0]) (fun t G1 => 1 ≤ G1.length ∧ P t [t0]) (fun _ => False) (fun _ => False) (fun n _ _ => X n)) (ha : isFL [t0] = true := by ktr_rel) : Call p (n + 1) "are_letters" [t0] P X := opn0 u.s rfl rfl ha rfl h
def c_are_letters_v2 : Dc := ⟨["thing", "one"], ["thing"], [],
    [.ret (.and [(.isi (.var 0) ["list"]), (.bfn .all [(.lc (.or [(.isN (.var 1)), .nev]) (.nm 1) .val [(.var 0)] [] [1])])])]⟩
structure U_are_letters_v2 (p : Pg) : Prop where
  s : Hs p "are_letters" c_are_letters_v2
theorem o_are_letters_v2 {p : Pg} (u : U_are_letters_v2 p) {n : Nat} {t0 : T} {P : T → List T → Prop} {X : Str → Prop} (h : WB ⟨phi p n, p.gl, p.fu⟩ c_are_letters_v2.body [some t0, none] (fun G1 => 1 ≤ G1.length ∧ P .non [t0]) (fun t G1 => 1 ≤ G1.length ∧ P t [t0]) (fun _ => False) (fun _ => False) (fun n _ _ => X n)) (ha : isFL [t0] = true := by ktr_rel) : Call p (n + 1) "are_letters" [t0] P X := opn0 u.s rfl rfl ha rfl h
-- ?? are_letters: is_letter_rows(one)
def c_is_named_going : Dc := ⟨["thing"], ["thing"], [],
    [.ret (.and [(.cal "is_pair" [(.var 0), (.str "off")]), (.cal "is_person" [(.ix (.var 0) (.int 1))])])]⟩
structure U_is_named_going (p : Pg) : Prop where
  s : Hs p "is_named_going" c_is_named_going
  is_pair : U_is_pair p
  is_person : U_is_person p
theorem o_is_named_going {p : Pg} (u : U_is_named_going p) {n : Nat} {t0 : T} {P : T → List T → Prop} {X : Str → Prop} (h : WB ⟨phi p n, p.gl, p.fu⟩ c_is_named_going.body [some t0] (fun G1 => 1 ≤ G1.length ∧ P .non [t0]) (fun t G1 => 1 ≤ G1.length ∧ P t [t0]) (fun _ => False) (fun _ => False) (fun n _ _ => X n)) (ha : isFL [t0] = true := by ktr_rel) : Call p (n + 1) "is_named_going" [t0] P X := opn0 u.s rfl rfl ha rfl h
def c_are_deeds : Dc := ⟨["thing", "goings", "deed"], ["thing"], [],
    [.iff (.not (.isi (.var 0) ["list"])) [.ret (.bl false)] [],
      .frz 1 (.asl 1 (.lc (.var 2) (.nm 2) .val [(.var 0)] [(.not (.cal "is_coming" [(.var 2)]))] [2])),
      .ret (.or [(.bfn .all [(.lc (.cal "is_going" [(.var 2)]) (.nm 2) .val [(.var 1)] [] [2])]), (.bfn .all [(.lc (.cal "is_named_going" [(.var 2)]) (.nm 2) .val [(.var 1)] [] [2])])])]⟩
structure U_are_deeds (p : Pg) : Prop where
  s : Hs p "are_deeds" c_are_deeds
  is_coming : U_is_coming p
  is_going : U_is_going p
  is_named_going : U_is_named_going p
theorem o_are_deeds {p : Pg} (u : U_are_deeds p) {n : Nat} {t0 : T} {P : T → List T → Prop} {X : Str → Prop} (h : WB ⟨phi p n, p.gl, p.fu⟩ c_are_deeds.body [some t0, none, none] (fun G1 => 1 ≤ G1.length ∧ P .non [t0]) (fun t G1 => 1 ≤ G1.length ∧ P t [t0]) (fun _ => False) (fun _ => False) (fun n _ _ => X n)) (ha : isFL [t0] = true := by ktr_rel) : Call p (n + 1) "are_deeds" [t0] P X := opn0 u.s rfl rfl ha rfl h
def c_is_some_word : Dc := ⟨["thing", "deed"], ["thing"], [],
    [.ret (.and [(.isi (.var 0) ["list"]), (.bfn .all [(.lc (.or [(.cal "is_coming" [(.var 1)]), (.cal "is_word" [(.var 1), (.str "out")])]) (.nm 1) .val [(.var 0)] [] [1])])])]⟩
structure U_is_some_word (p : Pg) : Prop where
  s : Hs p "is_some_word" c_is_some_word
  is_coming : U_is_coming p
  is_word : U_is_word p
theorem o_is_some_word {p : Pg} (u : U_is_some_word p) {n : Nat} {t0 : T} {P : T → List T → Prop} {X : Str → Prop} (h : WB ⟨phi p n, p.gl, p.fu⟩ c_is_some_word.body [some t0, none] (fun G1 => 1 ≤ G1.length ∧ P .non [t0]) (fun t G1 => 1 ≤ G1.length ∧ P t [t0]) (fun _ => False) (fun _ => False) (fun n _ _ => X n)) (ha : isFL [t0] = true := by ktr_rel) : Call p (n + 1) "is_some_word" [t0] P X := opn0 u.s rfl rfl ha rfl h
def c_show_row : Dc := ⟨["row"], ["row"], [],
    [.exp (.cal "need_row" [(.var 0)]),
      .ret (.met .join (.str " ") [(.var 0)])]⟩
structure U_show_row (p : Pg) : Prop where
  s : Hs p "show_row" c_show_row
  need_row : U_need_row p
theorem o_show_row {p : Pg} (u : U_show_row p) {n : Nat} {t0 : T} {P : T → List T → Prop} {X : Str → Prop} (h : WB ⟨phi p n, p.gl, p.fu⟩ c_show_row.body [some t0] (fun G1 => 1 ≤ G1.length ∧ P .non [t0]) (fun t G1 => 1 ≤ G1.length ∧ P t [t0]) (fun _ => False) (fun _ => False) (fun n _ _ => X n)) (ha : isFL [t0] = true := by ktr_rel) : Call p (n + 1) "show_row" [t0] P X := opn0 u.s rfl rfl ha rfl h
def c_shown : Dc := ⟨["deeds", "signs", "deed", "part"], ["deeds"], [],
    [.asg (.nm 1) .nev,
      .ret (.met .join (.str " ") [(.lc (.bin .add (.ix (.var 1) (.ix (.var 2) (.int 0))) (.met .join (.str "") [(.lc (.bfn .str [(.var 3)]) (.nm 3) .val [(.slL (.var 2) (.int 1))] [] [3])])) (.nm 2) .val [(.var 0)] [] [2])])]⟩
structure U_shown (p : Pg) : Prop where
  s : Hs p "shown" c_shown
theorem o_shown {p : Pg} (u : U_shown p) {n : Nat} {t0 : T} {P : T → List T → Prop} {X : Str → Prop} (h : WB ⟨phi p n, p.gl, p.fu⟩ c_shown.body [some t0, none, none, none] (fun G1 => 1 ≤ G1.length ∧ P .non [t0]) (fun t G1 => 1 ≤ G1.length ∧ P t [t0]) (fun _ => False) (fun _ => False) (fun n _ _ => X n)) (ha : isFL [t0] = true := by ktr_rel) : Call p (n + 1) "shown" [t0] P X := opn0 u.s rfl rfl ha rfl h
-- ?? shown: {'in': '+', 'put': '+', 'out': '-', 'off': '-'}
def c_show_deeds : Dc := ⟨["deeds"], ["deeds"], [],
    [.iff (.not (.cal "are_deeds" [(.var 0)])) [.rse "NoDeeds" []] [],
      .ret (.cal "shown" [(.var 0)])]⟩
structure U_show_deeds (p : Pg) : Prop where
  s : Hs p "show_deeds" c_show_deeds
  shown : U_shown p
  are_deeds : U_are_deeds p
theorem o_show_deeds {p : Pg} (u : U_show_deeds p) {n : Nat} {t0 : T} {P : T → List T → Prop} {X : Str → Prop} (h : WB ⟨phi p n, p.gl, p.fu⟩ c_show_deeds.body [some t0] (fun G1 => 1 ≤ G1.length ∧ P .non [t0]) (fun t G1 => 1 ≤ G1.length ∧ P t [t0]) (fun _ => False) (fun _ => False) (fun n _ _ => X n)) (ha : isFL [t0] = true := by ktr_rel) : Call p (n + 1) "show_deeds" [t0] P X := opn0 u.s rfl rfl ha rfl h
def c_show_word : Dc := ⟨["word"], ["word"], [],
    [.iff (.not (.cal "is_some_word" [(.var 0)])) [.rse "NoWord" []] [],
      .ret (.cal "shown" [(.var 0)])]⟩
structure U_show_word (p : Pg) : Prop where
  s : Hs p "show_word" c_show_word
  shown : U_shown p
  is_some_word : U_is_some_word p
theorem o_show_word {p : Pg} (u : U_show_word p) {n : Nat} {t0 : T} {P : T → List T → Prop} {X : Str → Prop} (h : WB ⟨phi p n, p.gl, p.fu⟩ c_show_word.body [some t0] (fun G1 => 1 ≤ G1.length ∧ P .non [t0]) (fun t G1 => 1 ≤ G1.length ∧ P t [t0]) (fun _ => False) (fun _ => False) (fun n _ _ => X n)) (ha : isFL [t0] = true := by ktr_rel) : Call p (n + 1) "show_word" [t0] P X := opn0 u.s rfl rfl ha rfl h
def c_show_work : Dc := ⟨["work"], ["work"], [],
    [.iff (.not (.cal "is_work" [(.var 0)])) [.rse "NoWork" []] [],
      .ret (.cal "shown" [(.var 0)])]⟩
structure U_show_work (p : Pg) : Prop where
  s : Hs p "show_work" c_show_work
  shown : U_shown p
  is_work : U_is_work p
theorem o_show_work {p : Pg} (u : U_show_work p) {n : Nat} {t0 : T} {P : T → List T → Prop} {X : Str → Prop} (h : WB ⟨phi p n, p.gl, p.fu⟩ c_show_work.body [some t0] (fun G1 => 1 ≤ G1.length ∧ P .non [t0]) (fun t G1 => 1 ≤ G1.length ∧ P t [t0]) (fun _ => False) (fun _ => False) (fun n _ _ => X n)) (ha : isFL [t0] = true := by ktr_rel) : Call p (n + 1) "show_work" [t0] P X := opn0 u.s rfl rfl ha rfl h
def c_show_letters_v1 : Dc := ⟨["letters", "one"], ["letters"], [],
    [.iff (.not (.cal "are_letters" [(.var 0)])) [.rse "NoLetters" []] [],
      .ret (.met .join (.str " ") [(.lc (.ite (.isN (.var 1)) (.glo "NONE") .nev) (.nm 1) .val [(.var 0)] [] [1])])]⟩
structure U_show_letters_v1 (p : Pg) : Prop where
  s : Hs p "show_letters" c_show_letters_v1
  are_letters : U_are_letters_v1 p
  g_NONE : p.gl "NONE" = some (.str ".")
theorem o_show_letters_v1 {p : Pg} (u : U_show_letters_v1 p) {n : Nat} {t0 : T} {P : T → List T → Prop} {X : Str → Prop} (h : WB ⟨phi p n, p.gl, p.fu⟩ c_show_letters_v1.body [some t0, none] (fun G1 => 1 ≤ G1.length ∧ P .non [t0]) (fun t G1 => 1 ≤ G1.length ∧ P t [t0]) (fun _ => False) (fun _ => False) (fun n _ _ => X n)) (ha : isFL [t0] = true := by ktr_rel) : Call p (n + 1) "show_letters" [t0] P X := opn0 u.s rfl rfl ha rfl h
-- ?? show_letters: f'{one[0]}<{one[1]}'
def c_show_letters_v2 : Dc := ⟨["letters", "one"], ["letters"], [],
    [.iff (.not (.cal "are_letters" [(.var 0)])) [.rse "NoLetters" []] [],
      .ret (.met .join (.str " ") [(.lc (.ite (.isN (.var 1)) (.glo "NONE") .nev) (.nm 1) .val [(.var 0)] [] [1])])]⟩
structure U_show_letters_v2 (p : Pg) : Prop where
  s : Hs p "show_letters" c_show_letters_v2
  are_letters : U_are_letters_v2 p
  g_NONE : p.gl "NONE" = some (.str ".")
theorem o_show_letters_v2 {p : Pg} (u : U_show_letters_v2 p) {n : Nat} {t0 : T} {P : T → List T → Prop} {X : Str → Prop} (h : WB ⟨phi p n, p.gl, p.fu⟩ c_show_letters_v2.body [some t0, none] (fun G1 => 1 ≤ G1.length ∧ P .non [t0]) (fun t G1 => 1 ≤ G1.length ∧ P t [t0]) (fun _ => False) (fun _ => False) (fun n _ _ => X n)) (ha : isFL [t0] = true := by ktr_rel) : Call p (n + 1) "show_letters" [t0] P X := opn0 u.s rfl rfl ha rfl h
-- ?? show_letters: f'{one[0]}<{one[1]}'
def c_need_text : Dc := ⟨["good"], ["good"], [],
    [.iff (.not (.var 0)) [.rse "NoText" []] []]⟩
structure U_need_text (p : Pg) : Prop where
  s : Hs p "need_text" c_need_text
theorem o_need_text {p : Pg} (u : U_need_text p) {n : Nat} {t0 : T} {P : T → List T → Prop} {X : Str → Prop} (h : WB ⟨phi p n, p.gl, p.fu⟩ c_need_text.body [some t0] (fun G1 => 1 ≤ G1.length ∧ P .non [t0]) (fun t G1 => 1 ≤ G1.length ∧ P t [t0]) (fun _ => False) (fun _ => False) (fun n _ _ => X n)) (ha : isFL [t0] = true := by ktr_rel) : Call p (n + 1) "need_text" [t0] P X := opn0 u.s rfl rfl ha rfl h
def c_words_in : Dc := ⟨["text"], ["text"], [],
    [.exp (.cal "need_text" [(.isi (.var 0) ["str"])]),
      .ret (.ite (.cmp .ne (.var 0) (.str "")) (.met .split (.var 0) [(.str " ")]) (.lst []))]⟩
structure U_words_in (p : Pg) : Prop where
  s : Hs p "words_in" c_words_in
  need_text : U_need_text p
theorem o_words_in {p : Pg} (u : U_words_in p) {n : Nat} {t0 : T} {P : T → List T → Prop} {X : Str → Prop} (h : WB ⟨phi p n, p.gl, p.fu⟩ c_words_in.body [some t0] (fun G1 => 1 ≤ G1.length ∧ P .non [t0]) (fun t G1 => 1 ≤ G1.length ∧ P t [t0]) (fun _ => False) (fun _ => False) (fun n _ _ => X n)) (ha : isFL [t0] = true := by ktr_rel) : Call p (n + 1) "words_in" [t0] P X := opn0 u.s rfl rfl ha rfl h
def c_number_in : Dc := ⟨["word", "sign"], ["word"], [],
    [.exp (.cal "need_text" [(.and [(.cmp .ne (.var 0) (.str "")), (.bfn .all [(.lc (.cmp .inn (.var 1) (.glo "FIGURES")) (.nm 1) .val [(.var 0)] [] [1])]), (.or [(.cmp .eq (.var 0) (.str "0")), (.cmp .ne (.ix (.var 0) (.int 0)) (.str "0"))])])]),
      .ret (.bfn .int [(.var 0)])]⟩
structure U_number_in (p : Pg) : Prop where
  s : Hs p "number_in" c_number_in
  need_text : U_need_text p
  g_FIGURES : p.gl "FIGURES" = some (.str "0123456789")
theorem o_number_in {p : Pg} (u : U_number_in p) {n : Nat} {t0 : T} {P : T → List T → Prop} {X : Str → Prop} (h : WB ⟨phi p n, p.gl, p.fu⟩ c_number_in.body [some t0, none] (fun G1 => 1 ≤ G1.length ∧ P .non [t0]) (fun t G1 => 1 ≤ G1.length ∧ P t [t0]) (fun _ => False) (fun _ => False) (fun n _ _ => X n)) (ha : isFL [t0] = true := by ktr_rel) : Call p (n + 1) "number_in" [t0] P X := opn0 u.s rfl rfl ha rfl h
def c_person_in : Dc := ⟨["word"], ["word"], [],
    [.exp (.cal "need_text" [(.cal "is_person" [(.var 0)])]),
      .ret (.var 0)]⟩
structure U_person_in (p : Pg) : Prop where
  s : Hs p "person_in" c_person_in
  need_text : U_need_text p
  is_person : U_is_person p
theorem o_person_in {p : Pg} (u : U_person_in p) {n : Nat} {t0 : T} {P : T → List T → Prop} {X : Str → Prop} (h : WB ⟨phi p n, p.gl, p.fu⟩ c_person_in.body [some t0] (fun G1 => 1 ≤ G1.length ∧ P .non [t0]) (fun t G1 => 1 ≤ G1.length ∧ P t [t0]) (fun _ => False) (fun _ => False) (fun n _ _ => X n)) (ha : isFL [t0] = true := by ktr_rel) : Call p (n + 1) "person_in" [t0] P X := opn0 u.s rfl rfl ha rfl h
def c_read_row : Dc := ⟨["text", "row"], ["text"], [],
    [.asg (.nm 1) (.bfn .tuple [(.cal "words_in" [(.var 0)])]),
      .exp (.cal "need_text" [(.cal "is_row" [(.var 1)])]),
      .ret (.mov 1)]⟩
structure U_read_row (p : Pg) : Prop where
  s : Hs p "read_row" c_read_row
  need_text : U_need_text p
  words_in : U_words_in p
  is_row : U_is_row p
theorem o_read_row {p : Pg} (u : U_read_row p) {n : Nat} {t0 : T} {P : T → List T → Prop} {X : Str → Prop} (h : WB ⟨phi p n, p.gl, p.fu⟩ c_read_row.body [some t0, none] (fun G1 => 1 ≤ G1.length ∧ P .non [t0]) (fun t G1 => 1 ≤ G1.length ∧ P t [t0]) (fun _ => False) (fun _ => False) (fun n _ _ => X n)) (ha : isFL [t0] = true := by ktr_rel) : Call p (n + 1) "read_row" [t0] P X := opn0 u.s rfl rfl ha rfl h
def c_deed_in : Dc := ⟨["word"], ["word"], [],
    [.iff (.cmp .eq (.slH (.var 0) (.int 1)) (.str "+")) [.ret (.tup [(.str "in"), (.cal "person_in" [(.slL (.var 0) (.int 1))])])] [],
      .exp (.cal "need_text" [(.cmp .eq (.slH (.var 0) (.int 1)) (.str "-"))]),
      .iff (.cal "is_person" [(.slL (.var 0) (.int 1))]) [.ret (.tup [(.str "off"), (.slL (.var 0) (.int 1))])] [],
      .ret (.tup [(.str "out"), (.cal "number_in" [(.slL (.var 0) (.int 1))])])]⟩
structure U_deed_in (p : Pg) : Prop where
  s : Hs p "deed_in" c_deed_in
  need_text : U_need_text p
  is_person : U_is_person p
  number_in : U_number_in p
  person_in : U_person_in p
theorem o_deed_in {p : Pg} (u : U_deed_in p) {n : Nat} {t0 : T} {P : T → List T → Prop} {X : Str → Prop} (h : WB ⟨phi p n, p.gl, p.fu⟩ c_deed_in.body [some t0] (fun G1 => 1 ≤ G1.length ∧ P .non [t0]) (fun t G1 => 1 ≤ G1.length ∧ P t [t0]) (fun _ => False) (fun _ => False) (fun n _ _ => X n)) (ha : isFL [t0] = true := by ktr_rel) : Call p (n + 1) "deed_in" [t0] P X := opn0 u.s rfl rfl ha rfl h
def c_read_deeds : Dc := ⟨["text", "deeds", "word"], ["text"], [],
    [.asl 1 (.lc (.cal "deed_in" [(.var 2)]) (.nm 2) .val [(.cal "words_in" [(.var 0)])] [] [2]),
      .exp (.cal "need_text" [(.cal "are_deeds" [(.var 1)])]),
      .ret (.mov 1)]⟩
structure U_read_deeds (p : Pg) : Prop where
  s : Hs p "read_deeds" c_read_deeds
  need_text : U_need_text p
  deed_in : U_deed_in p
  are_deeds : U_are_deeds p
  words_in : U_words_in p
theorem o_read_deeds {p : Pg} (u : U_read_deeds p) {n : Nat} {t0 : T} {P : T → List T → Prop} {X : Str → Prop} (h : WB ⟨phi p n, p.gl, p.fu⟩ c_read_deeds.body [some t0, none, none] (fun G1 => 1 ≤ G1.length ∧ P .non [t0]) (fun t G1 => 1 ≤ G1.length ∧ P t [t0]) (fun _ => False) (fun _ => False) (fun n _ _ => X n)) (ha : isFL [t0] = true := by ktr_rel) : Call p (n + 1) "read_deeds" [t0] P X := opn0 u.s rfl rfl ha rfl h
def c_coming_in : Dc := ⟨["word"], ["word"], [],
    [.exp (.cal "need_text" [(.cmp .eq (.slH (.var 0) (.int 1)) (.str "+"))]),
      .ret (.slL (.var 0) (.int 1))]⟩
structure U_coming_in (p : Pg) : Prop where
  s : Hs p "coming_in" c_coming_in
  need_text : U_need_text p
theorem o_coming_in {p : Pg} (u : U_coming_in p) {n : Nat} {t0 : T} {P : T → List T → Prop} {X : Str → Prop} (h : WB ⟨phi p n, p.gl, p.fu⟩ c_coming_in.body [some t0] (fun G1 => 1 ≤ G1.length ∧ P .non [t0]) (fun t G1 => 1 ≤ G1.length ∧ P t [t0]) (fun _ => False) (fun _ => False) (fun n _ _ => X n)) (ha : isFL [t0] = true := by ktr_rel) : Call p (n + 1) "coming_in" [t0] P X := opn0 u.s rfl rfl ha rfl h
def c_read_word : Dc := ⟨["text", "word"], ["text"], [],
    [.ret (.lc (.ite (.cmp .eq (.var 1) (.str "-")) (.tup [(.str "out")]) (.tup [(.str "in"), (.cal "person_in" [(.cal "coming_in" [(.var 1)])])])) (.nm 1) .val [(.cal "words_in" [(.var 0)])] [] [1])]⟩
structure U_read_word (p : Pg) : Prop where
  s : Hs p "read_word" c_read_word
  words_in : U_words_in p
  person_in : U_person_in p
  coming_in : U_coming_in p
theorem o_read_word {p : Pg} (u : U_read_word p) {n : Nat} {t0 : T} {P : T → List T → Prop} {X : Str → Prop} (h : WB ⟨phi p n, p.gl, p.fu⟩ c_read_word.body [some t0, none] (fun G1 => 1 ≤ G1.length ∧ P .non [t0]) (fun t G1 => 1 ≤ G1.length ∧ P t [t0]) (fun _ => False) (fun _ => False) (fun n _ _ => X n)) (ha : isFL [t0] = true := by ktr_rel) : Call p (n + 1) "read_word" [t0] P X := opn0 u.s rfl rfl ha rfl h
def c_work_deed_in : Dc := ⟨["word"], ["word"], [],
    [.iff (.cmp .eq (.var 0) (.str "+")) [.ret (.tup [(.str "put")])] [],
      .exp (.cal "need_text" [(.cmp .eq (.slH (.var 0) (.int 1)) (.str "-"))]),
      .ret (.tup [(.str "out"), (.cal "number_in" [(.slL (.var 0) (.int 1))])])]⟩
structure U_work_deed_in (p : Pg) : Prop where
  s : Hs p "work_deed_in" c_work_deed_in
  need_text : U_need_text p
  number_in : U_number_in p
theorem o_work_deed_in {p : Pg} (u : U_work_deed_in p) {n : Nat} {t0 : T} {P : T → List T → Prop} {X : Str → Prop} (h : WB ⟨phi p n, p.gl, p.fu⟩ c_work_deed_in.body [some t0] (fun G1 => 1 ≤ G1.length ∧ P .non [t0]) (fun t G1 => 1 ≤ G1.length ∧ P t [t0]) (fun _ => False) (fun _ => False) (fun n _ _ => X n)) (ha : isFL [t0] = true := by ktr_rel) : Call p (n + 1) "work_deed_in" [t0] P X := opn0 u.s rfl rfl ha rfl h
def c_read_work : Dc := ⟨["text", "word"], ["text"], [],
    [.ret (.lc (.cal "work_deed_in" [(.var 1)]) (.nm 1) .val [(.cal "words_in" [(.var 0)])] [] [1])]⟩
structure U_read_work (p : Pg) : Prop where
  s : Hs p "read_work" c_read_work
  work_deed_in : U_work_deed_in p
  words_in : U_words_in p
theorem o_read_work {p : Pg} (u : U_read_work p) {n : Nat} {t0 : T} {P : T → List T → Prop} {X : Str → Prop} (h : WB ⟨phi p n, p.gl, p.fu⟩ c_read_work.body [some t0, none] (fun G1 => 1 ≤ G1.length ∧ P .non [t0]) (fun t G1 => 1 ≤ G1.length ∧ P t [t0]) (fun _ => False) (fun _ => False) (fun n _ _ => X n)) (ha : isFL [t0] = true := by ktr_rel) : Call p (n + 1) "read_work" [t0] P X := opn0 u.s rfl rfl ha rfl h
def c_letter_in : Dc := ⟨["word", "parts"], ["word"], [],
    [.iff (.cmp .eq (.var 0) (.glo "NONE")) [.ret .non] [],
      .frz 1 (.asg (.nm 1) (.met .split (.var 0) [(.str "<")])),
      .exp (.cal "need_text" [(.cmp .eq (.bfn .len [(.var 1)]) (.int 2))]),
      .ret (.tup [(.cal "number_in" [(.ix (.var 1) (.int 0))]), (.cal "number_in" [(.ix (.var 1) (.int 1))])])]⟩
structure U_letter_in (p : Pg) : Prop where
  s : Hs p "letter_in" c_letter_in
  need_text : U_need_text p
  number_in : U_number_in p
  g_NONE : p.gl "NONE" = some (.str ".")
theorem o_letter_in {p : Pg} (u : U_letter_in p) {n : Nat} {t0 : T} {P : T → List T → Prop} {X : Str → Prop} (h : WB ⟨phi p n, p.gl, p.fu⟩ c_letter_in.body [some t0, none] (fun G1 => 1 ≤ G1.length ∧ P .non [t0]) (fun t G1 => 1 ≤ G1.length ∧ P t [t0]) (fun _ => False) (fun _ => False) (fun n _ _ => X n)) (ha : isFL [t0] = true := by ktr_rel) : Call p (n + 1) "letter_in" [t0] P X := opn0 u.s rfl rfl ha rfl h
def c_read_letters_v1 : Dc := ⟨["text", "letters", "word"], ["text"], [],
    [.asl 1 (.lc (.cal "letter_in" [(.var 2)]) (.nm 2) .val [(.cal "words_in" [(.var 0)])] [] [2]),
      .exp (.cal "need_text" [(.cal "are_letters" [(.var 1)])]),
      .ret (.mov 1)]⟩
structure U_read_letters_v1 (p : Pg) : Prop where
  s : Hs p "read_letters" c_read_letters_v1
  need_text : U_need_text p
  letter_in : U_letter_in p
  are_letters : U_are_letters_v1 p
  words_in : U_words_in p
theorem o_read_letters_v1 {p : Pg} (u : U_read_letters_v1 p) {n : Nat} {t0 : T} {P : T → List T → Prop} {X : Str → Prop} (h : WB ⟨phi p n, p.gl, p.fu⟩ c_read_letters_v1.body [some t0, none, none] (fun G1 => 1 ≤ G1.length ∧ P .non [t0]) (fun t G1 => 1 ≤ G1.length ∧ P t [t0]) (fun _ => False) (fun _ => False) (fun n _ _ => X n)) (ha : isFL [t0] = true := by ktr_rel) : Call p (n + 1) "read_letters" [t0] P X := opn0 u.s rfl rfl ha rfl h
def c_read_letters_v2 : Dc := ⟨["text", "letters", "word"], ["text"], [],
    [.asl 1 (.lc (.cal "letter_in" [(.var 2)]) (.nm 2) .val [(.cal "words_in" [(.var 0)])] [] [2]),
      .exp (.cal "need_text" [(.cal "are_letters" [(.var 1)])]),
      .ret (.mov 1)]⟩
structure U_read_letters_v2 (p : Pg) : Prop where
  s : Hs p "read_letters" c_read_letters_v2
  need_text : U_need_text p
  letter_in : U_letter_in p
  are_letters : U_are_letters_v2 p
  words_in : U_words_in p
theorem o_read_letters_v2 {p : Pg} (u : U_read_letters_v2 p) {n : Nat} {t0 : T} {P : T → List T → Prop} {X : Str → Prop} (h : WB ⟨phi p n, p.gl, p.fu⟩ c_read_letters_v2.body [some t0, none, none] (fun G1 => 1 ≤ G1.length ∧ P .non [t0]) (fun t G1 => 1 ≤ G1.length ∧ P t [t0]) (fun _ => False) (fun _ => False) (fun n _ _ => X n)) (ha : isFL [t0] = true := by ktr_rel) : Call p (n + 1) "read_letters" [t0] P X := opn0 u.s rfl rfl ha rfl h
end QX

set_option Elab.async false
set_option linter.all false
set_option maxRecDepth 100000
namespace K07
open PySem QX
def c__law_sizes : Dc := ⟨["_law_bag_here", "_law_base", "_law_found", "_law_k", "_law_up", "_law_j", "_law_step"], ["_law_bag_here", "_law_base"], [0],
    [.asg (.nm 2) (.lst [(.bin .add (.var 1) (.cal "_law_take" [(.ref 0), (.int 30)]))]),
      .frr (.nm 3) .rng [(.bin .add (.int 1) (.cal "_law_take" [(.ref 0), (.int 8)]))] [.frz 4 (.asg (.nm 4) (.cal "_law_take" [(.ref 0), (.int 2)])),
      .frr (.nm 5) .rng [(.cal "_law_take" [(.ref 0), (.int 25)])] [.frz 6 (.asg (.nm 6) (.ite (.or [(.cmp .eq (.var 4) (.int 1)), (.cmp .eq (.ix (.var 2) (.neg (.int 1))) (.int 0))]) (.int 1) (.neg (.int 1)))),
      .exp (.mut .append 2 [(.bin .add (.ix (.var 2) (.neg (.int 1))) (.var 6))])]],
      .ret (.mov 2)]⟩
structure U__law_sizes (p : Pg) : Prop where
  s : Hs p "_law_sizes" c__law_sizes
  _law_take : U__law_take_v1 p
theorem o__law_sizes {p : Pg} (u : U__law_sizes p) {n : Nat} {t0 t1 : T} {P : T → List T → Prop} {X : Str → Prop} (h : WB ⟨phi p n, p.gl, p.fu⟩ c__law_sizes.body [some t0, some t1, none, none, none, none, none] (fun G1 => WPar (parB c__law_sizes.rf 0 [t0, t1] G1) (P .non)) (fun t G1 => WPar (parB c__law_sizes.rf 0 [t0, t1] G1) (P t)) (fun _ => False) (fun _ => False) (fun n _ _ => isFL [t0, t1] = true ∧ X n)) (ha : argOk c__law_sizes.rf 0 [t0, t1] = true := by top_args) : Call p (n + 1) "_law_sizes" [t0, t1] P X := opn u.s rfl ha rfl h
def c_law : Dc := ⟨["_law_script", "_law_k", "_law_bag_here", "_law_base", "_law_sizes_now", "_law_told", "_law_j", "_law_grown", "_law_m", "_law_more", "_law_wider", "_law_size", "_law_when", "_law_spot", "_law_due", "_law_first", "_law_on", "_law_end", "_law_later"], ["_law_script"], [],
    [.frr (.nm 1) .rng [(.bfn .max [(.int 1), (.bfn .min [(.int 4), (.bfn .len [(.var 0)])])])] [.asg (.nm 2) (.cal "_law_bag" [(.cal "_law_cell_at" [(.var 0), (.shr 1)]), (.shr 1)]),
      .frz 3 (.asg (.nm 3) (.ix (.lst [(.int 0), (.cal "_law_take" [(.ref 2), (.int 30)]), (.bin .pow (.int 10) (.int 29))]) (.cal "_law_take" [(.ref 2), (.int 3)]))),
      .frz 4 (.asg (.nm 4) (.cal "_law_sizes" [(.ref 2), (.shr 3)])),
      .frz 5 (.asg (.nm 5) (.cal "held" [(.shr 4)])),
      .iff (.cmp .ne (.var 5) (.lc (.bfn .min [(.slL (.var 4) (.var 6))]) (.nm 6) .rng [(.bfn .len [(.var 4)])] [] [6])) [.ret (.bl false)] [],
      .asg (.nm 7) (.bfn .list [(.var 4)]),
      .frr (.nm 6) .rng [(.int 3)] [.exp (.mut .append 7 [(.bin .add (.ix (.var 7) (.neg (.int 1))) (.ite (.or [(.cmp .eq (.var 6) (.int 1)), (.cmp .eq (.ix (.var 7) (.neg (.int 1))) (.int 0))]) (.int 1) (.neg (.int 1))))]),
      .iff (.cmp .ne (.cal "held" [(.var 7)]) (.lc (.bfn .min [(.slL (.var 7) (.var 8))]) (.nm 8) .rng [(.bfn .len [(.var 7)])] [] [8])) [.ret (.bl false)] []],
      .frz 9 (.asg (.nm 9) (.cal "_law_take" [(.ref 2), (.bin .pow (.int 10) (.int 6))])),
      .frz 10 (.asl 10 (.lc (.bin .add (.var 11) (.var 9)) (.nm 11) .val [(.var 4)] [] [11])),
      .frr (.nm 6) .rng [(.int 30)] [.frz 12 (.asg (.nm 12) (.cal "_law_take" [(.ref 2), (.bfn .len [(.var 4)])])),
      .frz 13 (.asg (.nm 13) (.bfn .max [(.int 0), (.bfn .min [(.bin .sub (.bin .add (.ix (.var 5) (.var 12)) (.cal "_law_take" [(.ref 2), (.int 5)])) (.int 2)), (.bin .sub (.ix (.var 4) (.var 12)) (.int 1))])])),
      .iff (.cmp .gt (.ix (.var 4) (.var 12)) (.int 0)) [.frz 14 (.asl 14 (.lc (.var 8) (.nm 8) .rng [(.var 12), (.bfn .len [(.var 4)])] [(.cmp .le (.ix (.var 4) (.var 8)) (.var 13))] [8])),
      .frz 15 (.asg (.nm 15) (.ite (.cmp .ne (.var 14) (.lst [])) (.ix (.var 14) (.int 0)) .non)),
      .frz 14 (.asg (.nm 14) (.lst [(.cmp .eq (.var 14) (.lst [])), (.var 15)])),
      .iff (.not (.cal "_law_alike" [(.lst [(.cal "holds" [(.shr 4), (.shr 12), (.shr 13)]), (.cal "broken" [(.shr 4), (.shr 12), (.shr 13)])]), (.shr 14)])) [.ret (.bl false)] [],
      .asg (.nm 16) (.bin .add (.var 13) (.var 9)),
      .iff (.not (.cal "_law_alike" [(.lst [(.cal "holds" [(.shr 10), (.shr 12), (.shr 16)]), (.cal "broken" [(.shr 10), (.shr 12), (.shr 16)])]), (.shr 14)])) [.ret (.bl false)] [],
      .iff (.cmp .ne (.cal "holds" [(.shr 4), (.shr 12), (.shr 13)]) (.cmp .lt (.var 13) (.ix (.var 5) (.var 12)))) [.ret (.bl false)] [],
      .frz 17 (.asg (.nm 17) (.ite (.isN (.var 15)) (.bfn .len [(.var 4)]) (.var 15))),
      .frz 18 (.asg (.nm 18) (.bin .add (.shr 12) (.cal "_law_take" [(.ref 2), (.bin .sub (.var 17) (.var 12))]))),
      .iff (.cmp .ne (.cal "broken" [(.shr 4), (.shr 18), (.shr 13)]) (.var 15)) [.ret (.bl false)] []] []]],
      .ret (.bl true)]⟩
structure U_law (p : Pg) : Prop where
  s : Hs p "law" c_law
  _law_bag : U__law_bag_v1 p
  _law_sizes : U__law_sizes p
  held : U_held p
  _law_take : U__law_take_v1 p
  _law_cell_at : U__law_cell_at p
  _law_alike : U__law_alike_v1 p
  holds : U_holds p
  broken : U_broken p
theorem o_law {p : Pg} (u : U_law p) {n : Nat} {t0 : T} {P : T → List T → Prop} {X : Str → Prop} (h : WB ⟨phi p n, p.gl, p.fu⟩ c_law.body [some t0, none, none, none, none, none, none, none, none, none, none, none, none, none, none, none, none, none, none] (fun G1 => 1 ≤ G1.length ∧ P .non [t0]) (fun t G1 => 1 ≤ G1.length ∧ P t [t0]) (fun _ => False) (fun _ => False) (fun n _ _ => X n)) (ha : isFL [t0] = true := by ktr_rel) : Call p (n + 1) "law" [t0] P X := opn0 u.s rfl rfl ha rfl h
def st_ (j : Nat) : Stmt := PySem.Challenge.pw_lastfills_k07_whole_sizes_of_great_rows.main.body.getD j (.Pass ⟨0, 0, 0, 0⟩)
abbrev d_is_amount : Df := Df.of "is_amount" (st_ 6) c_is_amount
abbrev d_are_sizes : Df := Df.of "are_sizes" (st_ 8) c_are_sizes
abbrev d_need_kept : Df := Df.of "need_kept" (st_ 9) c_need_kept
abbrev d_first_broken : Df := Df.of "first_broken" (st_ 10) c_first_broken
abbrev d_holds : Df := Df.of "holds" (st_ 11) c_holds
abbrev d_broken : Df := Df.of "broken" (st_ 12) c_broken
abbrev d_held : Df := Df.of "held" (st_ 13) c_held
abbrev d__law_cell_at : Df := Df.of "_law_cell_at" (st_ 15) c__law_cell_at
abbrev d__law_bag : Df := Df.of "_law_bag" (st_ 16) c__law_bag_v1
abbrev d__law_take : Df := Df.of "_law_take" (st_ 17) c__law_take_v1
abbrev d__law_alike : Df := Df.of "_law_alike" (st_ 18) c__law_alike_v1
abbrev d__law_sizes : Df := Df.of "_law_sizes" (st_ 19) c__law_sizes
abbrev d_law : Df := Df.of "law" (st_ 20) c_law
def lw : Lw := ⟨[d_is_amount, d_are_sizes, d_need_kept, d_first_broken, d_holds, d_broken, d_held, d__law_cell_at, d__law_bag, d__law_take, d__law_alike, d__law_sizes, d_law],
  [],
  ["NoMoment", "NoPlace", "NoSizes"]⟩
theorem u__law_bag (fu : Nat) : U__law_bag_v1 (lw.pg fu) := ⟨⟨_, rfl⟩⟩
theorem u__law_take (fu : Nat) : U__law_take_v1 (lw.pg fu) := ⟨⟨_, rfl⟩⟩
theorem u__law_sizes (fu : Nat) : U__law_sizes (lw.pg fu) := ⟨⟨_, rfl⟩, u__law_take fu⟩
theorem u_is_amount (fu : Nat) : U_is_amount (lw.pg fu) := ⟨⟨_, rfl⟩⟩
theorem u_are_sizes (fu : Nat) : U_are_sizes (lw.pg fu) := ⟨⟨_, rfl⟩, u_is_amount fu⟩
theorem u_held (fu : Nat) : U_held (lw.pg fu) := ⟨⟨_, rfl⟩, u_are_sizes fu⟩
theorem u__law_cell_at (fu : Nat) : U__law_cell_at (lw.pg fu) := ⟨⟨_, rfl⟩⟩
theorem u__law_alike (fu : Nat) : U__law_alike_v1 (lw.pg fu) := ⟨⟨_, rfl⟩⟩
theorem u_need_kept (fu : Nat) : U_need_kept (lw.pg fu) := ⟨⟨_, rfl⟩, u_are_sizes fu, u_is_amount fu⟩
theorem u_first_broken (fu : Nat) : U_first_broken (lw.pg fu) := ⟨⟨_, rfl⟩⟩
theorem u_holds (fu : Nat) : U_holds (lw.pg fu) := ⟨⟨_, rfl⟩, u_need_kept fu, u_first_broken fu⟩
theorem u_broken (fu : Nat) : U_broken (lw.pg fu) := ⟨⟨_, rfl⟩, u_need_kept fu, u_first_broken fu⟩
theorem u_law (fu : Nat) : U_law (lw.pg fu) := ⟨⟨_, rfl⟩, u__law_bag fu, u__law_sizes fu, u_held fu, u__law_take fu, u__law_cell_at fu, u__law_alike fu, u_holds fu, u_broken fu⟩
end K07

set_option Elab.async false
set_option linter.all false
set_option maxRecDepth 100000
/-! the end: exceptions of the program -/
namespace QX
open PySem PySem.Spec L2
theorem ex_mk {x : Str} {K : PySem.W.Frag} {h : Heap} {mg : MG} (X : K.In h) (G : h.Ns mainGlobals mg) {C : Addr}
    (ha : PySem.W.nsIn K mainGlobals x = some (some (.ref C))) (k : PySem.W.keepIn K (.ref C) = true)
    (q : PySem.W.excIn K C [.type "ValueError", .type "Exception", .type "BaseException", .type "object"] "ValueError.__new__" = true)
    (s : PySem.W.subIn K (.ref C) (.type "BaseException") = some true) (t : PySem.W.typeIn K (.ref C) = some (.type "type")) : ExOk K mg x :=
  ⟨C, _, _, _, _, PySem.W.mg_of X G ha, k, PySem.F.excBase_ValueError, q, s, t⟩
theorem law_us {p : Pg} {n : Nat} {f : Str} {ts : List T} (h : Call p n f ts (fun t _ => t = .bl true) noX) : ∃ us, phi p n f ts = .ret (.bl true) us := by
  obtain ⟨t, us, rfl, e⟩ := h.eq
  exact ⟨us, e⟩
end QX

set_option Elab.async false
set_option linter.all false
set_option maxRecDepth 100000
set_option maxHeartbeats 1000000
namespace QX
open PySem
/-! short words for the steps -/
local macro_rules | `(tactic| ktr_rel) => `(tactic| first | rfl | exact en_f _ | exact en_fl _ | assumption | (simp [en_f, en_fl]; done))
local macro_rules | `(tactic| kwd_rel) => `(tactic| first | assumption | omega | (simp only [List.length_append, List.length_map, List.length_cons, List.length_nil, List.length_replicate, List.length_range, List.length_dropLast, List.length_set] at *; omega))
local macro_rules | `(tactic| tb_rel) => `(tactic| first
  | (refine' atWE ?_; first
    | (refine' we_var_lt rfl ?_) | (refine' we_var rfl ?qf ?_; (case qf => ktr_rel)) | (refine' we_var_vw rfl rfl ?_)
    | refine' we_intL ?_ | refine' we_int ?_ | refine' we_str ?_ | refine' we_ix ?_ | refine' we_cmp ?_ | refine' we_bin ?_ | refine' we_cal ?_ | refine' we_bfn ?_ | refine' we_tup ?_ | refine' we_lst ?_ | refine' we_not ?_ | refine' we_isi ?_
    | refine' we_bl ?_ | refine' we_non ?_
    | (refine' we_mov rfl ?qg ?_; (case qg => ((try simp only [outS, backS, List.set_cons_zero, List.set_cons_succ, List.getElem?_cons_zero, List.getElem?_cons_succ, Option.getD_some]) <;> rfl))) | (refine' we_shr rfl ?qz ?qg ?_; (case qz => (first | exact fz_int _ | exact lo_fz _ | exact lol_fz _ | exact en_fz _ | exact fz_str _ | (simp [en_fz, en_fzl]; rfl) | rfl)); (case qg => ((try simp only [outS, backS, List.set_cons_zero, List.set_cons_succ, List.getElem?_cons_zero, List.getElem?_cons_succ, Option.getD_some]) <;> rfl))) | refine' we_ref rfl ?_
    | refine' we_and ?_ | refine' we_and1 ?_ | refine' we_or ?_ | refine' we_or1 ?_ | refine' we_clk ?_
    | refine' we_negL ?_ | refine' we_neg1 ?_ | refine' we_neg ?_ | refine' we_ite ?_ | refine' we_chn ?_
    | refine' we_isN ?_ | refine' we_noN ?_ | refine' we_isB ?_ | refine' we_noB ?_ | refine' we_sl0 ?_ | refine' we_slL ?_ | refine' we_slH ?_ | refine' we_slB ?_ | refine' we_rev ?_ | refine' we_lrg ?_ | refine' we_met ?_ | refine' we_lc ?_ | refine' we_mut rfl ?_)
  | (refine' atWO ?_; first
    | (refine' atCmp ?_; first
      | refine' wo (g := .cmp .lt) (s_cmp_ltN _ _) ?_ | refine' wo (g := .cmp .le) (s_cmp_leN _ _) ?_ | refine' wo (g := .cmp .gt) (s_cmp_gtN _ _) ?_ | refine' wo (g := .cmp .ge) (s_cmp_geN _ _) ?_
      | refine' wo (g := .cmp .lt) (s_cmp_lt _ _) ?_ | refine' wo (g := .cmp .le) (s_cmp_le _ _) ?_ | refine' wo (g := .cmp .gt) (s_cmp_gt _ _) ?_ | refine' wo (g := .cmp .ge) (s_cmp_ge _ _) ?_
      | (refine' wo_eq rfl rfl ?qe ?_; (case qe => (first | exact eq_nat _ _ | exact eqS_t _ (by decide +kernel) | exact eqS_f _ _ (by decide +kernel) (by decide +kernel) (by decide +kernel) | assumption | exact eq_int _ _ | exact eq_bl _ _ | exact eq_non))) | (refine' wo_ne rfl rfl ?qe ?_; (case qe => (first | exact eq_nat _ _ | exact eqS_t _ (by decide +kernel) | exact eqS_f _ _ (by decide +kernel) (by decide +kernel) (by decide +kernel) | assumption | exact eq_int _ _ | exact eq_bl _ _ | exact eq_non))))
    | (refine' atIx ?_; first
      | (refine' wo (g := .ix) (s_ix_mapO ?qn) ?_; (case qn => kwd_rel)) | (refine' wo (g := .ix) (s_ix_mapV ?qn ?qf) ?_; (case qn => kwd_rel); (case qf => ktr_rel))
      | refine' wo (g := .ix) (s_ix_O at_snoc) ?_ | (refine' wo (g := .ix) (s_ix_V at_snoc ?qf) ?_; (case qf => ktr_rel))
      | (refine' wo (g := .ix) (s_ix_O (at_last ?qn)) ?_; (case qn => (first | assumption | (simp; done)))) | (refine' wo (g := .ix) (s_ix_V (at_last ?qn) ?qf) ?_; (case qn => (first | assumption | (simp; done))); (case qf => ktr_rel))
      | refine' wo (g := .ix) (s_ix_T rfl) ?_ | refine' wo (g := .ix) (s_ix_O rfl) ?_ | (refine' wo (g := .ix) (s_ix_V rfl ?qf) ?_; (case qf => ktr_rel)))
    | refine' wo (g := .isn) (u := _) rfl ?_ | refine' wo (g := .neg) (u := _) rfl ?_ | refine' wo (g := .blo) (u := _) rfl ?_
    | refine' wfm_own ?_ | refine' wo (g := .tru) (truth_bl _) ?_ | (refine' wo (g := .own) ?qy ?_; (case qy => (repeat first | exact ao_nil | apply ao_cons)))
    | (refine' atBf ?_; first
      | refine' wo (g := .bf .len) (s_len_map ⟨_, rfl⟩) ?_ | refine' wo (g := .bf .len) (s_len_l ⟨_, rfl⟩) ?_ | refine' wo (g := .bf .len) (s_len_t rfl) ?_
      | refine' wo (g := .bf .all) (s_all_map ⟨_, rfl⟩) ?_
      | refine' wo (g := .bf .max) (s_max_nat _ _) ?_ | refine' wo (g := .bf .min) (s_min_nat _ _) ?_ | refine' wo (g := .bf .max) (s_max_int _ _) ?_ | refine' wo (g := .bf .min) (s_min_int _ _) ?_
      | refine' wo (g := .bf .list) (s_list_l rfl lk_o) ?_ | (refine' wo (g := .bf .list) (s_list_l rfl (lk_v ?qf)) ?_; (case qf => ktr_rel)) | (refine' wo (g := .bf .list) (s_list_t ?qf) ?_; (case qf => ktr_rel)) | refine' wo (g := .bf .tuple) (s_tuple_l rfl lk_o) ?_ | (refine' wo (g := .bf .tuple) (s_tuple_l rfl (lk_v ?qf)) ?_; (case qf => ktr_rel)))
    | (refine' atBin ?_; first
      | refine' wo (g := .bin .add) (s_bin_addN _ _) ?_ | (refine' wo (g := .bin .mul) (s_bin_mulN ?qn ?qm) ?_; (case qn => kwd_rel); (case qm => kwd_rel)) | (refine' wo (g := .bin .mod) (s_bin_modN ?qn) ?_; (case qn => kwd_rel)) | (refine' wo (g := .bin .fdiv) (s_bin_divN ?qn ?qm) ?_; (case qn => kwd_rel); (case qm => kwd_rel)) | (refine' wo (g := .bin .add) (s_bin_addM ?qn) ?_; (case qn => kwd_rel)) | (refine' wo (g := .bin .sub) (s_bin_subN ?qn) ?_; (case qn => kwd_rel)) | refine' wo (g := .bin .add) (s_bin_add _ _) ?_ | refine' wo (g := .bin .sub) (s_bin_sub _ _) ?_)
    | (refine' atSl ?_; first
      | refine' wo (g := .sl) (s_sl_H rfl lk_o) ?_ | refine' wo (g := .sl) (s_sl_L rfl lk_o) ?_ | refine' wo (g := .sl) (s_sl_B rfl lk_o) ?_ | refine' wo (g := .sl) (s_sl_Hn rfl lk_o) ?_ | refine' wo (g := .sl) (s_sl_Ln rfl lk_o) ?_ | refine' wo (g := .sl) (s_sl_0 rfl lk_o) ?_
      | (refine' wo (g := .sl) (s_sl_H rfl (lk_v ?qf)) ?_; (case qf => ktr_rel)) | (refine' wo (g := .sl) (s_sl_L rfl (lk_v ?qf)) ?_; (case qf => ktr_rel)) | (refine' wo (g := .sl) (s_sl_B rfl (lk_v ?qf)) ?_; (case qf => ktr_rel)) | (refine' wo (g := .sl) (s_sl_Hn rfl (lk_v ?qf)) ?_; (case qf => ktr_rel)) | (refine' wo (g := .sl) (s_sl_Ln rfl (lk_v ?qf)) ?_; (case qf => ktr_rel)) | (refine' wo (g := .sl) (s_sl_0 rfl (lk_v ?qf)) ?_; (case qf => ktr_rel)))
    | refine' wo (g := .rv) (rev_l rfl lk_o) ?_ | (refine' wo (g := .rv) (rev_l rfl (lk_v ?qf)) ?_; (case qf => ktr_rel))
    | (refine' wo_isi rfl ?qs ?_; (case qs => (first | exact isT_int_int | exact isT_int_bool | exact isT_int_str | exact isT_int_tuple | exact isT_int_list | exact isT_int_list_tuple | exact isT_tuple_int | exact isT_tuple_bool | exact isT_tuple_str | exact isT_tuple_tuple | exact isT_tuple_list | exact isT_tuple_list_tuple | exact isT_list_int | exact isT_list_bool | exact isT_list_str | exact isT_list_tuple | exact isT_list_list | exact isT_list_list_tuple | exact isT_str_int | exact isT_str_bool | exact isT_str_str | exact isT_str_tuple | exact isT_str_list | exact isT_str_list_tuple | exact isT_bool_int | exact isT_bool_bool | exact isT_bool_str | exact isT_bool_tuple | exact isT_bool_list | exact isT_bool_list_tuple | exact isT_NoneType_int | exact isT_NoneType_bool | exact isT_NoneType_str | exact isT_NoneType_tuple | exact isT_NoneType_list | exact isT_NoneType_list_tuple)))
    | (refine' atIt ?_; first
      | (refine' wo (g := .it .val) (s_it_val ?qf) ?_; (case qf => ktr_rel)) | (refine' wo (g := .it .val) (s_it_tup ?qf) ?_; (case qf => ktr_rel)) | refine' wo (g := .it .enm) s_it_enm ?_
      | (refine' wo (g := .it .rng) (s_it_rng ?qn) ?_; (case qn => kwd_rel)) | (refine' wo (g := .it .rng) (s_it_rng2 ?qn ?qm) ?_; (case qn => kwd_rel); (case qm => kwd_rel)))
    | (refine' wbt_nm ?ql ?qg ?_; (case ql => (first | exact Nat.le_of_ble_eq_true rfl | (simp; done))); (case qg => ((try simp only [outS, backS, List.set_cons_zero, List.set_cons_succ, List.getElem?_cons_zero, List.getElem?_cons_succ, Option.getD_some]) <;> rfl))) | refine' wbt_tp ?_ | refine' wbl_cons ?_ | refine' wbl_nil ?_
    | (refine' wfm_vw ?qf ?_; (case qf => ktr_rel))
    | (refine' wo (g := .lr) (lrg_ok ?qn) ?_; (case qn => kwd_rel)))
  | refine' tr_and rfl ?_
  | (refine' atWL ?_; first | refine' wl_cons ?_ | refine' wl_nil ?_)
  | (refine' atIf ?_; first
    | refine' wif_t rfl ?_ | refine' wif_f rfl ?_
    | (refine' wif_t ?qi ?_; (case qi => (first | assumption | exact decide_eq_true (by first | assumption | omega) | (simp [*]; done))))
    | (refine' wif_f ?qi ?_; (case qi => (first | assumption | exact decide_eq_false (by first | assumption | omega) | (simp [*]; done)))))
  | (refine' atWS ?_; first
    | refine' ws_iff ?_ | refine' ws_frz ?_ | refine' ws_asg ?_ | refine' ws_asl ?_ | refine' ws_exp ?_ | refine' ws_ret ?_ | refine' ws_retN ?_ | refine' ws_frr ?_ | refine' ws_aug_add rfl ?_ | refine' ws_aug_sub rfl ?_ | refine' ws_aug rfl rfl ?_ | refine' ws_brk ?_ | refine' ws_cnt ?_ | refine' ws_pas ?_ | refine' ws_rse ?_ | refine' ws_par ?_)
  | (refine' atWB ?_; first | refine' wb_cons ?_ | refine' wb_nil ?_)
  | (refine' atBd ?_; first | refine' wbd_nm ?_ | refine' wbd_sb rfl ?_ | refine' wbd_tp rfl ?_)
  | (refine' wset ?ql ?qg ?_; (case ql => (first | exact Nat.le_of_ble_eq_true rfl | (simp; done))); (case qg => ((try simp only [outS, backS, List.set_cons_zero, List.set_cons_succ, List.getElem?_cons_zero, List.getElem?_cons_succ, Option.getD_some]) <;> rfl)))
  | (refine' welt ?qz ?qg; (case qg => ((try simp only [outS, backS, List.set_cons_zero, List.set_cons_succ, List.getElem?_cons_zero, List.getElem?_cons_succ, Option.getD_some]) <;> rfl)); (case qz => (first | exact en_fz _ | rfl | (simp [en_fz, en_fzl]; done)))) | (refine' welt_vw ?qf ?qz ?qg; (case qg => ((try simp only [outS, backS, List.set_cons_zero, List.set_cons_succ, List.getElem?_cons_zero, List.getElem?_cons_succ, Option.getD_some]) <;> rfl)); (case qf => ktr_rel); (case qz => (first | exact en_fz _ | rfl | (simp [en_fz, en_fzl]; done))))
  | (refine' wfrz rfl ?qz ?qg ?_; (case qz => (first | exact fz_int _ | exact lo_fz _ | exact lol_fz _ | exact en_fz _ | exact fz_str _ | (simp [en_fz, en_fzl]; rfl) | rfl)); (case qg => ((try simp only [outS, backS, List.set_cons_zero, List.set_cons_succ, List.getElem?_cons_zero, List.getElem?_cons_succ, Option.getD_some]) <;> rfl)))
  | refine' wfil_t rfl ?_ | (refine' wfil_f rfl ?qg; (case qg => ((try simp only [outS, backS, List.set_cons_zero, List.set_cons_succ, List.getElem?_cons_zero, List.getElem?_cons_succ, Option.getD_some]) <;> rfl)))
  | refine' wpar rfl ?_ | (refine' wrf rfl ?qg ?_; (case qg => ((try simp only [outS, backS, List.set_cons_zero, List.set_cons_succ, List.getElem?_cons_zero, List.getElem?_cons_succ, Option.getD_some]) <;> rfl)))
  | refine' wint rfl ?_
  | refine' wnat ?_ | refine' le_and (Nat.le_of_ble_eq_true rfl) ?_ | (refine' le_and ?qn ?_; (case qn => kwd_rel)) | refine' wbds_cons ?_ | refine' wbds_nil ?_
  | (refine' atMut ?_; first
    | (refine' wm_app_map rfl rfl rfl ?qn ?qg ?_; (case qn => kwd_rel); (case qg => ((try simp only [outS, backS, List.set_cons_zero, List.set_cons_succ, List.getElem?_cons_zero, List.getElem?_cons_succ, Option.getD_some]) <;> rfl)))
    | (refine' wm_appO _ rfl rfl ?qn ?qg ?_; (case qn => kwd_rel); (case qg => ((try simp only [outS, backS, List.set_cons_zero, List.set_cons_succ, List.getElem?_cons_zero, List.getElem?_cons_succ, Option.getD_some]) <;> rfl)))
    | (refine' wm_pop_snoc rfl ?qg ?_; (case qg => ((try simp only [outS, backS, List.set_cons_zero, List.set_cons_succ, List.getElem?_cons_zero, List.getElem?_cons_succ, Option.getD_some]) <;> rfl)))
    | (refine' wm_pop_map rfl ?qn ?qg ?_; (case qn => (first | assumption | (simp; done))); (case qg => ((try simp only [outS, backS, List.set_cons_zero, List.set_cons_succ, List.getElem?_cons_zero, List.getElem?_cons_succ, Option.getD_some]) <;> rfl))))
  | (refine' wst_map rfl ?qn rfl ?qg ?_; (case qn => kwd_rel); (case qg => ((try simp only [outS, backS, List.set_cons_zero, List.set_cons_succ, List.getElem?_cons_zero, List.getElem?_cons_succ, Option.getD_some]) <;> rfl)))
  | (refine' wst_en rfl ?qn ?qg ?_; (case qn => kwd_rel); (case qg => ((try simp only [outS, backS, List.set_cons_zero, List.set_cons_succ, List.getElem?_cons_zero, List.getElem?_cons_succ, Option.getD_some]) <;> rfl))))
local macro_rules | `(tactic| tb_start) => `(tactic| repeat tb_rel)
local macro_rules | `(tactic| top_name) => `(tactic| first | exact parB_nil _ _ _ (Nat.le_of_ble_eq_true rfl) | rfl)
local macro_rules | `(tactic| top_args) => `(tactic| first | rfl | exact argOk_nil _ _ (by ktr_rel) | (simp [argOk, en_f, en_fl]; done) | (show argOk _ 0 _ = true; simp [argOk, en_f, en_fl, *]; done))
local macro_rules | `(tactic| kt_len) => `(tactic| repeat (first | exact av_nil | refine' av_lo ?_ | (refine' av_own ?qf ?_; (case qf => ktr_rel)) | (refine' av_vw ?qz ?_; (case qz => (first | rfl | (simp [en_fz, en_fzl]; rfl)))) | (refine' av_any ?qz ?_; (case qz => (first | rfl | (simp [en_fz, en_fzl]; rfl))))))
local macro_rules | `(tactic| kt_eqs) => `(tactic| ((try simp only [outS, backS, List.set_cons_zero, List.set_cons_succ, List.getElem?_cons_zero, List.getElem?_cons_succ, Option.getD_some]) <;> rfl))
local macro_rules | `(tactic| top_raise) => `(tactic| first | (refine' wo (g := .ix) (s_ix_Tn ?qn) ?_; (case qn => kwd_rel)) | (refine' wo (g := .ix) (s_ix_On ?qn) ?_; (case qn => kwd_rel)))
/-- deeds without names: one comes, the one at k goes -/
inductive De where
  | inn | out (k : Nat)
  deriving DecidableEq
instance : Enc De := ⟨fun d => match d with | .inn => .tup [.str "in"] | .out k => .tup [.str "out", .int k], fun d => by cases d <;> rfl⟩
/-- may it be, and how many stand behind -/
def De.go (s : Nat) : De → Option Nat
  | .inn => some (s + 1)
  | .out k => if k < s then some (s - 1) else none
def goL : Nat → List De → Option Nat
  | s, [] => some s
  | s, d :: ds => (d.go s).bind fun s' => goL s' ds
def De.nx (s : Nat) : De → Nat
  | .inn => s + 1
  | .out _ => s - 1
/-- they may be -/
def De.ok (s : Nat) : De → Prop
  | .inn => True
  | .out k => k < s
def okL : Nat → List De → Prop
  | _, [] => True
  | s, d :: ds => d.ok s ∧ okL (d.nx s) ds
/-- how many stand there, from the start on -/
def szs : Nat → List De → List Nat
  | s, [] => [s]
  | s, d :: ds => s :: szs (d.nx s) ds
theorem szs_len : ∀ (s : Nat) (ds : List De), (szs s ds).length = ds.length + 1
  | s, [] => rfl
  | s, d :: ds => by rw [szs, List.length_cons, szs_len, List.length_cons]
theorem szs_get : ∀ (ds : List De) (s m : Nat) (h : m < (szs s ds).length), (szs s ds)[m] = (ds.take m).foldl De.nx s
  | [], s, m, h => by
    simp only [szs, List.length_singleton] at h
    have : m = 0 := by omega
    subst this
    simp [szs]
  | d :: ds, s, 0, h => by simp [szs]
  | d :: ds, s, m + 1, h => by
    simp only [szs, List.getElem_cons_succ, List.take_succ_cons, List.foldl_cons]
    exact szs_get ds _ m _
theorem okL_take : ∀ {ds : List De} {s : Nat} (m : Nat), okL s ds → okL s (ds.take m)
  | [], _, m, h => by simpa using h
  | d :: ds, s, 0, h => trivial
  | d :: ds, s, m + 1, h => ⟨h.1, okL_take m h.2⟩
theorem okL_append : ∀ {ds : List De} {s : Nat} {es : List De}, okL s (ds ++ es) ↔ okL s ds ∧ okL (ds.foldl De.nx s) es
  | [], _, es => by simp [okL]
  | d :: ds, s, es => by
    simp only [List.cons_append, okL, List.foldl_cons, okL_append (ds := ds), and_assoc]
variable {p : Pg}
theorem is_amount_N (u : U_is_amount p) {n : Nat} (i : Nat) : Det p (n + 1) "is_amount" [.int i] (.bl true) := by
  refine o_is_amount u ?_
  tb_start
  simp
theorem is_word_in (u : U_is_word p) {n : Nat} (d : De) : Det p (n + 1) "is_word" [en d, .str "in"] (.bl (decide (d = .inn))) := by
  refine o_is_word u ?_
  cases d <;> tb_start <;> simp
theorem is_pair_out (u : U_is_pair p) {n : Nat} (k : Nat) : Det p (n + 1) "is_pair" [en (De.out k), .str "out"] (.bl true) := by
  refine o_is_pair u ?_
  tb_start
  rfl
theorem is_going_out (u : U_is_going p) {n : Nat} (k : Nat) : Det p (n + 2) "is_going" [en (De.out k)] (.bl true) := by
  refine o_is_going u ?_
  tb_start
  refine wcd (is_pair_out u.is_pair k) ?_
  tb_start
  refine wcd (is_amount_N u.is_amount k) ?_
  tb_start
  rfl
theorem need_bare_ok (u : U_need_bare p) {n : Nat} {many : Nat} {ds : List De} (h : okL many ds) : Det p (n + 3) "need_bare" [.int many, ls ds] .non := by
  refine o_need_bare u ?_
  tb_start
  refine wcd (is_amount_N u.is_amount many) ?_
  tb_start
  refine wfor (l := ds) (f := en) (fun l G => ∃ (s : Nat) (o : Option T), G = [some (.int many), some (ls ds), some (.int s), o] ∧ okL s l) ⟨many, none, rfl, h⟩ ?_ ?_
  · rintro d l G ⟨s, o, rfl, hd, hl⟩
    tb_start
    refine wcd (is_word_in u.is_word d) ?_
    cases d with
    | inn =>
      tb_start
      exact ⟨s + 1, _, rfl, hl⟩
    | out k =>
      have hk : k < s := hd
      tb_start
      refine wcd (is_going_out u.is_going k) ?_
      tb_start
      exact ⟨s - 1, _, rfl, hl⟩
  · rintro G ⟨s, o, rfl, _⟩
    tb_start
    rfl
theorem bare_sizes_ok (u : U_bare_sizes p) {n : Nat} {many : Nat} {ds : List De} (h : okL many ds) (hl : ds.length < 100000) : Det p (n + 1) "bare_sizes" [.int many, ls ds] (lo (szs many ds)) := by
  refine o_bare_sizes u ?_
  tb_start
  refine wfor (l := ds) (f := en) (fun l G => ∃ (q : List Nat) (s : Nat) (o : Option T), G = [some (.int many), some (ls ds), some (lo (q ++ [s])), o] ∧ okL s l ∧ q ++ szs s l = szs many ds ∧ q.length + l.length = ds.length) ⟨[], many, none, rfl, h, rfl, by simp⟩ ?_ ?_
  · rintro d l G ⟨q, s, o, rfl, ⟨hd, h1⟩, h2, h3⟩
    simp only [List.length_cons] at h3
    cases d with
    | inn =>
      tb_start
      exact ⟨q ++ [s], s + 1, _, rfl, h1, by simpa [szs, De.nx] using h2, by simp; omega⟩
    | out k =>
      have hk : k < s := hd
      tb_start
      exact ⟨q ++ [s], s - 1, _, rfl, h1, by simpa [szs, De.nx] using h2, by simp; omega⟩
  · rintro G ⟨q, s, o, rfl, _, h2, _⟩
    tb_start
    rw [← h2]; rfl
theorem need_traced_ok (u : U_need_traced p) {n many m k : Nat} {ds : List De} (h : okL many ds) (hl : ds.length < 100000) (hm : m ≤ ds.length) (hk : k < (ds.take m).foldl De.nx many) : Det p (n + 4) "need_traced" [.int many, ls ds, .int m, .int k] .non := by
  have hz : m < (szs many ds).length := by rw [szs_len]; omega
  have hk2 : k < (szs many ds)[m] := by rw [szs_get]; exact hk
  refine o_need_traced u ?_
  tb_start
  refine wcd (need_bare_ok u.need_bare h) ?_
  tb_start
  refine wcd (is_amount_N u.is_amount m) ?_
  tb_start
  refine wcd (is_amount_N u.is_amount k) ?_
  tb_start
  refine wcd (bare_sizes_ok u.bare_sizes h hl) ?_
  tb_start
  rfl
end QX

set_option Elab.async false
set_option linter.all false
set_option maxRecDepth 100000
set_option maxHeartbeats 1000000
namespace QX
open PySem
/-! short words for the steps -/
local macro_rules | `(tactic| ktr_rel) => `(tactic| first | rfl | exact en_f _ | exact en_fl _ | assumption | (simp [en_f, en_fl]; done))
local macro_rules | `(tactic| kwd_rel) => `(tactic| first | assumption | omega | (simp only [List.length_append, List.length_map, List.length_cons, List.length_nil, List.length_replicate, List.length_range, List.length_dropLast, List.length_set] at *; omega))
local macro_rules | `(tactic| tb_rel) => `(tactic| first
  | (refine' atWE ?_; first
    | (refine' we_var_lt rfl ?_) | (refine' we_var rfl ?qf ?_; (case qf => ktr_rel)) | (refine' we_var_vw rfl rfl ?_)
    | refine' we_intL ?_ | refine' we_int ?_ | refine' we_str ?_ | refine' we_ix ?_ | refine' we_cmp ?_ | refine' we_bin ?_ | refine' we_cal ?_ | refine' we_bfn ?_ | refine' we_tup ?_ | refine' we_lst ?_ | refine' we_not ?_ | refine' we_isi ?_
    | refine' we_bl ?_ | refine' we_non ?_
    | (refine' we_mov rfl ?qg ?_; (case qg => ((try simp only [outS, backS, List.set_cons_zero, List.set_cons_succ, List.getElem?_cons_zero, List.getElem?_cons_succ, Option.getD_some]) <;> rfl))) | (refine' we_shr rfl ?qz ?qg ?_; (case qz => (first | exact fz_int _ | exact lo_fz _ | exact lol_fz _ | exact en_fz _ | exact fz_str _ | (simp [en_fz, en_fzl]; rfl) | rfl)); (case qg => ((try simp only [outS, backS, List.set_cons_zero, List.set_cons_succ, List.getElem?_cons_zero, List.getElem?_cons_succ, Option.getD_some]) <;> rfl))) | refine' we_ref rfl ?_
    | refine' we_and ?_ | refine' we_and1 ?_ | refine' we_or ?_ | refine' we_or1 ?_ | refine' we_clk ?_
    | refine' we_negL ?_ | refine' we_neg1 ?_ | refine' we_neg ?_ | refine' we_ite ?_ | refine' we_chn ?_
    | refine' we_isN ?_ | refine' we_noN ?_ | refine' we_isB ?_ | refine' we_noB ?_ | refine' we_sl0 ?_ | refine' we_slL ?_ | refine' we_slH ?_ | refine' we_slB ?_ | refine' we_rev ?_ | refine' we_lrg ?_ | refine' we_met ?_ | refine' we_lc ?_ | refine' we_mut rfl ?_)
  | (refine' atWO ?_; first
    | (refine' atCmp ?_; first
      | refine' wo (g := .cmp .lt) (s_cmp_ltN _ _) ?_ | refine' wo (g := .cmp .le) (s_cmp_leN _ _) ?_ | refine' wo (g := .cmp .gt) (s_cmp_gtN _ _) ?_ | refine' wo (g := .cmp .ge) (s_cmp_geN _ _) ?_
      | refine' wo (g := .cmp .lt) (s_cmp_lt _ _) ?_ | refine' wo (g := .cmp .le) (s_cmp_le _ _) ?_ | refine' wo (g := .cmp .gt) (s_cmp_gt _ _) ?_ | refine' wo (g := .cmp .ge) (s_cmp_ge _ _) ?_
      | (refine' wo_eq rfl rfl ?qe ?_; (case qe => (first | exact eq_nat _ _ | exact eqS_t _ (by decide +kernel) | exact eqS_f _ _ (by decide +kernel) (by decide +kernel) (by decide +kernel) | assumption | exact eq_int _ _ | exact eq_bl _ _ | exact eq_non))) | (refine' wo_ne rfl rfl ?qe ?_; (case qe => (first | exact eq_nat _ _ | exact eqS_t _ (by decide +kernel) | exact eqS_f _ _ (by decide +kernel) (by decide +kernel) (by decide +kernel) | assumption | exact eq_int _ _ | exact eq_bl _ _ | exact eq_non))))
    | (refine' atIx ?_; first
      | (refine' wo (g := .ix) (s_ix_mapO ?qn) ?_; (case qn => kwd_rel)) | (refine' wo (g := .ix) (s_ix_mapV ?qn ?qf) ?_; (case qn => kwd_rel); (case qf => ktr_rel))
      | refine' wo (g := .ix) (s_ix_O at_snoc) ?_ | (refine' wo (g := .ix) (s_ix_V at_snoc ?qf) ?_; (case qf => ktr_rel))
      | (refine' wo (g := .ix) (s_ix_O (at_last ?qn)) ?_; (case qn => (first | assumption | (simp; done)))) | (refine' wo (g := .ix) (s_ix_V (at_last ?qn) ?qf) ?_; (case qn => (first | assumption | (simp; done))); (case qf => ktr_rel))
      | refine' wo (g := .ix) (s_ix_T rfl) ?_ | refine' wo (g := .ix) (s_ix_O rfl) ?_ | (refine' wo (g := .ix) (s_ix_V rfl ?qf) ?_; (case qf => ktr_rel)))
    | refine' wo (g := .isn) (u := _) rfl ?_ | refine' wo (g := .neg) (u := _) rfl ?_ | refine' wo (g := .blo) (u := _) rfl ?_
    | refine' wfm_own ?_ | refine' wo (g := .tru) (truth_bl _) ?_ | (refine' wo (g := .own) ?qy ?_; (case qy => (repeat first | exact ao_nil | apply ao_cons)))
    | (refine' atBf ?_; first
      | refine' wo (g := .bf .len) (s_len_map ⟨_, rfl⟩) ?_ | refine' wo (g := .bf .len) (s_len_l ⟨_, rfl⟩) ?_ | refine' wo (g := .bf .len) (s_len_t rfl) ?_
      | refine' wo (g := .bf .all) (s_all_map ⟨_, rfl⟩) ?_
      | refine' wo (g := .bf .max) (s_max_nat _ _) ?_ | refine' wo (g := .bf .min) (s_min_nat _ _) ?_ | refine' wo (g := .bf .max) (s_max_int _ _) ?_ | refine' wo (g := .bf .min) (s_min_int _ _) ?_
      | refine' wo (g := .bf .list) (s_list_l rfl lk_o) ?_ | (refine' wo (g := .bf .list) (s_list_l rfl (lk_v ?qf)) ?_; (case qf => ktr_rel)) | (refine' wo (g := .bf .list) (s_list_t ?qf) ?_; (case qf => ktr_rel)) | refine' wo (g := .bf .tuple) (s_tuple_l rfl lk_o) ?_ | (refine' wo (g := .bf .tuple) (s_tuple_l rfl (lk_v ?qf)) ?_; (case qf => ktr_rel)))
    | (refine' atBin ?_; first
      | refine' wo (g := .bin .add) (s_bin_addN _ _) ?_ | (refine' wo (g := .bin .mul) (s_bin_mulN ?qn ?qm) ?_; (case qn => kwd_rel); (case qm => kwd_rel)) | (refine' wo (g := .bin .mod) (s_bin_modN ?qn) ?_; (case qn => kwd_rel)) | (refine' wo (g := .bin .fdiv) (s_bin_divN ?qn ?qm) ?_; (case qn => kwd_rel); (case qm => kwd_rel)) | (refine' wo (g := .bin .add) (s_bin_addM ?qn) ?_; (case qn => kwd_rel)) | (refine' wo (g := .bin .sub) (s_bin_subN ?qn) ?_; (case qn => kwd_rel)) | refine' wo (g := .bin .add) (s_bin_add _ _) ?_ | refine' wo (g := .bin .sub) (s_bin_sub _ _) ?_)
    | (refine' atSl ?_; first
      | refine' wo (g := .sl) (s_sl_H rfl lk_o) ?_ | refine' wo (g := .sl) (s_sl_L rfl lk_o) ?_ | refine' wo (g := .sl) (s_sl_B rfl lk_o) ?_ | refine' wo (g := .sl) (s_sl_Hn rfl lk_o) ?_ | refine' wo (g := .sl) (s_sl_Ln rfl lk_o) ?_ | refine' wo (g := .sl) (s_sl_0 rfl lk_o) ?_
      | (refine' wo (g := .sl) (s_sl_H rfl (lk_v ?qf)) ?_; (case qf => ktr_rel)) | (refine' wo (g := .sl) (s_sl_L rfl (lk_v ?qf)) ?_; (case qf => ktr_rel)) | (refine' wo (g := .sl) (s_sl_B rfl (lk_v ?qf)) ?_; (case qf => ktr_rel)) | (refine' wo (g := .sl) (s_sl_Hn rfl (lk_v ?qf)) ?_; (case qf => ktr_rel)) | (refine' wo (g := .sl) (s_sl_Ln rfl (lk_v ?qf)) ?_; (case qf => ktr_rel)) | (refine' wo (g := .sl) (s_sl_0 rfl (lk_v ?qf)) ?_; (case qf => ktr_rel)))
    | refine' wo (g := .rv) (rev_l rfl lk_o) ?_ | (refine' wo (g := .rv) (rev_l rfl (lk_v ?qf)) ?_; (case qf => ktr_rel))
    | (refine' wo_isi rfl ?qs ?_; (case qs => (first | exact isT_int_int | exact isT_int_bool | exact isT_int_str | exact isT_int_tuple | exact isT_int_list | exact isT_int_list_tuple | exact isT_tuple_int | exact isT_tuple_bool | exact isT_tuple_str | exact isT_tuple_tuple | exact isT_tuple_list | exact isT_tuple_list_tuple | exact isT_list_int | exact isT_list_bool | exact isT_list_str | exact isT_list_tuple | exact isT_list_list | exact isT_list_list_tuple | exact isT_str_int | exact isT_str_bool | exact isT_str_str | exact isT_str_tuple | exact isT_str_list | exact isT_str_list_tuple | exact isT_bool_int | exact isT_bool_bool | exact isT_bool_str | exact isT_bool_tuple | exact isT_bool_list | exact isT_bool_list_tuple | exact isT_NoneType_int | exact isT_NoneType_bool | exact isT_NoneType_str | exact isT_NoneType_tuple | exact isT_NoneType_list | exact isT_NoneType_list_tuple)))
    | (refine' atIt ?_; first
      | (refine' wo (g := .it .val) (s_it_val ?qf) ?_; (case qf => ktr_rel)) | (refine' wo (g := .it .val) (s_it_tup ?qf) ?_; (case qf => ktr_rel)) | refine' wo (g := .it .enm) s_it_enm ?_
      | (refine' wo (g := .it .rng) (s_it_rng ?qn) ?_; (case qn => kwd_rel)) | (refine' wo (g := .it .rng) (s_it_rng2 ?qn ?qm) ?_; (case qn => kwd_rel); (case qm => kwd_rel)))
    | (refine' wbt_nm ?ql ?qg ?_; (case ql => (first | exact Nat.le_of_ble_eq_true rfl | (simp; done))); (case qg => ((try simp only [outS, backS, List.set_cons_zero, List.set_cons_succ, List.getElem?_cons_zero, List.getElem?_cons_succ, Option.getD_some]) <;> rfl))) | refine' wbt_tp ?_ | refine' wbl_cons ?_ | refine' wbl_nil ?_
    | (refine' wfm_vw ?qf ?_; (case qf => ktr_rel))
    | (refine' wo (g := .lr) (lrg_ok ?qn) ?_; (case qn => kwd_rel)))
  | refine' tr_and rfl ?_
  | (refine' atWL ?_; first | refine' wl_cons ?_ | refine' wl_nil ?_)
  | (refine' atIf ?_; first
    | refine' wif_t rfl ?_ | refine' wif_f rfl ?_
    | (refine' wif_t ?qi ?_; (case qi => (first | assumption | exact decide_eq_true (by first | assumption | omega) | (simp [*]; done))))
    | (refine' wif_f ?qi ?_; (case qi => (first | assumption | exact decide_eq_false (by first | assumption | omega) | (simp [*]; done)))))
  | (refine' atWS ?_; first
    | refine' ws_iff ?_ | refine' ws_frz ?_ | refine' ws_asg ?_ | refine' ws_asl ?_ | refine' ws_exp ?_ | refine' ws_ret ?_ | refine' ws_retN ?_ | refine' ws_frr ?_ | refine' ws_aug_add rfl ?_ | refine' ws_aug_sub rfl ?_ | refine' ws_aug rfl rfl ?_ | refine' ws_brk ?_ | refine' ws_cnt ?_ | refine' ws_pas ?_ | refine' ws_rse ?_ | refine' ws_par ?_)
  | (refine' atWB ?_; first | refine' wb_cons ?_ | refine' wb_nil ?_)
  | (refine' atBd ?_; first | refine' wbd_nm ?_ | refine' wbd_sb rfl ?_ | refine' wbd_tp rfl ?_)
  | (refine' wset ?ql ?qg ?_; (case ql => (first | exact Nat.le_of_ble_eq_true rfl | (simp; done))); (case qg => ((try simp only [outS, backS, List.set_cons_zero, List.set_cons_succ, List.getElem?_cons_zero, List.getElem?_cons_succ, Option.getD_some]) <;> rfl)))
  | (refine' welt ?qz ?qg; (case qg => ((try simp only [outS, backS, List.set_cons_zero, List.set_cons_succ, List.getElem?_cons_zero, List.getElem?_cons_succ, Option.getD_some]) <;> rfl)); (case qz => (first | exact en_fz _ | rfl | (simp [en_fz, en_fzl]; done)))) | (refine' welt_vw ?qf ?qz ?qg; (case qg => ((try simp only [outS, backS, List.set_cons_zero, List.set_cons_succ, List.getElem?_cons_zero, List.getElem?_cons_succ, Option.getD_some]) <;> rfl)); (case qf => ktr_rel); (case qz => (first | exact en_fz _ | rfl | (simp [en_fz, en_fzl]; done))))
  | (refine' wfrz rfl ?qz ?qg ?_; (case qz => (first | exact fz_int _ | exact lo_fz _ | exact lol_fz _ | exact en_fz _ | exact fz_str _ | (simp [en_fz, en_fzl]; rfl) | rfl)); (case qg => ((try simp only [outS, backS, List.set_cons_zero, List.set_cons_succ, List.getElem?_cons_zero, List.getElem?_cons_succ, Option.getD_some]) <;> rfl)))
  | refine' wfil_t rfl ?_ | (refine' wfil_f rfl ?qg; (case qg => ((try simp only [outS, backS, List.set_cons_zero, List.set_cons_succ, List.getElem?_cons_zero, List.getElem?_cons_succ, Option.getD_some]) <;> rfl)))
  | refine' wpar rfl ?_ | (refine' wrf rfl ?qg ?_; (case qg => ((try simp only [outS, backS, List.set_cons_zero, List.set_cons_succ, List.getElem?_cons_zero, List.getElem?_cons_succ, Option.getD_some]) <;> rfl)))
  | refine' wint rfl ?_
  | refine' wnat ?_ | refine' le_and (Nat.le_of_ble_eq_true rfl) ?_ | (refine' le_and ?qn ?_; (case qn => kwd_rel)) | refine' wbds_cons ?_ | refine' wbds_nil ?_
  | (refine' atMut ?_; first
    | (refine' wm_app_map rfl rfl rfl ?qn ?qg ?_; (case qn => kwd_rel); (case qg => ((try simp only [outS, backS, List.set_cons_zero, List.set_cons_succ, List.getElem?_cons_zero, List.getElem?_cons_succ, Option.getD_some]) <;> rfl)))
    | (refine' wm_appO _ rfl rfl ?qn ?qg ?_; (case qn => kwd_rel); (case qg => ((try simp only [outS, backS, List.set_cons_zero, List.set_cons_succ, List.getElem?_cons_zero, List.getElem?_cons_succ, Option.getD_some]) <;> rfl)))
    | (refine' wm_pop_snoc rfl ?qg ?_; (case qg => ((try simp only [outS, backS, List.set_cons_zero, List.set_cons_succ, List.getElem?_cons_zero, List.getElem?_cons_succ, Option.getD_some]) <;> rfl)))
    | (refine' wm_pop_map rfl ?qn ?qg ?_; (case qn => (first | assumption | (simp; done))); (case qg => ((try simp only [outS, backS, List.set_cons_zero, List.set_cons_succ, List.getElem?_cons_zero, List.getElem?_cons_succ, Option.getD_some]) <;> rfl))))
  | (refine' wst_map rfl ?qn rfl ?qg ?_; (case qn => kwd_rel); (case qg => ((try simp only [outS, backS, List.set_cons_zero, List.set_cons_succ, List.getElem?_cons_zero, List.getElem?_cons_succ, Option.getD_some]) <;> rfl)))
  | (refine' wst_en rfl ?qn ?qg ?_; (case qn => kwd_rel); (case qg => ((try simp only [outS, backS, List.set_cons_zero, List.set_cons_succ, List.getElem?_cons_zero, List.getElem?_cons_succ, Option.getD_some]) <;> rfl))))
local macro_rules | `(tactic| tb_start) => `(tactic| repeat tb_rel)
local macro_rules | `(tactic| top_name) => `(tactic| first | exact parB_nil _ _ _ (Nat.le_of_ble_eq_true rfl) | rfl)
local macro_rules | `(tactic| top_args) => `(tactic| first | rfl | exact argOk_nil _ _ (by ktr_rel) | (simp [argOk, en_f, en_fl]; done) | (show argOk _ 0 _ = true; simp [argOk, en_f, en_fl, *]; done))
local macro_rules | `(tactic| kt_len) => `(tactic| repeat (first | exact av_nil | refine' av_lo ?_ | (refine' av_own ?qf ?_; (case qf => ktr_rel)) | (refine' av_vw ?qz ?_; (case qz => (first | rfl | (simp [en_fz, en_fzl]; rfl)))) | (refine' av_any ?qz ?_; (case qz => (first | rfl | (simp [en_fz, en_fzl]; rfl))))))
local macro_rules | `(tactic| kt_eqs) => `(tactic| ((try simp only [outS, backS, List.set_cons_zero, List.set_cons_succ, List.getElem?_cons_zero, List.getElem?_cons_succ, Option.getD_some]) <;> rfl))
local macro_rules | `(tactic| top_raise) => `(tactic| first | (refine' wo (g := .ix) (s_ix_Tn ?qn) ?_; (case qn => kwd_rel)) | (refine' wo (g := .ix) (s_ix_On ?qn) ?_; (case qn => kwd_rel)))
/-- the last goes to the hole -/
def cut {α : Type} (row : List α) (k : Nat) : List α := if k < row.length - 1 then (match row.getLast? with | some x => row.dropLast.set k x | none => []) else row.dropLast
theorem cut_snoc {α : Type} (r : List α) (x : α) (k : Nat) : cut (r ++ [x]) k = if k < r.length then r.set k x else r := by
  unfold cut; simp
theorem cut_len {α : Type} (row : List α) (k : Nat) : (cut row k).length = row.length - 1 := by
  unfold cut
  split
  · cases e : row.getLast? with
    | none =>
      rw [List.getLast?_eq_none_iff] at e
      subst e; rfl
    | some x => simp
  · simp
theorem snoc_of {α : Type} {row : List α} (h : row ≠ []) : ∃ r x, row = r ++ [x] := ⟨row.dropLast, row.getLast h, (List.dropLast_concat_getLast h).symm⟩
theorem snoc_pos {α : Type} {row : List α} {k : Nat} (h : k < row.length) : ∃ r x, row = r ++ [x] := snoc_of fun z => by rw [z] at h; simp at h
/-- a row gone through: f names those who come -/
def rowGo {α : Type} (f : Nat → α) : List α → Nat → List De → List α
  | row, _, [] => row
  | row, c, .inn :: ds => rowGo f (row ++ [f c]) (c + 1) ds
  | row, c, .out k :: ds => rowGo f (cut row k) c ds
theorem rowGo_len {α : Type} (f : Nat → α) : ∀ (ds : List De) (row : List α) (c : Nat), (rowGo f row c ds).length = ds.foldl De.nx row.length
  | [], _, _ => rfl
  | .inn :: ds, row, c => by rw [rowGo, rowGo_len f ds, List.foldl_cons]; simp [De.nx]
  | .out k :: ds, row, c => by rw [rowGo, rowGo_len f ds, List.foldl_cons, cut_len]; rfl
/-- who stands there: from the start, or come -/
inductive Who where
  | first (i : Nat) | came (c : Nat)
  deriving DecidableEq
instance : Enc Who := ⟨fun w => match w with | .first i => .tup [.str "first", .int (i : Nat)] | .came c => .tup [.str "came", .int (c : Nat)], fun w => by cases w <;> rfl⟩
def firsts (n : Nat) : List Who := (List.range n).map .first
/-- the row of who stands there -/
def whos (many : Nat) (ds : List De) : List Who := rowGo .came (firsts many) 0 ds
theorem whos_len (many : Nat) (ds : List De) : (whos many ds).length = ds.foldl De.nx many := by
  unfold whos; rw [rowGo_len]; simp [firsts]
variable {p : Pg}
theorem who_ok (u : U_who p) {n many m k : Nat} {ds : List De} (h : okL many ds) (hl : ds.length < 100000) (hmany : many < 100000) (hm : m ≤ ds.length) (hk : k < (whos many (ds.take m)).length) :
    Det p (n + 5) "who" [.int many, ls ds, .int m, .int k] (en (whos many (ds.take m))[k]) := by
  have hk' : k < (ds.take m).foldl De.nx many := by rw [← whos_len]; exact hk
  refine o_who u ?_
  tb_start
  refine wcd (need_traced_ok u.need_traced h hl hm hk') ?_
  tb_start
  refine wlc0 (g := fun i : Nat => en (Who.first i)) (fun i _ => ?_) ?_
  · tb_start
  tb_start
  rw [show (List.range many).map (fun i : Nat => en (Who.first i)) = (firsts many).map en from by simp [firsts]]
  refine wfor (l := ds.take m) (f := en) (fun l G => ∃ (row : List Who) (c : Nat) (o8 o7 : Option T), G = [some (.int many), some (ls ds), some (.int m), some (.int k), some (lo row), none, some (.int c), o7, o8] ∧
      rowGo .came row c l = whos many (ds.take m) ∧ okL row.length l ∧ row.length + l.length < 300000) ⟨firsts many, 0, none, none, rfl, rfl, by simpa [firsts] using okL_take m h, by simp [firsts]; omega⟩ ?_ ?_
  · rintro d l G ⟨row, c, o8, o7, rfl, e, ⟨hd, h1⟩, h2⟩
    simp only [List.length_cons] at h2
    cases d with
    | inn =>
      tb_start
      refine wm_app_map (f := en) (z := Who.came c) rfl rfl rfl (by omega) (by ((try simp only [outS, backS, List.set_cons_zero, List.set_cons_succ, List.getElem?_cons_zero, List.getElem?_cons_succ, Option.getD_some]) <;> rfl)) ?_
      tb_start
      exact ⟨row ++ [.came c], c + 1, _, _, rfl, e, by simpa [De.nx] using h1, by simp; omega⟩
    | out j =>
      obtain ⟨r, x, rfl⟩ := snoc_pos hd
      simp only [List.length_append, List.length_singleton] at hd h1 h2
      simp only [rowGo, cut_snoc] at e
      tb_start
      refine wif_d (fun hj => ?_) (fun hj => ?_)
      · rw [if_pos hj] at e
        tb_start
        exact ⟨r.set j x, c, _, _, rfl, e, by simpa [De.nx] using h1, by simp; omega⟩
      · rw [if_neg hj] at e
        tb_start
        exact ⟨r, c, _, _, rfl, e, by simpa [De.nx] using h1, by omega⟩
  · rintro G ⟨row, c, o8, o7, rfl, e, _, _⟩
    have e : row = whos many (ds.take m) := e
    subst e
    tb_start
    rfl
/-- where the one at p goes: from deed i on; s stand there -/
def trGo : Nat → Nat → Nat → List De → List (Nat × Option Nat)
  | _, _, _, [] => []
  | s, p, i, .inn :: ds => trGo (s + 1) p (i + 1) ds
  | s, p, i, .out k :: ds => if k = p then [(i + 1, none)] else if p = s - 1 then (i + 1, some k) :: trGo (s - 1) k (i + 1) ds else trGo (s - 1) p (i + 1) ds
theorem okL_drop {ds : List De} {s : Nat} (m : Nat) (h : okL s ds) : okL ((ds.take m).foldl De.nx s) (ds.drop m) := by
  rw [← List.take_append_drop m ds] at h
  exact (okL_append.mp h).2
theorem trace_ok (u : U_trace p) {n many m k : Nat} {ds : List De} (h : okL many ds) (hl : ds.length < 100000) (hm : m ≤ ds.length) (hk : k < (ds.take m).foldl De.nx many) :
    Det p (n + 5) "trace" [.int many, ls ds, .int m, .int k] (lo ((m, some k) :: trGo ((ds.take m).foldl De.nx many) k m (ds.drop m))) := by
  refine o_trace u ?_
  tb_start
  refine wcd (need_traced_ok u.need_traced h hl hm hk) ?_
  tb_start
  refine wcd (bare_sizes_ok u.bare_sizes h hl) ?_
  tb_start
  generalize hD : ((m, some k) :: trGo ((ds.take m).foldl De.nx many) k m (ds.drop m)) = D
  refine wfor (l := List.range' m (ds.length - m)) (f := en) (fun l G => ∃ (i s q : Nat) (f : List (Nat × Option Nat)) (o6 o7 : Option T), G = [some (.int many), some (ls ds), some (.int m), some (.int q), some (ls (szs many ds)), some (lo f), o6, o7] ∧
      l = List.range' i (ds.length - i) ∧ i ≤ ds.length ∧ s = (ds.take i).foldl De.nx many ∧ okL s (ds.drop i) ∧ q < s ∧ f.length ≤ i + 1 ∧ f ++ trGo s q i (ds.drop i) = D)
    ⟨m, _, k, [(m, some k)], none, none, rfl, rfl, hm, rfl, okL_drop m h, hk, by simp, hD⟩ ?_ ?_
  · rintro i l G ⟨i0, s, q, f, o6, o7, rfl, e1, hi, hs, hok, hq, hf, e2⟩
    obtain ⟨rfl, h0, e3⟩ := range'_cons e1
    have hi' : i < ds.length := by omega
    have hz : i < (szs many ds).length := by rw [szs_len]; omega
    have hsz : (szs many ds)[i] = s := by rw [szs_get, hs]
    rw [List.drop_eq_getElem_cons hi'] at hok e2
    have hs' : (ds.take (i + 1)).foldl De.nx many = (ds[i]).nx s := by
      rw [List.take_succ_eq_append_getElem hi', List.foldl_append, ← hs]; rfl
    tb_start
    generalize ds[i] = d at *
    cases d with
    | inn =>
      tb_start
      exact ⟨i + 1, s + 1, q, f, _, _, rfl, e3, by omega, hs'.symm, hok.2, by omega, by omega, e2⟩
    | out j =>
      have hj : j < s := hok.1
      simp only [trGo] at e2
      tb_start
      refine wif_d (fun hjq => ?_) (fun hjq => ?_)
      · rw [if_pos hjq] at e2
        tb_start
        refine wo (s_add_snoc (i + 1, (none : Option Nat)) rfl (lk_v (by ktr_rel)) rfl (by omega)) ?_
        tb_start
        rw [e2]
      · rw [if_neg hjq] at e2
        tb_start
        rw [hsz]
        refine wif_d (fun hqs => ?_) (fun hqs => ?_)
        · rw [if_pos hqs] at e2
          tb_start
          refine wm_app_map (f := en) (z := (i + 1, some j)) rfl rfl rfl (by omega) (by ((try simp only [outS, backS, List.set_cons_zero, List.set_cons_succ, List.getElem?_cons_zero, List.getElem?_cons_succ, Option.getD_some]) <;> rfl)) ?_
          tb_start
          exact ⟨i + 1, s - 1, j, f ++ [(i + 1, some j)], _, _, rfl, e3, by omega, hs'.symm, hok.2, by omega, by simp; omega, by simpa using e2⟩
        · rw [if_neg hqs] at e2
          tb_start
          exact ⟨i + 1, s - 1, q, f, _, _, rfl, e3, by omega, hs'.symm, hok.2, by omega, by omega, e2⟩
  · rintro G ⟨i, s, q, f, o6, o7, rfl, e1, hi, hs, hok, hq, hf, e2⟩
    have h0 : ds.length - i = 0 := by
      have := congrArg List.length e1
      simpa using this.symm
    rw [List.drop_eq_nil_of_le (by omega)] at e2
    simp only [trGo, List.append_nil] at e2
    tb_start
    rw [e2]
/-- when each place was last moved to; i deeds are done -/
def lmGo : List Nat → Nat → List De → List Nat
  | row, _, [] => row
  | row, i, .inn :: ds => lmGo (row ++ [i + 1]) (i + 1) ds
  | row, i, .out k :: ds => lmGo (if k < row.length - 1 then row.dropLast.set k (i + 1) else row.dropLast) (i + 1) ds
theorem zipIdx_cons' {α : Type} {a : α} {j : Nat} {l : List (α × Nat)} {es : List α} {i : Nat} (h : (a, j) :: l = es.zipIdx i) : ∃ r, es = a :: r ∧ j = i ∧ l = r.zipIdx (i + 1) := by
  cases es with
  | nil => simp at h
  | cons b r =>
    rw [List.zipIdx_cons] at h
    injection h with h1 h2
    injection h1 with h3 h4
    exact ⟨r, by rw [h3], h4, h2⟩
theorem last_moves_ok (u : U_last_moves p) {n many : Nat} {ds : List De} (h : okL many ds) (hl : ds.length < 100000) (hmany : many < 100000) :
    Det p (n + 4) "last_moves" [.int many, ls ds] (lo (lmGo (List.replicate many 0) 0 ds)) := by
  refine o_last_moves u ?_
  tb_start
  refine wcd (need_bare_ok u.need_bare h) ?_
  tb_start
  refine wo (s_rep_map (f := en) (z := (0 : Nat)) rfl (by omega)) ?_
  tb_start
  refine wfor (f := fun p : De × Nat => .tup [.int (p.2 : Nat), en p.1]) (l := ds.zipIdx) (fun l G => ∃ (row : List Nat) (i : Nat) (es : List De) (o3 o4 : Option T), G = [some (.int many), some (ls ds), some (lo row), o3, o4] ∧ l = es.zipIdx i ∧
      lmGo row i es = lmGo (List.replicate many 0) 0 ds ∧ okL row.length es ∧ row.length + es.length < 300000) ⟨_, 0, ds, none, none, rfl, rfl, rfl, by simpa using h, by simp; omega⟩ ?_ ?_
  · rintro ⟨d, j⟩ l G ⟨row, i, es, o3, o4, rfl, e1, e, h1, h2⟩
    obtain ⟨es, rfl, rfl, e2⟩ := zipIdx_cons' e1
    obtain ⟨hd, h1⟩ := h1
    simp only [List.length_cons] at h2
    cases d with
    | inn =>
      tb_start
      exact ⟨row ++ [j + 1], j + 1, es, _, _, rfl, e2, e, by simpa [De.nx] using h1, by simp; omega⟩
    | out k =>
      obtain ⟨r, x, rfl⟩ := snoc_pos hd
      simp only [List.length_append, List.length_singleton] at hd h1 h2
      simp only [lmGo, List.length_append, List.length_singleton, Nat.add_sub_cancel, List.dropLast_concat] at e
      tb_start
      refine wif_d (fun hj => ?_) (fun hj => ?_)
      · rw [if_pos hj] at e
        tb_start
        exact ⟨r.set k (j + 1), j + 1, es, _, _, rfl, e2, e, by simpa [De.nx] using h1, by simp; omega⟩
      · rw [if_neg hj] at e
        tb_start
        exact ⟨r, j + 1, es, _, _, rfl, e2, e, by simpa [De.nx] using h1, by omega⟩
  · rintro G ⟨row, i, es, o3, o4, rfl, e1, e, _, _⟩
    have : es = [] := by cases es with
      | nil => rfl
      | cons a r => simp at e1
    subst this
    tb_start
    rw [← e]; rfl
end QX

set_option Elab.async false
set_option linter.all false
set_option maxRecDepth 100000
set_option maxHeartbeats 1000000
namespace QX
open PySem
/-! short words for the steps -/
local macro_rules | `(tactic| ktr_rel) => `(tactic| first | rfl | exact en_f _ | exact en_fl _ | assumption | (simp [en_f, en_fl]; done))
local macro_rules | `(tactic| kwd_rel) => `(tactic| first | assumption | omega | (simp only [List.length_append, List.length_map, List.length_cons, List.length_nil, List.length_replicate, List.length_range, List.length_dropLast, List.length_set] at *; omega))
local macro_rules | `(tactic| tb_rel) => `(tactic| first
  | (refine' atWE ?_; first
    | (refine' we_var_lt rfl ?_) | (refine' we_var rfl ?qf ?_; (case qf => ktr_rel)) | (refine' we_var_vw rfl rfl ?_)
    | refine' we_intL ?_ | refine' we_int ?_ | refine' we_str ?_ | refine' we_ix ?_ | refine' we_cmp ?_ | refine' we_bin ?_ | refine' we_cal ?_ | refine' we_bfn ?_ | refine' we_tup ?_ | refine' we_lst ?_ | refine' we_not ?_ | refine' we_isi ?_
    | refine' we_bl ?_ | refine' we_non ?_
    | (refine' we_mov rfl ?qg ?_; (case qg => ((try simp only [outS, backS, List.set_cons_zero, List.set_cons_succ, List.getElem?_cons_zero, List.getElem?_cons_succ, Option.getD_some]) <;> rfl))) | (refine' we_shr rfl ?qz ?qg ?_; (case qz => (first | exact fz_int _ | exact lo_fz _ | exact lol_fz _ | exact en_fz _ | exact fz_str _ | (simp [en_fz, en_fzl]; rfl) | rfl)); (case qg => ((try simp only [outS, backS, List.set_cons_zero, List.set_cons_succ, List.getElem?_cons_zero, List.getElem?_cons_succ, Option.getD_some]) <;> rfl))) | refine' we_ref rfl ?_
    | refine' we_and ?_ | refine' we_and1 ?_ | refine' we_or ?_ | refine' we_or1 ?_ | refine' we_clk ?_
    | refine' we_negL ?_ | refine' we_neg1 ?_ | refine' we_neg ?_ | refine' we_ite ?_ | refine' we_chn ?_
    | refine' we_isN ?_ | refine' we_noN ?_ | refine' we_isB ?_ | refine' we_noB ?_ | refine' we_sl0 ?_ | refine' we_slL ?_ | refine' we_slH ?_ | refine' we_slB ?_ | refine' we_rev ?_ | refine' we_lrg ?_ | refine' we_met ?_ | refine' we_lc ?_ | refine' we_mut rfl ?_)
  | (refine' atWO ?_; first
    | (refine' atCmp ?_; first
      | refine' wo (g := .cmp .lt) (s_cmp_ltN _ _) ?_ | refine' wo (g := .cmp .le) (s_cmp_leN _ _) ?_ | refine' wo (g := .cmp .gt) (s_cmp_gtN _ _) ?_ | refine' wo (g := .cmp .ge) (s_cmp_geN _ _) ?_
      | refine' wo (g := .cmp .lt) (s_cmp_lt _ _) ?_ | refine' wo (g := .cmp .le) (s_cmp_le _ _) ?_ | refine' wo (g := .cmp .gt) (s_cmp_gt _ _) ?_ | refine' wo (g := .cmp .ge) (s_cmp_ge _ _) ?_
      | (refine' wo_eq rfl rfl ?qe ?_; (case qe => (first | exact eq_nat _ _ | exact eqS_t _ (by decide +kernel) | exact eqS_f _ _ (by decide +kernel) (by decide +kernel) (by decide +kernel) | assumption | exact eq_int _ _ | exact eq_bl _ _ | exact eq_non))) | (refine' wo_ne rfl rfl ?qe ?_; (case qe => (first | exact eq_nat _ _ | exact eqS_t _ (by decide +kernel) | exact eqS_f _ _ (by decide +kernel) (by decide +kernel) (by decide +kernel) | assumption | exact eq_int _ _ | exact eq_bl _ _ | exact eq_non))))
    | (refine' atIx ?_; first
      | (refine' wo (g := .ix) (s_ix_mapO ?qn) ?_; (case qn => kwd_rel)) | (refine' wo (g := .ix) (s_ix_mapV ?qn ?qf) ?_; (case qn => kwd_rel); (case qf => ktr_rel))
      | refine' wo (g := .ix) (s_ix_O at_snoc) ?_ | (refine' wo (g := .ix) (s_ix_V at_snoc ?qf) ?_; (case qf => ktr_rel))
      | (refine' wo (g := .ix) (s_ix_O (at_last ?qn)) ?_; (case qn => (first | assumption | (simp; done)))) | (refine' wo (g := .ix) (s_ix_V (at_last ?qn) ?qf) ?_; (case qn => (first | assumption | (simp; done))); (case qf => ktr_rel))
      | refine' wo (g := .ix) (s_ix_T rfl) ?_ | refine' wo (g := .ix) (s_ix_O rfl) ?_ | (refine' wo (g := .ix) (s_ix_V rfl ?qf) ?_; (case qf => ktr_rel)))
    | refine' wo (g := .isn) (u := _) rfl ?_ | refine' wo (g := .neg) (u := _) rfl ?_ | refine' wo (g := .blo) (u := _) rfl ?_
    | refine' wfm_own ?_ | refine' wo (g := .tru) (truth_bl _) ?_ | (refine' wo (g := .own) ?qy ?_; (case qy => (repeat first | exact ao_nil | apply ao_cons)))
    | (refine' atBf ?_; first
      | refine' wo (g := .bf .len) (s_len_map ⟨_, rfl⟩) ?_ | refine' wo (g := .bf .len) (s_len_l ⟨_, rfl⟩) ?_ | refine' wo (g := .bf .len) (s_len_t rfl) ?_
      | refine' wo (g := .bf .all) (s_all_map ⟨_, rfl⟩) ?_
      | refine' wo (g := .bf .max) (s_max_nat _ _) ?_ | refine' wo (g := .bf .min) (s_min_nat _ _) ?_ | refine' wo (g := .bf .max) (s_max_int _ _) ?_ | refine' wo (g := .bf .min) (s_min_int _ _) ?_
      | refine' wo (g := .bf .list) (s_list_l rfl lk_o) ?_ | (refine' wo (g := .bf .list) (s_list_l rfl (lk_v ?qf)) ?_; (case qf => ktr_rel)) | (refine' wo (g := .bf .list) (s_list_t ?qf) ?_; (case qf => ktr_rel)) | refine' wo (g := .bf .tuple) (s_tuple_l rfl lk_o) ?_ | (refine' wo (g := .bf .tuple) (s_tuple_l rfl (lk_v ?qf)) ?_; (case qf => ktr_rel)))
    | (refine' atBin ?_; first
      | refine' wo (g := .bin .add) (s_bin_addN _ _) ?_ | (refine' wo (g := .bin .mul) (s_bin_mulN ?qn ?qm) ?_; (case qn => kwd_rel); (case qm => kwd_rel)) | (refine' wo (g := .bin .mod) (s_bin_modN ?qn) ?_; (case qn => kwd_rel)) | (refine' wo (g := .bin .fdiv) (s_bin_divN ?qn ?qm) ?_; (case qn => kwd_rel); (case qm => kwd_rel)) | (refine' wo (g := .bin .add) (s_bin_addM ?qn) ?_; (case qn => kwd_rel)) | (refine' wo (g := .bin .sub) (s_bin_subN ?qn) ?_; (case qn => kwd_rel)) | refine' wo (g := .bin .add) (s_bin_add _ _) ?_ | refine' wo (g := .bin .sub) (s_bin_sub _ _) ?_)
    | (refine' atSl ?_; first
      | refine' wo (g := .sl) (s_sl_H rfl lk_o) ?_ | refine' wo (g := .sl) (s_sl_L rfl lk_o) ?_ | refine' wo (g := .sl) (s_sl_B rfl lk_o) ?_ | refine' wo (g := .sl) (s_sl_Hn rfl lk_o) ?_ | refine' wo (g := .sl) (s_sl_Ln rfl lk_o) ?_ | refine' wo (g := .sl) (s_sl_0 rfl lk_o) ?_
      | (refine' wo (g := .sl) (s_sl_H rfl (lk_v ?qf)) ?_; (case qf => ktr_rel)) | (refine' wo (g := .sl) (s_sl_L rfl (lk_v ?qf)) ?_; (case qf => ktr_rel)) | (refine' wo (g := .sl) (s_sl_B rfl (lk_v ?qf)) ?_; (case qf => ktr_rel)) | (refine' wo (g := .sl) (s_sl_Hn rfl (lk_v ?qf)) ?_; (case qf => ktr_rel)) | (refine' wo (g := .sl) (s_sl_Ln rfl (lk_v ?qf)) ?_; (case qf => ktr_rel)) | (refine' wo (g := .sl) (s_sl_0 rfl (lk_v ?qf)) ?_; (case qf => ktr_rel)))
    | refine' wo (g := .rv) (rev_l rfl lk_o) ?_ | (refine' wo (g := .rv) (rev_l rfl (lk_v ?qf)) ?_; (case qf => ktr_rel))
    | (refine' wo_isi rfl ?qs ?_; (case qs => (first | exact isT_int_int | exact isT_int_bool | exact isT_int_str | exact isT_int_tuple | exact isT_int_list | exact isT_int_list_tuple | exact isT_tuple_int | exact isT_tuple_bool | exact isT_tuple_str | exact isT_tuple_tuple | exact isT_tuple_list | exact isT_tuple_list_tuple | exact isT_list_int | exact isT_list_bool | exact isT_list_str | exact isT_list_tuple | exact isT_list_list | exact isT_list_list_tuple | exact isT_str_int | exact isT_str_bool | exact isT_str_str | exact isT_str_tuple | exact isT_str_list | exact isT_str_list_tuple | exact isT_bool_int | exact isT_bool_bool | exact isT_bool_str | exact isT_bool_tuple | exact isT_bool_list | exact isT_bool_list_tuple | exact isT_NoneType_int | exact isT_NoneType_bool | exact isT_NoneType_str | exact isT_NoneType_tuple | exact isT_NoneType_list | exact isT_NoneType_list_tuple)))
    | (refine' atIt ?_; first
      | (refine' wo (g := .it .val) (s_it_val ?qf) ?_; (case qf => ktr_rel)) | (refine' wo (g := .it .val) (s_it_tup ?qf) ?_; (case qf => ktr_rel)) | refine' wo (g := .it .enm) s_it_enm ?_
      | (refine' wo (g := .it .rng) (s_it_rng ?qn) ?_; (case qn => kwd_rel)) | (refine' wo (g := .it .rng) (s_it_rng2 ?qn ?qm) ?_; (case qn => kwd_rel); (case qm => kwd_rel)))
    | (refine' wbt_nm ?ql ?qg ?_; (case ql => (first | exact Nat.le_of_ble_eq_true rfl | (simp; done))); (case qg => ((try simp only [outS, backS, List.set_cons_zero, List.set_cons_succ, List.getElem?_cons_zero, List.getElem?_cons_succ, Option.getD_some]) <;> rfl))) | refine' wbt_tp ?_ | refine' wbl_cons ?_ | refine' wbl_nil ?_
    | (refine' wfm_vw ?qf ?_; (case qf => ktr_rel))
    | (refine' wo (g := .lr) (lrg_ok ?qn) ?_; (case qn => kwd_rel)))
  | refine' tr_and rfl ?_
  | (refine' atWL ?_; first | refine' wl_cons ?_ | refine' wl_nil ?_)
  | (refine' atIf ?_; first
    | refine' wif_t rfl ?_ | refine' wif_f rfl ?_
    | (refine' wif_t ?qi ?_; (case qi => (first | assumption | exact decide_eq_true (by first | assumption | omega) | (simp [*]; done))))
    | (refine' wif_f ?qi ?_; (case qi => (first | assumption | exact decide_eq_false (by first | assumption | omega) | (simp [*]; done)))))
  | (refine' atWS ?_; first
    | refine' ws_iff ?_ | refine' ws_frz ?_ | refine' ws_asg ?_ | refine' ws_asl ?_ | refine' ws_exp ?_ | refine' ws_ret ?_ | refine' ws_retN ?_ | refine' ws_frr ?_ | refine' ws_aug_add rfl ?_ | refine' ws_aug_sub rfl ?_ | refine' ws_aug rfl rfl ?_ | refine' ws_brk ?_ | refine' ws_cnt ?_ | refine' ws_pas ?_ | refine' ws_rse ?_ | refine' ws_par ?_)
  | (refine' atWB ?_; first | refine' wb_cons ?_ | refine' wb_nil ?_)
  | (refine' atBd ?_; first | refine' wbd_nm ?_ | refine' wbd_sb rfl ?_ | refine' wbd_tp rfl ?_)
  | (refine' wset ?ql ?qg ?_; (case ql => (first | exact Nat.le_of_ble_eq_true rfl | (simp; done))); (case qg => ((try simp only [outS, backS, List.set_cons_zero, List.set_cons_succ, List.getElem?_cons_zero, List.getElem?_cons_succ, Option.getD_some]) <;> rfl)))
  | (refine' welt ?qz ?qg; (case qg => ((try simp only [outS, backS, List.set_cons_zero, List.set_cons_succ, List.getElem?_cons_zero, List.getElem?_cons_succ, Option.getD_some]) <;> rfl)); (case qz => (first | exact en_fz _ | rfl | (simp [en_fz, en_fzl]; done)))) | (refine' welt_vw ?qf ?qz ?qg; (case qg => ((try simp only [outS, backS, List.set_cons_zero, List.set_cons_succ, List.getElem?_cons_zero, List.getElem?_cons_succ, Option.getD_some]) <;> rfl)); (case qf => ktr_rel); (case qz => (first | exact en_fz _ | rfl | (simp [en_fz, en_fzl]; done))))
  | (refine' wfrz rfl ?qz ?qg ?_; (case qz => (first | exact fz_int _ | exact lo_fz _ | exact lol_fz _ | exact en_fz _ | exact fz_str _ | (simp [en_fz, en_fzl]; rfl) | rfl)); (case qg => ((try simp only [outS, backS, List.set_cons_zero, List.set_cons_succ, List.getElem?_cons_zero, List.getElem?_cons_succ, Option.getD_some]) <;> rfl)))
  | refine' wfil_t rfl ?_ | (refine' wfil_f rfl ?qg; (case qg => ((try simp only [outS, backS, List.set_cons_zero, List.set_cons_succ, List.getElem?_cons_zero, List.getElem?_cons_succ, Option.getD_some]) <;> rfl)))
  | refine' wpar rfl ?_ | (refine' wrf rfl ?qg ?_; (case qg => ((try simp only [outS, backS, List.set_cons_zero, List.set_cons_succ, List.getElem?_cons_zero, List.getElem?_cons_succ, Option.getD_some]) <;> rfl)))
  | refine' wint rfl ?_
  | refine' wnat ?_ | refine' le_and (Nat.le_of_ble_eq_true rfl) ?_ | (refine' le_and ?qn ?_; (case qn => kwd_rel)) | refine' wbds_cons ?_ | refine' wbds_nil ?_
  | (refine' atMut ?_; first
    | (refine' wm_app_map rfl rfl rfl ?qn ?qg ?_; (case qn => kwd_rel); (case qg => ((try simp only [outS, backS, List.set_cons_zero, List.set_cons_succ, List.getElem?_cons_zero, List.getElem?_cons_succ, Option.getD_some]) <;> rfl)))
    | (refine' wm_appO _ rfl rfl ?qn ?qg ?_; (case qn => kwd_rel); (case qg => ((try simp only [outS, backS, List.set_cons_zero, List.set_cons_succ, List.getElem?_cons_zero, List.getElem?_cons_succ, Option.getD_some]) <;> rfl)))
    | (refine' wm_pop_snoc rfl ?qg ?_; (case qg => ((try simp only [outS, backS, List.set_cons_zero, List.set_cons_succ, List.getElem?_cons_zero, List.getElem?_cons_succ, Option.getD_some]) <;> rfl)))
    | (refine' wm_pop_map rfl ?qn ?qg ?_; (case qn => (first | assumption | (simp; done))); (case qg => ((try simp only [outS, backS, List.set_cons_zero, List.set_cons_succ, List.getElem?_cons_zero, List.getElem?_cons_succ, Option.getD_some]) <;> rfl))))
  | (refine' wst_map rfl ?qn rfl ?qg ?_; (case qn => kwd_rel); (case qg => ((try simp only [outS, backS, List.set_cons_zero, List.set_cons_succ, List.getElem?_cons_zero, List.getElem?_cons_succ, Option.getD_some]) <;> rfl)))
  | (refine' wst_en rfl ?qn ?qg ?_; (case qn => kwd_rel); (case qg => ((try simp only [outS, backS, List.set_cons_zero, List.set_cons_succ, List.getElem?_cons_zero, List.getElem?_cons_succ, Option.getD_some]) <;> rfl))))
local macro_rules | `(tactic| tb_start) => `(tactic| repeat tb_rel)
local macro_rules | `(tactic| top_name) => `(tactic| first | exact parB_nil _ _ _ (Nat.le_of_ble_eq_true rfl) | rfl)
local macro_rules | `(tactic| top_args) => `(tactic| first | rfl | exact argOk_nil _ _ (by ktr_rel) | (simp [argOk, en_f, en_fl]; done) | (show argOk _ 0 _ = true; simp [argOk, en_f, en_fl, *]; done))
local macro_rules | `(tactic| kt_len) => `(tactic| repeat (first | exact av_nil | refine' av_lo ?_ | (refine' av_own ?qf ?_; (case qf => ktr_rel)) | (refine' av_vw ?qz ?_; (case qz => (first | rfl | (simp [en_fz, en_fzl]; rfl)))) | (refine' av_any ?qz ?_; (case qz => (first | rfl | (simp [en_fz, en_fzl]; rfl))))))
local macro_rules | `(tactic| kt_eqs) => `(tactic| ((try simp only [outS, backS, List.set_cons_zero, List.set_cons_succ, List.getElem?_cons_zero, List.getElem?_cons_succ, Option.getD_some]) <;> rfl))
local macro_rules | `(tactic| top_raise) => `(tactic| first | (refine' wo (g := .ix) (s_ix_Tn ?qn) ?_; (case qn => kwd_rel)) | (refine' wo (g := .ix) (s_ix_On ?qn) ?_; (case qn => kwd_rel)))
variable {p : Pg}
theorem cell_at_ok (u : U__law_cell_at p) {n : Nat} (s : List Int) (k : Nat) : Call p (n + 1) "_law_cell_at" [ls s, .int k] (fun t _ => ∃ c : Int, t = .int c) noX := by
  refine o__law_cell_at u ?_
  tb_start
  refine wif_d (fun h => ?_) (fun h => ?_)
  · tb_start
    exact ⟨_, rfl⟩
  · tb_start
    exact ⟨_, rfl⟩
theorem bag_v1_ok (u : U__law_bag_v1 p) {n : Nat} (c : Int) (k : Nat) (hk : k < 100) : Call p (n + 1) "_law_bag" [.int c, .int k] (fun t _ => Bag 0 t) noX := by
  obtain ⟨st, hf⟩ := u.s
  refine Call.ofEq (t := .lst true [.int (if c - 10 ^ 18 > 0 then c - 10 ^ 18 else 0), .int (c % 162259276829213363391578010288127 + 7919 * (k + 1)), .int 0]) (us := [.int c, .int k]) ?_ ⟨_, _, _, rfl, ?_, ?_, by decide, by decide⟩
  · rw [phi_def hf]
    have e1 : binop .pow (.own (.int 10)) (.own (.int 18)) = some (.own (.int (10 ^ 18))) := rfl
    have e2 : binop .mul (.own (.int 7919)) (.own (.int ((k : Int) + 1))) = some (.own (.int (7919 * ((k : Int) + 1)))) := mul_ok (by decide) (by omega)
    have e3 : binop .mod (.own (.int c)) (.own (.int 162259276829213363391578010288127)) = some (.own (.int (c % 162259276829213363391578010288127))) := bin_mod _ _ (by decide)
    simp [callB, Df.of, c__law_bag_v1, initG, argOk, parB, evalSs, evalS, evalE, evalL, quiet, quietL, e1, e2, e3, allOwn, sizeLine_eq]
  · have := Int.emod_nonneg c (b := 162259276829213363391578010288127) (by decide)
    omega
  · have := Int.emod_lt_of_pos c (b := 162259276829213363391578010288127) (by decide)
    omega
theorem bag_v2_ok (u : U__law_bag_v2 p) {n : Nat} (c : Int) (k : Nat) (hk : k < 100) : Call p (n + 1) "_law_bag" [.int c, .int k] (fun t _ => Bag 0 t) noX := by
  obtain ⟨st, hf⟩ := u.s
  refine Call.ofEq (t := .lst true [.int (if c - 10 ^ 18 > 0 then c - 10 ^ 18 else 0), .int (c % 162259276829213363391578010288127 + 7057 * (k + 1)), .int 0]) (us := [.int c, .int k]) ?_ ⟨_, _, _, rfl, ?_, ?_, by decide, by decide⟩
  · rw [phi_def hf]
    have e1 : binop .pow (.own (.int 10)) (.own (.int 18)) = some (.own (.int (10 ^ 18))) := rfl
    have e2 : binop .mul (.own (.int 7057)) (.own (.int ((k : Int) + 1))) = some (.own (.int (7057 * ((k : Int) + 1)))) := mul_ok (by decide) (by omega)
    have e3 : binop .mod (.own (.int c)) (.own (.int 162259276829213363391578010288127)) = some (.own (.int (c % 162259276829213363391578010288127))) := bin_mod _ _ (by decide)
    simp [callB, Df.of, c__law_bag_v2, initG, argOk, parB, evalSs, evalS, evalE, evalL, quiet, quietL, e1, e2, e3, allOwn, sizeLine_eq]
  · have := Int.emod_nonneg c (b := 162259276829213363391578010288127) (by decide)
    omega
  · have := Int.emod_lt_of_pos c (b := 162259276829213363391578010288127) (by decide)
    omega
theorem bag_v3_ok (u : U__law_bag_v3 p) {n : Nat} (c : Int) : Call p (n + 1) "_law_bag" [.int c] (fun t _ => Bag 0 t) noX := by
  obtain ⟨st, hf⟩ := u.s
  refine Call.ofEq (t := .lst true [.int (if c - 10 ^ 18 > 1 then c - 10 ^ 18 else 1), .int (c % (10 ^ 40 + 121)), .int 0]) (us := [.int c]) ?_ ⟨_, _, _, rfl, ?_, ?_, by decide, by decide⟩
  · rw [phi_def hf]
    have e1 : binop .pow (.own (.int 10)) (.own (.int 18)) = some (.own (.int (10 ^ 18))) := rfl
    have e2 : binop .pow (.own (.int 10)) (.own (.int 40)) = some (.own (.int (10 ^ 40))) := rfl
    have e3 : binop .mod (.own (.int c)) (.own (.int (10 ^ 40 + 121))) = some (.own (.int (c % (10 ^ 40 + 121)))) := bin_mod _ _ (by decide)
    have e3' : binop .mod (.own (.int c)) (.own (.int 10000000000000000000000000000000000000121)) = some (.own (.int (c % 10000000000000000000000000000000000000121))) := bin_mod _ _ (by decide)
    simp [callB, Df.of, c__law_bag_v3, initG, argOk, parB, evalSs, evalS, evalE, evalL, quiet, quietL, e1, e2, e3, e3', allOwn, sizeLine_eq]
  · have := Int.emod_nonneg c (b := (10 ^ 40 + 121)) (by decide)
    omega
  · have := Int.emod_lt_of_pos c (b := (10 ^ 40 + 121)) (by decide)
    omega
theorem take_v1_ok (u : U__law_take_v1 p) {n N : Nat} {t : T} (ht : Bag N t) {m : Nat} (hm : 0 < m) (hN : N < 2 ^ 90 := by omega) (hm2 : m < 2 ^ 100 := by omega) :
    Call p (n + 1) "_law_take" [t, .int m] (fun v us => ∃ (x : Nat) (t' : T), x < m ∧ Bag (N + 1) t' ∧ v = .int x ∧ us = [t', .int m]) noX := by
  obtain ⟨a, b, c, rfl, hb0, hb, hc0, hc⟩ := ht
  obtain ⟨st, hf⟩ := u.s
  have hmi : (0 : Int) < m := by omega
  have nn : ∀ x : Int, 0 ≤ x % (m : Int) := fun x => Int.emod_nonneg _ (by omega)
  have ll : ∀ x : Int, x % (m : Int) < m := fun x => Int.emod_lt_of_pos _ hmi
  have cast : ∀ x : Int, ((x % (m : Int)).toNat : Int) = x % m := fun x => by have := nn x; omega
  by_cases ha : 1 < a
  · refine Call.ofEq (t := .int (a % (m : Int))) (us := [.lst true [.int (a / m), .int b, .int c], .int m]) ?_ ⟨(a % (m : Int)).toNat, _, by have := ll a; have := nn a; omega, ⟨_, _, _, rfl, hb0, hb, hc0, by omega⟩, by rw [cast], rfl⟩
    rw [phi_def hf]
    have e1 : binop .mod (.own (.int a)) (.own (.int m)) = some (.own (.int (a % m))) := bin_mod _ _ hmi
    have e2 : binop .fdiv (.own (.int a)) (.own (.int m)) = some (.own (.int (a / m))) := div_ok hmi (by omega)
    simp [callB, Df.of, c__law_take_v1, initG, argOk, parB, evalSs, evalS, evalE, evalL, quiet, quietL, bindS, ha, e1, e2]
  · have hc1 : (1299709 * (c + 1)).natAbs < 2 ^ 150 := by omega
    have hc2 : (15485863 * (c + 1)).natAbs < 2 ^ 150 := by omega
    let x := (b + 1299709 * (c + 1)) ^ 3 % 162259276829213363391578010288127
    have hx0 : 0 ≤ x := Int.emod_nonneg _ (by decide)
    have hx1 : x < 162259276829213363391578010288127 := Int.emod_lt_of_pos _ (by decide)
    let y := (x + 15485863 * (c + 1)) ^ 5 % 618970019642690137449562111
    refine Call.ofEq (t := .int (y / 1048576 % (m : Int))) (us := [.lst true [.int a, .int b, .int (c + 1)], .int m]) ?_ ⟨(y / 1048576 % (m : Int)).toNat, _, by have := ll (y / 1048576); have := nn (y / 1048576); omega, ⟨_, _, _, rfl, hb0, hb, by omega, by omega⟩, by rw [cast], rfl⟩
    rw [phi_def hf]
    have e1 : binop .mul (.own (.int 1299709)) (.own (.int (c + 1))) = some (.own (.int (1299709 * (c + 1)))) := mul_ok (by first | decide | omega) (by first | decide | omega)
    have e2 : binop .mul (.own (.int 15485863)) (.own (.int (c + 1))) = some (.own (.int (15485863 * (c + 1)))) := mul_ok (by first | decide | omega) (by first | decide | omega)
    have e3 : binop .pow (.own (.int (b + 1299709 * (c + 1)))) (.own (.int 3)) = some (.own (.int ((b + 1299709 * (c + 1)) ^ 3))) := pow_ok (j := 3) (by omega) (by decide)
    have e4 : binop .mod (.own (.int ((b + 1299709 * (c + 1)) ^ 3))) (.own (.int (162259276829213363391578010288127))) = some (.own (.int x)) := bin_mod _ _ (by decide)
    have e5 : binop .pow (.own (.int (x + 15485863 * (c + 1)))) (.own (.int 5)) = some (.own (.int ((x + 15485863 * (c + 1)) ^ 5))) := pow_ok (j := 5) (by omega) (by decide)
    have e6 : binop .mod (.own (.int ((x + 15485863 * (c + 1)) ^ 5))) (.own (.int (618970019642690137449562111))) = some (.own (.int y)) := bin_mod _ _ (by decide)
    have e7 : binop .fdiv (.own (.int y)) (.own (.int 1048576)) = some (.own (.int (y / 1048576))) := div_ok (by decide) (by decide)
    have e8 : binop .mod (.own (.int (y / 1048576))) (.own (.int m)) = some (.own (.int (y / 1048576 % m))) := bin_mod _ _ hmi
    generalize x = x at *
    generalize y = y at *
    simp [callB, Df.of, c__law_take_v1, initG, argOk, parB, evalSs, evalS, evalE, evalL, quiet, quietL, bindS, ha, e1, e2, e3, e4, e5, e6, e7, e8]
theorem take_v3_ok (u : U__law_take_v3 p) {n N : Nat} {t : T} (ht : Bag N t) {m : Nat} (hm : 0 < m) (hN : N < 2 ^ 90 := by omega) (hm2 : m < 2 ^ 100 := by omega) :
    Call p (n + 1) "_law_take" [t, .int m] (fun v us => ∃ (x : Nat) (t' : T), x < m ∧ Bag (N + 1) t' ∧ v = .int x ∧ us = [t', .int m]) noX := by
  obtain ⟨a, b, c, rfl, hb0, hb, hc0, hc⟩ := ht
  obtain ⟨st, hf⟩ := u.s
  have hmi : (0 : Int) < m := by omega
  have nn : ∀ x : Int, 0 ≤ x % (m : Int) := fun x => Int.emod_nonneg _ (by omega)
  have ll : ∀ x : Int, x % (m : Int) < m := fun x => Int.emod_lt_of_pos _ hmi
  have cast : ∀ x : Int, ((x % (m : Int)).toNat : Int) = x % m := fun x => by have := nn x; omega
  by_cases ha : 1 < a
  · refine Call.ofEq (t := .int (a % (m : Int))) (us := [.lst true [.int (a / m), .int b, .int c], .int m]) ?_ ⟨(a % (m : Int)).toNat, _, by have := ll a; have := nn a; omega, ⟨_, _, _, rfl, hb0, hb, hc0, by omega⟩, by rw [cast], rfl⟩
    rw [phi_def hf]
    have e1 : binop .mod (.own (.int a)) (.own (.int m)) = some (.own (.int (a % m))) := bin_mod _ _ hmi
    have e2 : binop .fdiv (.own (.int a)) (.own (.int m)) = some (.own (.int (a / m))) := div_ok hmi (by omega)
    simp [callB, Df.of, c__law_take_v3, initG, argOk, parB, evalSs, evalS, evalE, evalL, quiet, quietL, bindS, ha, e1, e2]
  · have hc1 : (1300021 * (c + 1)).natAbs < 2 ^ 150 := by omega
    have hc2 : (15486041 * (c + 1)).natAbs < 2 ^ 150 := by omega
    let x := (b + 1300021 * (c + 1)) ^ 3 % 162259276829213363391578010288127
    have hx0 : 0 ≤ x := Int.emod_nonneg _ (by decide)
    have hx1 : x < 162259276829213363391578010288127 := Int.emod_lt_of_pos _ (by decide)
    let y := (x + 15486041 * (c + 1)) ^ 5 % 618970019642690137449562111
    refine Call.ofEq (t := .int (y / 1048576 % (m : Int))) (us := [.lst true [.int a, .int b, .int (c + 1)], .int m]) ?_ ⟨(y / 1048576 % (m : Int)).toNat, _, by have := ll (y / 1048576); have := nn (y / 1048576); omega, ⟨_, _, _, rfl, hb0, hb, by omega, by omega⟩, by rw [cast], rfl⟩
    rw [phi_def hf]
    have e1 : binop .mul (.own (.int 1300021)) (.own (.int (c + 1))) = some (.own (.int (1300021 * (c + 1)))) := mul_ok (by first | decide | omega) (by first | decide | omega)
    have e2 : binop .mul (.own (.int 15486041)) (.own (.int (c + 1))) = some (.own (.int (15486041 * (c + 1)))) := mul_ok (by first | decide | omega) (by first | decide | omega)
    have e3 : binop .pow (.own (.int (b + 1300021 * (c + 1)))) (.own (.int 3)) = some (.own (.int ((b + 1300021 * (c + 1)) ^ 3))) := pow_ok (j := 3) (by omega) (by decide)
    have e4 : binop .mod (.own (.int ((b + 1300021 * (c + 1)) ^ 3))) (.own (.int (162259276829213363391578010288127))) = some (.own (.int x)) := bin_mod _ _ (by decide)
    have e5 : binop .pow (.own (.int (x + 15486041 * (c + 1)))) (.own (.int 5)) = some (.own (.int ((x + 15486041 * (c + 1)) ^ 5))) := pow_ok (j := 5) (by omega) (by decide)
    have e6 : binop .mod (.own (.int ((x + 15486041 * (c + 1)) ^ 5))) (.own (.int (618970019642690137449562111))) = some (.own (.int y)) := bin_mod _ _ (by decide)
    have e7 : binop .fdiv (.own (.int y)) (.own (.int 1048576)) = some (.own (.int (y / 1048576))) := div_ok (by decide) (by decide)
    have e8 : binop .mod (.own (.int (y / 1048576))) (.own (.int m)) = some (.own (.int (y / 1048576 % m))) := bin_mod _ _ hmi
    generalize x = x at *
    generalize y = y at *
    simp [callB, Df.of, c__law_take_v3, initG, argOk, parB, evalSs, evalS, evalE, evalL, quiet, quietL, bindS, ha, e1, e2, e3, e4, e5, e6, e7, e8]
end QX


set_option Elab.async false
set_option linter.all false
set_option maxRecDepth 100000
set_option maxHeartbeats 2000000
namespace QX
open PySem
/-! short words for the steps -/
local macro_rules | `(tactic| ktr_rel) => `(tactic| first | rfl | exact en_f _ | exact en_fl _ | assumption | (simp [en_f, en_fl]; done))
local macro_rules | `(tactic| kwd_rel) => `(tactic| first | assumption | omega | (simp only [List.length_append, List.length_map, List.length_cons, List.length_nil, List.length_replicate, List.length_range, List.length_dropLast, List.length_set] at *; omega))
local macro_rules | `(tactic| tb_rel) => `(tactic| first
  | (refine' atWE ?_; first
    | (refine' we_var_lt rfl ?_) | (refine' we_var rfl ?qf ?_; (case qf => ktr_rel)) | (refine' we_var_vw rfl rfl ?_)
    | refine' we_intL ?_ | refine' we_int ?_ | refine' we_str ?_ | refine' we_ix ?_ | refine' we_cmp ?_ | refine' we_bin ?_ | refine' we_cal ?_ | refine' we_bfn ?_ | refine' we_tup ?_ | refine' we_lst ?_ | refine' we_not ?_ | refine' we_isi ?_
    | refine' we_bl ?_ | refine' we_non ?_
    | (refine' we_mov rfl ?qg ?_; (case qg => ((try simp only [outS, backS, List.set_cons_zero, List.set_cons_succ, List.getElem?_cons_zero, List.getElem?_cons_succ, Option.getD_some]) <;> rfl))) | (refine' we_shr rfl ?qz ?qg ?_; (case qz => (first | exact fz_int _ | exact lo_fz _ | exact lol_fz _ | exact en_fz _ | exact fz_str _ | (simp [en_fz, en_fzl]; rfl) | rfl)); (case qg => ((try simp only [outS, backS, List.set_cons_zero, List.set_cons_succ, List.getElem?_cons_zero, List.getElem?_cons_succ, Option.getD_some]) <;> rfl))) | refine' we_ref rfl ?_
    | refine' we_and ?_ | refine' we_and1 ?_ | refine' we_or ?_ | refine' we_or1 ?_ | refine' we_clk ?_
    | refine' we_negL ?_ | refine' we_neg1 ?_ | refine' we_neg ?_ | refine' we_ite ?_ | refine' we_chn ?_
    | refine' we_isN ?_ | refine' we_noN ?_ | refine' we_isB ?_ | refine' we_noB ?_ | refine' we_sl0 ?_ | refine' we_slL ?_ | refine' we_slH ?_ | refine' we_slB ?_ | refine' we_rev ?_ | refine' we_lrg ?_ | refine' we_met ?_ | refine' we_lc ?_ | refine' we_mut rfl ?_)
  | (refine' atWO ?_; first
    | (refine' atCmp ?_; first
      | refine' wo (g := .cmp .lt) (s_cmp_ltN _ _) ?_ | refine' wo (g := .cmp .le) (s_cmp_leN _ _) ?_ | refine' wo (g := .cmp .gt) (s_cmp_gtN _ _) ?_ | refine' wo (g := .cmp .ge) (s_cmp_geN _ _) ?_
      | refine' wo (g := .cmp .lt) (s_cmp_lt _ _) ?_ | refine' wo (g := .cmp .le) (s_cmp_le _ _) ?_ | refine' wo (g := .cmp .gt) (s_cmp_gt _ _) ?_ | refine' wo (g := .cmp .ge) (s_cmp_ge _ _) ?_
      | (refine' wo_eq rfl rfl ?qe ?_; (case qe => (first | exact eq_nat _ _ | exact eqS_t _ (by decide +kernel) | exact eqS_f _ _ (by decide +kernel) (by decide +kernel) (by decide +kernel) | assumption | exact eq_int _ _ | exact eq_bl _ _ | exact eq_non))) | (refine' wo_ne rfl rfl ?qe ?_; (case qe => (first | exact eq_nat _ _ | exact eqS_t _ (by decide +kernel) | exact eqS_f _ _ (by decide +kernel) (by decide +kernel) (by decide +kernel) | assumption | exact eq_int _ _ | exact eq_bl _ _ | exact eq_non))))
    | (refine' atIx ?_; first
      | (refine' wo (g := .ix) (s_ix_mapO ?qn) ?_; (case qn => kwd_rel)) | (refine' wo (g := .ix) (s_ix_mapV ?qn ?qf) ?_; (case qn => kwd_rel); (case qf => ktr_rel))
      | refine' wo (g := .ix) (s_ix_O at_snoc) ?_ | (refine' wo (g := .ix) (s_ix_V at_snoc ?qf) ?_; (case qf => ktr_rel))
      | (refine' wo (g := .ix) (s_ix_O (at_last ?qn)) ?_; (case qn => (first | assumption | (simp; done)))) | (refine' wo (g := .ix) (s_ix_V (at_last ?qn) ?qf) ?_; (case qn => (first | assumption | (simp; done))); (case qf => ktr_rel))
      | refine' wo (g := .ix) (s_ix_T rfl) ?_ | refine' wo (g := .ix) (s_ix_O rfl) ?_ | (refine' wo (g := .ix) (s_ix_V rfl ?qf) ?_; (case qf => ktr_rel)))
    | refine' wo (g := .isn) (u := _) rfl ?_ | refine' wo (g := .neg) (u := _) rfl ?_ | refine' wo (g := .blo) (u := _) rfl ?_
    | refine' wfm_own ?_ | refine' wo (g := .tru) (truth_bl _) ?_ | (refine' wo (g := .own) ?qy ?_; (case qy => (repeat first | exact ao_nil | apply ao_cons)))
    | (refine' atBf ?_; first
      | refine' wo (g := .bf .len) (s_len_map ⟨_, rfl⟩) ?_ | refine' wo (g := .bf .len) (s_len_l ⟨_, rfl⟩) ?_ | refine' wo (g := .bf .len) (s_len_t rfl) ?_
      | refine' wo (g := .bf .all) (s_all_map ⟨_, rfl⟩) ?_
      | refine' wo (g := .bf .max) (s_max_nat _ _) ?_ | refine' wo (g := .bf .min) (s_min_nat _ _) ?_ | refine' wo (g := .bf .max) (s_max_int _ _) ?_ | refine' wo (g := .bf .min) (s_min_int _ _) ?_
      | refine' wo (g := .bf .list) (s_list_l rfl lk_o) ?_ | (refine' wo (g := .bf .list) (s_list_l rfl (lk_v ?qf)) ?_; (case qf => ktr_rel)) | (refine' wo (g := .bf .list) (s_list_t ?qf) ?_; (case qf => ktr_rel)) | refine' wo (g := .bf .tuple) (s_tuple_l rfl lk_o) ?_ | (refine' wo (g := .bf .tuple) (s_tuple_l rfl (lk_v ?qf)) ?_; (case qf => ktr_rel)))
    | (refine' atBin ?_; first
      | refine' wo (g := .bin .add) (s_bin_addN _ _) ?_ | (refine' wo (g := .bin .mul) (s_bin_mulN ?qn ?qm) ?_; (case qn => kwd_rel); (case qm => kwd_rel)) | (refine' wo (g := .bin .mod) (s_bin_modN ?qn) ?_; (case qn => kwd_rel)) | (refine' wo (g := .bin .fdiv) (s_bin_divN ?qn ?qm) ?_; (case qn => kwd_rel); (case qm => kwd_rel)) | (refine' wo (g := .bin .add) (s_bin_addM ?qn) ?_; (case qn => kwd_rel)) | (refine' wo (g := .bin .sub) (s_bin_subN ?qn) ?_; (case qn => kwd_rel)) | refine' wo (g := .bin .add) (s_bin_add _ _) ?_ | refine' wo (g := .bin .sub) (s_bin_sub _ _) ?_)
    | (refine' atSl ?_; first
      | refine' wo (g := .sl) (s_sl_H rfl lk_o) ?_ | refine' wo (g := .sl) (s_sl_L rfl lk_o) ?_ | refine' wo (g := .sl) (s_sl_B rfl lk_o) ?_ | refine' wo (g := .sl) (s_sl_Hn rfl lk_o) ?_ | refine' wo (g := .sl) (s_sl_Ln rfl lk_o) ?_ | refine' wo (g := .sl) (s_sl_0 rfl lk_o) ?_
      | (refine' wo (g := .sl) (s_sl_H rfl (lk_v ?qf)) ?_; (case qf => ktr_rel)) | (refine' wo (g := .sl) (s_sl_L rfl (lk_v ?qf)) ?_; (case qf => ktr_rel)) | (refine' wo (g := .sl) (s_sl_B rfl (lk_v ?qf)) ?_; (case qf => ktr_rel)) | (refine' wo (g := .sl) (s_sl_Hn rfl (lk_v ?qf)) ?_; (case qf => ktr_rel)) | (refine' wo (g := .sl) (s_sl_Ln rfl (lk_v ?qf)) ?_; (case qf => ktr_rel)) | (refine' wo (g := .sl) (s_sl_0 rfl (lk_v ?qf)) ?_; (case qf => ktr_rel)))
    | refine' wo (g := .rv) (rev_l rfl lk_o) ?_ | (refine' wo (g := .rv) (rev_l rfl (lk_v ?qf)) ?_; (case qf => ktr_rel))
    | (refine' wo_isi rfl ?qs ?_; (case qs => (first | exact isT_int_int | exact isT_int_bool | exact isT_int_str | exact isT_int_tuple | exact isT_int_list | exact isT_int_list_tuple | exact isT_tuple_int | exact isT_tuple_bool | exact isT_tuple_str | exact isT_tuple_tuple | exact isT_tuple_list | exact isT_tuple_list_tuple | exact isT_list_int | exact isT_list_bool | exact isT_list_str | exact isT_list_tuple | exact isT_list_list | exact isT_list_list_tuple | exact isT_str_int | exact isT_str_bool | exact isT_str_str | exact isT_str_tuple | exact isT_str_list | exact isT_str_list_tuple | exact isT_bool_int | exact isT_bool_bool | exact isT_bool_str | exact isT_bool_tuple | exact isT_bool_list | exact isT_bool_list_tuple | exact isT_NoneType_int | exact isT_NoneType_bool | exact isT_NoneType_str | exact isT_NoneType_tuple | exact isT_NoneType_list | exact isT_NoneType_list_tuple)))
    | (refine' atIt ?_; first
      | (refine' wo (g := .it .val) (s_it_val ?qf) ?_; (case qf => ktr_rel)) | (refine' wo (g := .it .val) (s_it_tup ?qf) ?_; (case qf => ktr_rel)) | refine' wo (g := .it .enm) s_it_enm ?_
      | (refine' wo (g := .it .rng) (s_it_rng ?qn) ?_; (case qn => kwd_rel)) | (refine' wo (g := .it .rng) (s_it_rng2 ?qn ?qm) ?_; (case qn => kwd_rel); (case qm => kwd_rel)))
    | (refine' wbt_nm ?ql ?qg ?_; (case ql => (first | exact Nat.le_of_ble_eq_true rfl | (simp; done))); (case qg => ((try simp only [outS, backS, List.set_cons_zero, List.set_cons_succ, List.getElem?_cons_zero, List.getElem?_cons_succ, Option.getD_some]) <;> rfl))) | refine' wbt_tp ?_ | refine' wbl_cons ?_ | refine' wbl_nil ?_
    | (refine' wfm_vw ?qf ?_; (case qf => ktr_rel))
    | (refine' wo (g := .lr) (lrg_ok ?qn) ?_; (case qn => kwd_rel)))
  | refine' tr_and rfl ?_
  | (refine' atWL ?_; first | refine' wl_cons ?_ | refine' wl_nil ?_)
  | (refine' atIf ?_; first
    | refine' wif_t rfl ?_ | refine' wif_f rfl ?_
    | (refine' wif_t ?qi ?_; (case qi => (first | assumption | exact decide_eq_true (by first | assumption | omega) | (simp [*]; done))))
    | (refine' wif_f ?qi ?_; (case qi => (first | assumption | exact decide_eq_false (by first | assumption | omega) | (simp [*]; done)))))
  | (refine' atWS ?_; first
    | refine' ws_iff ?_ | refine' ws_frz ?_ | refine' ws_asg ?_ | refine' ws_asl ?_ | refine' ws_exp ?_ | refine' ws_ret ?_ | refine' ws_retN ?_ | refine' ws_frr ?_ | refine' ws_aug_add rfl ?_ | refine' ws_aug_sub rfl ?_ | refine' ws_aug rfl rfl ?_ | refine' ws_brk ?_ | refine' ws_cnt ?_ | refine' ws_pas ?_ | refine' ws_rse ?_ | refine' ws_par ?_)
  | (refine' atWB ?_; first | refine' wb_cons ?_ | refine' wb_nil ?_)
  | (refine' atBd ?_; first | refine' wbd_nm ?_ | refine' wbd_sb rfl ?_ | refine' wbd_tp rfl ?_)
  | (refine' wset ?ql ?qg ?_; (case ql => (first | exact Nat.le_of_ble_eq_true rfl | (simp; done))); (case qg => ((try simp only [outS, backS, List.set_cons_zero, List.set_cons_succ, List.getElem?_cons_zero, List.getElem?_cons_succ, Option.getD_some]) <;> rfl)))
  | (refine' welt ?qz ?qg; (case qg => ((try simp only [outS, backS, List.set_cons_zero, List.set_cons_succ, List.getElem?_cons_zero, List.getElem?_cons_succ, Option.getD_some]) <;> rfl)); (case qz => (first | exact en_fz _ | rfl | (simp [en_fz, en_fzl]; done)))) | (refine' welt_vw ?qf ?qz ?qg; (case qg => ((try simp only [outS, backS, List.set_cons_zero, List.set_cons_succ, List.getElem?_cons_zero, List.getElem?_cons_succ, Option.getD_some]) <;> rfl)); (case qf => ktr_rel); (case qz => (first | exact en_fz _ | rfl | (simp [en_fz, en_fzl]; done))))
  | (refine' wfrz rfl ?qz ?qg ?_; (case qz => (first | exact fz_int _ | exact lo_fz _ | exact lol_fz _ | exact en_fz _ | exact fz_str _ | (simp [en_fz, en_fzl]; rfl) | rfl)); (case qg => ((try simp only [outS, backS, List.set_cons_zero, List.set_cons_succ, List.getElem?_cons_zero, List.getElem?_cons_succ, Option.getD_some]) <;> rfl)))
  | refine' wfil_t rfl ?_ | (refine' wfil_f rfl ?qg; (case qg => ((try simp only [outS, backS, List.set_cons_zero, List.set_cons_succ, List.getElem?_cons_zero, List.getElem?_cons_succ, Option.getD_some]) <;> rfl)))
  | refine' wpar rfl ?_ | (refine' wrf rfl ?qg ?_; (case qg => ((try simp only [outS, backS, List.set_cons_zero, List.set_cons_succ, List.getElem?_cons_zero, List.getElem?_cons_succ, Option.getD_some]) <;> rfl)))
  | refine' wint rfl ?_
  | refine' wnat ?_ | refine' le_and (Nat.le_of_ble_eq_true rfl) ?_ | (refine' le_and ?qn ?_; (case qn => kwd_rel)) | refine' wbds_cons ?_ | refine' wbds_nil ?_
  | (refine' atMut ?_; first
    | (refine' wm_app_map rfl rfl rfl ?qn ?qg ?_; (case qn => kwd_rel); (case qg => ((try simp only [outS, backS, List.set_cons_zero, List.set_cons_succ, List.getElem?_cons_zero, List.getElem?_cons_succ, Option.getD_some]) <;> rfl)))
    | (refine' wm_appO _ rfl rfl ?qn ?qg ?_; (case qn => kwd_rel); (case qg => ((try simp only [outS, backS, List.set_cons_zero, List.set_cons_succ, List.getElem?_cons_zero, List.getElem?_cons_succ, Option.getD_some]) <;> rfl)))
    | (refine' wm_pop_snoc rfl ?qg ?_; (case qg => ((try simp only [outS, backS, List.set_cons_zero, List.set_cons_succ, List.getElem?_cons_zero, List.getElem?_cons_succ, Option.getD_some]) <;> rfl)))
    | (refine' wm_pop_map rfl ?qn ?qg ?_; (case qn => (first | assumption | (simp; done))); (case qg => ((try simp only [outS, backS, List.set_cons_zero, List.set_cons_succ, List.getElem?_cons_zero, List.getElem?_cons_succ, Option.getD_some]) <;> rfl))))
  | (refine' wst_map rfl ?qn rfl ?qg ?_; (case qn => kwd_rel); (case qg => ((try simp only [outS, backS, List.set_cons_zero, List.set_cons_succ, List.getElem?_cons_zero, List.getElem?_cons_succ, Option.getD_some]) <;> rfl)))
  | (refine' wst_en rfl ?qn ?qg ?_; (case qn => kwd_rel); (case qg => ((try simp only [outS, backS, List.set_cons_zero, List.set_cons_succ, List.getElem?_cons_zero, List.getElem?_cons_succ, Option.getD_some]) <;> rfl))))
local macro_rules | `(tactic| tb_start) => `(tactic| repeat tb_rel)
local macro_rules | `(tactic| top_name) => `(tactic| first | exact parB_nil _ _ _ (Nat.le_of_ble_eq_true rfl) | rfl)
local macro_rules | `(tactic| top_args) => `(tactic| first | rfl | exact argOk_nil _ _ (by ktr_rel) | (simp [argOk, en_f, en_fl]; done) | (show argOk _ 0 _ = true; simp [argOk, en_f, en_fl, *]; done))
local macro_rules | `(tactic| kt_len) => `(tactic| repeat (first | exact av_nil | refine' av_lo ?_ | (refine' av_own ?qf ?_; (case qf => ktr_rel)) | (refine' av_vw ?qz ?_; (case qz => (first | rfl | (simp [en_fz, en_fzl]; rfl)))) | (refine' av_any ?qz ?_; (case qz => (first | rfl | (simp [en_fz, en_fzl]; rfl))))))
local macro_rules | `(tactic| kt_eqs) => `(tactic| ((try simp only [outS, backS, List.set_cons_zero, List.set_cons_succ, List.getElem?_cons_zero, List.getElem?_cons_succ, Option.getD_some]) <;> rfl))
local macro_rules | `(tactic| top_raise) => `(tactic| first | (refine' wo (g := .ix) (s_ix_Tn ?qn) ?_; (case qn => kwd_rel)) | (refine' wo (g := .ix) (s_ix_On ?qn) ?_; (case qn => kwd_rel)))
mutual
/-- given away, of at most that depth, no dict -/
def smT : Nat → T → Bool
  | _, .non => true
  | _, .bl _ => true
  | _, .int _ => true
  | _, .str x => PyData.strOk x
  | n, .tup ts => decide (0 < n) && decide (ts.length ≤ 16777216) && smL (n - 1) ts
  | n, .lst o ts => !o && decide (0 < n) && decide (ts.length ≤ 16777216) && smL (n - 1) ts
  | _, _ => false
def smL : Nat → List T → Bool
  | _, [] => true
  | n, t :: ts => smT n t && smL n ts
end
theorem smL_all (n : Nat) : ∀ ts : List T, smL n ts = ts.all (smT n)
  | [] => by rw [smL]; rfl
  | t :: ts => by rw [smL, smL_all n ts]; rfl
mutual
theorem sm_f : ∀ {t : T} {n : Nat}, smT n t = true → t.isF = true
  | .non, _, _ => rfl
  | .bl _, _, _ => rfl
  | .int _, _, _ => rfl
  | .str _, _, _ => rfl
  | .tup ts, n, h => by
    simp only [smT, Bool.and_eq_true] at h
    exact sm_fl (ts := ts) h.2
  | .lst o ts, n, h => by
    simp only [smT, Bool.and_eq_true, Bool.not_eq_true'] at h
    rw [T.isF, h.1.1.1, sm_fl (ts := ts) h.2]; rfl
  | .dK _ _ _, _, h => by simp [smT] at h
  | .dT _ _ _, _, h => by simp [smT] at h
  | .opq _, _, h => by simp [smT] at h
theorem sm_fl : ∀ {ts : List T} {n : Nat}, smL n ts = true → isFL ts = true
  | [], _, _ => rfl
  | t :: ts, n, h => by
    simp only [smL, Bool.and_eq_true] at h
    rw [isFL, sm_f h.1, sm_fl h.2]; rfl
end
theorem sm_ls {α : Type} [Enc α] {d : Nat} {l : List α} (h : ∀ a ∈ l, smT d (en a) = true) (hl : l.length ≤ 16777216) : smT (d + 1) (ls l) = true := by
  simp only [smT, smL_all, List.length_map, Bool.and_eq_true, decide_eq_true_eq, List.all_map, List.all_eq_true, Function.comp, Nat.add_sub_cancel]
  exact ⟨⟨⟨rfl, by omega⟩, hl⟩, h⟩
theorem sm_opt {α : Type} [Enc α] {d : Nat} (o : Option α) (h : ∀ a, o = some a → smT d (en a) = true) : smT d (en o) = true := by
  cases o with
  | none => show smT d .non = true; rw [smT]
  | some a => exact h a rfl
theorem sm_pair {α β : Type} [Enc α] [Enc β] {d : Nat} (q : α × β) (h1 : smT d (en q.1) = true) (h2 : smT d (en q.2) = true) : smT (d + 1) (en q) = true := by
  show smT (d + 1) (.tup [en q.1, en q.2]) = true
  simp [smT, smL, h1, h2]
theorem sm_nat (d : Nat) (n : Nat) : smT d (en n) = true := by show smT d (.int n) = true; rw [smT]
theorem sm_int (d : Nat) (n : Int) : smT d (en n) = true := by show smT d (.int n) = true; rw [smT]
theorem sm_bool (d : Nat) (b : Bool) : smT d (en b) = true := by show smT d (.bl b) = true; rw [smT]
variable {p : Pg}
theorem base1 (u : U__law_alike_v1 p) (t : T) (h : smT 0 t = true) (n : Nat) : Det p (n + 1) "_law_alike" [t, t] (.bl true) := by
  have hf := sm_f h
  cases t with
  | non =>
    refine o__law_alike_v1 u ?_
    tb_start
    rfl
  | bl b =>
    refine o__law_alike_v1 u ?_
    tb_start
    simp
  | int i =>
    refine o__law_alike_v1 u ?_
    tb_start
    simp
  | str x =>
    have hx : PyData.strOk x = true := by simpa [smT] using h
    refine o__law_alike_v1 u ?_
    tb_start
    refine wo_eq rfl rfl (eqS_t x hx) ?_
    tb_start
    rfl
  | tup ts => simp [smT] at h
  | lst o ts => simp [smT] at h
  | dK _ _ _ => simp [smT] at h
  | dT _ _ _ => simp [smT] at h
  | opq _ => simp [smT] at h
theorem alike1_same (u : U__law_alike_v1 p) : ∀ (d : Nat) (t : T), smT d t = true → ∀ n, Det p (n + d + 1) "_law_alike" [t, t] (.bl true) := by
  intro d
  induction d with
  | zero =>
    intro t h n
    exact base1 u t h n
  | succ d ih =>
    intro t h n
    have hf := sm_f h
    have inner : ∀ ts : List T, smL d ts = true → ∀ i (hi : i < ts.length), smT d ts[i] = true := fun ts h i hi => by
      rw [smL_all, List.all_eq_true] at h; exact h _ (List.getElem_mem _)
    cases t with
    | tup ts =>
      simp only [smT, Bool.and_eq_true, decide_eq_true_eq] at h
      obtain ⟨⟨_, hl⟩, h⟩ := h
      refine o__law_alike_v1 u ?_ (by simpa using hf)
      tb_start
      refine wlc0 (g := fun _ : Nat => .bl true) (fun i hi => ?_) ?_
      · have hi : i < ts.length := by simpa using hi
        have hs := inner ts h i hi
        have hf2 := sm_f hs
        tb_start
        top_raise
        tb_start
        top_raise
        tb_start
        refine wcd (ih _ hs n) ?_
        tb_start
      tb_start
      simp
    | lst o ts =>
      simp only [smT, Bool.and_eq_true, decide_eq_true_eq, Bool.not_eq_true'] at h
      obtain ⟨⟨⟨rfl, _⟩, hl⟩, h⟩ := h
      refine o__law_alike_v1 u ?_ (by simpa using hf)
      tb_start
      refine wlc0 (g := fun _ : Nat => .bl true) (fun i hi => ?_) ?_
      · have hi : i < ts.length := by simpa using hi
        have hs := inner ts h i hi
        have hf2 := sm_f hs
        tb_start
        top_raise
        tb_start
        top_raise
        tb_start
        refine wcd (ih _ hs n) ?_
        tb_start
      tb_start
      simp
    | non => exact base1 u .non (by simp [smT]) _
    | bl b => exact base1 u (.bl b) (by simp [smT]) _
    | int z => exact base1 u (.int z) (by simp [smT]) _
    | str x => exact base1 u (.str x) (by simpa [smT] using h) _
    | dK _ _ _ => simp [smT] at h
    | dT _ _ _ => simp [smT] at h
    | opq _ => simp [smT] at h
theorem base2 (u : U__law_alike_v2 p) (t : T) (h : smT 0 t = true) (n : Nat) : Det p (n + 1) "_law_alike" [t, t] (.bl true) := by
  have hf := sm_f h
  cases t with
  | non =>
    refine o__law_alike_v2 u ?_
    tb_start
    rfl
  | bl b =>
    refine o__law_alike_v2 u ?_
    tb_start
    simp
  | int i =>
    refine o__law_alike_v2 u ?_
    tb_start
    simp
  | str x =>
    have hx : PyData.strOk x = true := by simpa [smT] using h
    refine o__law_alike_v2 u ?_
    tb_start
    refine wo_eq rfl rfl (eqS_t x hx) ?_
    tb_start
    rfl
  | tup ts => simp [smT] at h
  | lst o ts => simp [smT] at h
  | dK _ _ _ => simp [smT] at h
  | dT _ _ _ => simp [smT] at h
  | opq _ => simp [smT] at h
theorem alike2_same (u : U__law_alike_v2 p) : ∀ (d : Nat) (t : T), smT d t = true → ∀ n, Det p (n + d + 1) "_law_alike" [t, t] (.bl true) := by
  intro d
  induction d with
  | zero =>
    intro t h n
    exact base2 u t h n
  | succ d ih =>
    intro t h n
    have hf := sm_f h
    have inner : ∀ ts : List T, smL d ts = true → ∀ i (hi : i < ts.length), smT d ts[i] = true := fun ts h i hi => by
      rw [smL_all, List.all_eq_true] at h; exact h _ (List.getElem_mem _)
    cases t with
    | tup ts =>
      simp only [smT, Bool.and_eq_true, decide_eq_true_eq] at h
      obtain ⟨⟨_, hl⟩, h⟩ := h
      refine o__law_alike_v2 u ?_ (by simpa using hf)
      tb_start
      refine wlc0 (g := fun _ : Nat => .bl true) (fun i hi => ?_) ?_
      · have hi : i < ts.length := by simpa using hi
        have hs := inner ts h i hi
        have hf2 := sm_f hs
        tb_start
        top_raise
        tb_start
        top_raise
        tb_start
        refine wcd (ih _ hs n) ?_
        tb_start
      tb_start
      simp
    | lst o ts =>
      simp only [smT, Bool.and_eq_true, decide_eq_true_eq, Bool.not_eq_true'] at h
      obtain ⟨⟨⟨rfl, _⟩, hl⟩, h⟩ := h
      refine o__law_alike_v2 u ?_ (by simpa using hf)
      tb_start
      refine wlc0 (g := fun _ : Nat => .bl true) (fun i hi => ?_) ?_
      · have hi : i < ts.length := by simpa using hi
        have hs := inner ts h i hi
        have hf2 := sm_f hs
        tb_start
        top_raise
        tb_start
        top_raise
        tb_start
        refine wcd (ih _ hs n) ?_
        tb_start
      tb_start
      simp
    | non => exact base2 u .non (by simp [smT]) _
    | bl b => exact base2 u (.bl b) (by simp [smT]) _
    | int z => exact base2 u (.int z) (by simp [smT]) _
    | str x => exact base2 u (.str x) (by simpa [smT] using h) _
    | dK _ _ _ => simp [smT] at h
    | dT _ _ _ => simp [smT] at h
    | opq _ => simp [smT] at h
theorem base3 (u : U__law_alike_v3 p) (t : T) (h : smT 0 t = true) (n : Nat) : Det p (n + 1) "_law_alike" [t, t] (.bl true) := by
  have hf := sm_f h
  cases t with
  | non =>
    refine o__law_alike_v3 u ?_
    tb_start
    rfl
  | bl b =>
    refine o__law_alike_v3 u ?_
    tb_start
    simp
  | int i =>
    refine o__law_alike_v3 u ?_
    tb_start
    simp
  | str x =>
    have hx : PyData.strOk x = true := by simpa [smT] using h
    refine o__law_alike_v3 u ?_
    tb_start
    refine wo_eq rfl rfl (eqS_t x hx) ?_
    tb_start
    rfl
  | tup ts => simp [smT] at h
  | lst o ts => simp [smT] at h
  | dK _ _ _ => simp [smT] at h
  | dT _ _ _ => simp [smT] at h
  | opq _ => simp [smT] at h
theorem alike3_same (u : U__law_alike_v3 p) : ∀ (d : Nat) (t : T), smT d t = true → ∀ n, Det p (n + d + 1) "_law_alike" [t, t] (.bl true) := by
  intro d
  induction d with
  | zero =>
    intro t h n
    exact base3 u t h n
  | succ d ih =>
    intro t h n
    have hf := sm_f h
    have inner : ∀ ts : List T, smL d ts = true → ∀ i (hi : i < ts.length), smT d ts[i] = true := fun ts h i hi => by
      rw [smL_all, List.all_eq_true] at h; exact h _ (List.getElem_mem _)
    cases t with
    | tup ts =>
      simp only [smT, Bool.and_eq_true, decide_eq_true_eq] at h
      obtain ⟨⟨_, hl⟩, h⟩ := h
      refine o__law_alike_v3 u ?_ (by simpa using hf)
      tb_start
      refine wlc0 (g := fun _ : Nat => .bl true) (fun i hi => ?_) ?_
      · have hi : i < ts.length := by simpa using hi
        have hs := inner ts h i hi
        have hf2 := sm_f hs
        tb_start
        top_raise
        tb_start
        top_raise
        tb_start
        refine wcd (ih _ hs n) ?_
        tb_start
      tb_start
      simp
    | lst o ts =>
      simp only [smT, Bool.and_eq_true, decide_eq_true_eq, Bool.not_eq_true'] at h
      obtain ⟨⟨⟨rfl, _⟩, hl⟩, h⟩ := h
      refine o__law_alike_v3 u ?_ (by simpa using hf)
      tb_start
      refine wlc0 (g := fun _ : Nat => .bl true) (fun i hi => ?_) ?_
      · have hi : i < ts.length := by simpa using hi
        have hs := inner ts h i hi
        have hf2 := sm_f hs
        tb_start
        top_raise
        tb_start
        top_raise
        tb_start
        refine wcd (ih _ hs n) ?_
        tb_start
      tb_start
      simp
    | non => exact base3 u .non (by simp [smT]) _
    | bl b => exact base3 u (.bl b) (by simp [smT]) _
    | int z => exact base3 u (.int z) (by simp [smT]) _
    | str x => exact base3 u (.str x) (by simpa [smT] using h) _
    | dK _ _ _ => simp [smT] at h
    | dT _ _ _ => simp [smT] at h
    | opq _ => simp [smT] at h
end QX

set_option Elab.async false
set_option linter.all false
set_option maxRecDepth 100000
set_option maxHeartbeats 2000000
namespace QX
open PySem
/-! short words for the steps -/
local macro_rules | `(tactic| ktr_rel) => `(tactic| first | rfl | exact en_f _ | exact en_fl _ | assumption | (simp [en_f, en_fl]; done))
local macro_rules | `(tactic| kwd_rel) => `(tactic| first | assumption | omega | (simp only [List.length_append, List.length_map, List.length_cons, List.length_nil, List.length_replicate, List.length_range, List.length_dropLast, List.length_set] at *; omega))
local macro_rules | `(tactic| tb_rel) => `(tactic| first
  | (refine' atWE ?_; first
    | (refine' we_var_lt rfl ?_) | (refine' we_var rfl ?qf ?_; (case qf => ktr_rel)) | (refine' we_var_vw rfl rfl ?_)
    | refine' we_intL ?_ | refine' we_int ?_ | refine' we_str ?_ | refine' we_ix ?_ | refine' we_cmp ?_ | refine' we_bin ?_ | refine' we_cal ?_ | refine' we_bfn ?_ | refine' we_tup ?_ | refine' we_lst ?_ | refine' we_not ?_ | refine' we_isi ?_
    | refine' we_bl ?_ | refine' we_non ?_
    | (refine' we_mov rfl ?qg ?_; (case qg => ((try simp only [outS, backS, List.set_cons_zero, List.set_cons_succ, List.getElem?_cons_zero, List.getElem?_cons_succ, Option.getD_some]) <;> rfl))) | (refine' we_shr rfl ?qz ?qg ?_; (case qz => (first | exact fz_int _ | exact lo_fz _ | exact lol_fz _ | exact en_fz _ | exact fz_str _ | (simp [en_fz, en_fzl]; rfl) | rfl)); (case qg => ((try simp only [outS, backS, List.set_cons_zero, List.set_cons_succ, List.getElem?_cons_zero, List.getElem?_cons_succ, Option.getD_some]) <;> rfl))) | refine' we_ref rfl ?_
    | refine' we_and ?_ | refine' we_and1 ?_ | refine' we_or ?_ | refine' we_or1 ?_ | refine' we_clk ?_
    | refine' we_negL ?_ | refine' we_neg1 ?_ | refine' we_neg ?_ | refine' we_ite ?_ | refine' we_chn ?_
    | refine' we_isN ?_ | refine' we_noN ?_ | refine' we_isB ?_ | refine' we_noB ?_ | refine' we_sl0 ?_ | refine' we_slL ?_ | refine' we_slH ?_ | refine' we_slB ?_ | refine' we_rev ?_ | refine' we_lrg ?_ | refine' we_met ?_ | refine' we_lc ?_ | refine' we_mut rfl ?_)
  | (refine' atWO ?_; first
    | (refine' atCmp ?_; first
      | refine' wo (g := .cmp .lt) (s_cmp_ltN _ _) ?_ | refine' wo (g := .cmp .le) (s_cmp_leN _ _) ?_ | refine' wo (g := .cmp .gt) (s_cmp_gtN _ _) ?_ | refine' wo (g := .cmp .ge) (s_cmp_geN _ _) ?_
      | refine' wo (g := .cmp .lt) (s_cmp_lt _ _) ?_ | refine' wo (g := .cmp .le) (s_cmp_le _ _) ?_ | refine' wo (g := .cmp .gt) (s_cmp_gt _ _) ?_ | refine' wo (g := .cmp .ge) (s_cmp_ge _ _) ?_
      | (refine' wo_eq rfl rfl ?qe ?_; (case qe => (first | exact eq_nat _ _ | exact eqS_t _ (by decide +kernel) | exact eqS_f _ _ (by decide +kernel) (by decide +kernel) (by decide +kernel) | assumption | exact eq_int _ _ | exact eq_bl _ _ | exact eq_non))) | (refine' wo_ne rfl rfl ?qe ?_; (case qe => (first | exact eq_nat _ _ | exact eqS_t _ (by decide +kernel) | exact eqS_f _ _ (by decide +kernel) (by decide +kernel) (by decide +kernel) | assumption | exact eq_int _ _ | exact eq_bl _ _ | exact eq_non))))
    | (refine' atIx ?_; first
      | (refine' wo (g := .ix) (s_ix_mapO ?qn) ?_; (case qn => kwd_rel)) | (refine' wo (g := .ix) (s_ix_mapV ?qn ?qf) ?_; (case qn => kwd_rel); (case qf => ktr_rel))
      | refine' wo (g := .ix) (s_ix_O at_snoc) ?_ | (refine' wo (g := .ix) (s_ix_V at_snoc ?qf) ?_; (case qf => ktr_rel))
      | (refine' wo (g := .ix) (s_ix_O (at_last ?qn)) ?_; (case qn => (first | assumption | (simp; done)))) | (refine' wo (g := .ix) (s_ix_V (at_last ?qn) ?qf) ?_; (case qn => (first | assumption | (simp; done))); (case qf => ktr_rel))
      | refine' wo (g := .ix) (s_ix_T rfl) ?_ | refine' wo (g := .ix) (s_ix_O rfl) ?_ | (refine' wo (g := .ix) (s_ix_V rfl ?qf) ?_; (case qf => ktr_rel)))
    | refine' wo (g := .isn) (u := _) rfl ?_ | refine' wo (g := .neg) (u := _) rfl ?_ | refine' wo (g := .blo) (u := _) rfl ?_
    | refine' wfm_own ?_ | refine' wo (g := .tru) (truth_bl _) ?_ | (refine' wo (g := .own) ?qy ?_; (case qy => (repeat first | exact ao_nil | apply ao_cons)))
    | (refine' atBf ?_; first
      | refine' wo (g := .bf .len) (s_len_map ⟨_, rfl⟩) ?_ | refine' wo (g := .bf .len) (s_len_l ⟨_, rfl⟩) ?_ | refine' wo (g := .bf .len) (s_len_t rfl) ?_
      | refine' wo (g := .bf .all) (s_all_map ⟨_, rfl⟩) ?_
      | refine' wo (g := .bf .max) (s_max_nat _ _) ?_ | refine' wo (g := .bf .min) (s_min_nat _ _) ?_ | refine' wo (g := .bf .max) (s_max_int _ _) ?_ | refine' wo (g := .bf .min) (s_min_int _ _) ?_
      | refine' wo (g := .bf .list) (s_list_l rfl lk_o) ?_ | (refine' wo (g := .bf .list) (s_list_l rfl (lk_v ?qf)) ?_; (case qf => ktr_rel)) | (refine' wo (g := .bf .list) (s_list_t ?qf) ?_; (case qf => ktr_rel)) | refine' wo (g := .bf .tuple) (s_tuple_l rfl lk_o) ?_ | (refine' wo (g := .bf .tuple) (s_tuple_l rfl (lk_v ?qf)) ?_; (case qf => ktr_rel)))
    | (refine' atBin ?_; first
      | refine' wo (g := .bin .add) (s_bin_addN _ _) ?_ | (refine' wo (g := .bin .mul) (s_bin_mulN ?qn ?qm) ?_; (case qn => kwd_rel); (case qm => kwd_rel)) | (refine' wo (g := .bin .mod) (s_bin_modN ?qn) ?_; (case qn => kwd_rel)) | (refine' wo (g := .bin .fdiv) (s_bin_divN ?qn ?qm) ?_; (case qn => kwd_rel); (case qm => kwd_rel)) | (refine' wo (g := .bin .add) (s_bin_addM ?qn) ?_; (case qn => kwd_rel)) | (refine' wo (g := .bin .sub) (s_bin_subN ?qn) ?_; (case qn => kwd_rel)) | refine' wo (g := .bin .add) (s_bin_add _ _) ?_ | refine' wo (g := .bin .sub) (s_bin_sub _ _) ?_)
    | (refine' atSl ?_; first
      | refine' wo (g := .sl) (s_sl_H rfl lk_o) ?_ | refine' wo (g := .sl) (s_sl_L rfl lk_o) ?_ | refine' wo (g := .sl) (s_sl_B rfl lk_o) ?_ | refine' wo (g := .sl) (s_sl_Hn rfl lk_o) ?_ | refine' wo (g := .sl) (s_sl_Ln rfl lk_o) ?_ | refine' wo (g := .sl) (s_sl_0 rfl lk_o) ?_
      | (refine' wo (g := .sl) (s_sl_H rfl (lk_v ?qf)) ?_; (case qf => ktr_rel)) | (refine' wo (g := .sl) (s_sl_L rfl (lk_v ?qf)) ?_; (case qf => ktr_rel)) | (refine' wo (g := .sl) (s_sl_B rfl (lk_v ?qf)) ?_; (case qf => ktr_rel)) | (refine' wo (g := .sl) (s_sl_Hn rfl (lk_v ?qf)) ?_; (case qf => ktr_rel)) | (refine' wo (g := .sl) (s_sl_Ln rfl (lk_v ?qf)) ?_; (case qf => ktr_rel)) | (refine' wo (g := .sl) (s_sl_0 rfl (lk_v ?qf)) ?_; (case qf => ktr_rel)))
    | refine' wo (g := .rv) (rev_l rfl lk_o) ?_ | (refine' wo (g := .rv) (rev_l rfl (lk_v ?qf)) ?_; (case qf => ktr_rel))
    | (refine' wo_isi rfl ?qs ?_; (case qs => (first | exact isT_int_int | exact isT_int_bool | exact isT_int_str | exact isT_int_tuple | exact isT_int_list | exact isT_int_list_tuple | exact isT_tuple_int | exact isT_tuple_bool | exact isT_tuple_str | exact isT_tuple_tuple | exact isT_tuple_list | exact isT_tuple_list_tuple | exact isT_list_int | exact isT_list_bool | exact isT_list_str | exact isT_list_tuple | exact isT_list_list | exact isT_list_list_tuple | exact isT_str_int | exact isT_str_bool | exact isT_str_str | exact isT_str_tuple | exact isT_str_list | exact isT_str_list_tuple | exact isT_bool_int | exact isT_bool_bool | exact isT_bool_str | exact isT_bool_tuple | exact isT_bool_list | exact isT_bool_list_tuple | exact isT_NoneType_int | exact isT_NoneType_bool | exact isT_NoneType_str | exact isT_NoneType_tuple | exact isT_NoneType_list | exact isT_NoneType_list_tuple)))
    | (refine' atIt ?_; first
      | (refine' wo (g := .it .val) (s_it_val ?qf) ?_; (case qf => ktr_rel)) | (refine' wo (g := .it .val) (s_it_tup ?qf) ?_; (case qf => ktr_rel)) | refine' wo (g := .it .enm) s_it_enm ?_
      | (refine' wo (g := .it .rng) (s_it_rng ?qn) ?_; (case qn => kwd_rel)) | (refine' wo (g := .it .rng) (s_it_rng2 ?qn ?qm) ?_; (case qn => kwd_rel); (case qm => kwd_rel)))
    | (refine' wbt_nm ?ql ?qg ?_; (case ql => (first | exact Nat.le_of_ble_eq_true rfl | (simp; done))); (case qg => ((try simp only [outS, backS, List.set_cons_zero, List.set_cons_succ, List.getElem?_cons_zero, List.getElem?_cons_succ, Option.getD_some]) <;> rfl))) | refine' wbt_tp ?_ | refine' wbl_cons ?_ | refine' wbl_nil ?_
    | (refine' wfm_vw ?qf ?_; (case qf => ktr_rel))
    | (refine' wo (g := .lr) (lrg_ok ?qn) ?_; (case qn => kwd_rel)))
  | refine' tr_and rfl ?_
  | (refine' atWL ?_; first | refine' wl_cons ?_ | refine' wl_nil ?_)
  | (refine' atIf ?_; first
    | refine' wif_t rfl ?_ | refine' wif_f rfl ?_
    | (refine' wif_t ?qi ?_; (case qi => (first | assumption | exact decide_eq_true (by first | assumption | omega) | (simp [*]; done))))
    | (refine' wif_f ?qi ?_; (case qi => (first | assumption | exact decide_eq_false (by first | assumption | omega) | (simp [*]; done)))))
  | (refine' atWS ?_; first
    | refine' ws_iff ?_ | refine' ws_frz ?_ | refine' ws_asg ?_ | refine' ws_asl ?_ | refine' ws_exp ?_ | refine' ws_ret ?_ | refine' ws_retN ?_ | refine' ws_frr ?_ | refine' ws_aug_add rfl ?_ | refine' ws_aug_sub rfl ?_ | refine' ws_aug rfl rfl ?_ | refine' ws_brk ?_ | refine' ws_cnt ?_ | refine' ws_pas ?_ | refine' ws_rse ?_ | refine' ws_par ?_)
  | (refine' atWB ?_; first | refine' wb_cons ?_ | refine' wb_nil ?_)
  | (refine' atBd ?_; first | refine' wbd_nm ?_ | refine' wbd_sb rfl ?_ | refine' wbd_tp rfl ?_)
  | (refine' wset ?ql ?qg ?_; (case ql => (first | exact Nat.le_of_ble_eq_true rfl | (simp; done))); (case qg => ((try simp only [outS, backS, List.set_cons_zero, List.set_cons_succ, List.getElem?_cons_zero, List.getElem?_cons_succ, Option.getD_some]) <;> rfl)))
  | (refine' welt ?qz ?qg; (case qg => ((try simp only [outS, backS, List.set_cons_zero, List.set_cons_succ, List.getElem?_cons_zero, List.getElem?_cons_succ, Option.getD_some]) <;> rfl)); (case qz => (first | exact en_fz _ | rfl | (simp [en_fz, en_fzl]; done)))) | (refine' welt_vw ?qf ?qz ?qg; (case qg => ((try simp only [outS, backS, List.set_cons_zero, List.set_cons_succ, List.getElem?_cons_zero, List.getElem?_cons_succ, Option.getD_some]) <;> rfl)); (case qf => ktr_rel); (case qz => (first | exact en_fz _ | rfl | (simp [en_fz, en_fzl]; done))))
  | (refine' wfrz rfl ?qz ?qg ?_; (case qz => (first | exact fz_int _ | exact lo_fz _ | exact lol_fz _ | exact en_fz _ | exact fz_str _ | (simp [en_fz, en_fzl]; rfl) | rfl)); (case qg => ((try simp only [outS, backS, List.set_cons_zero, List.set_cons_succ, List.getElem?_cons_zero, List.getElem?_cons_succ, Option.getD_some]) <;> rfl)))
  | refine' wfil_t rfl ?_ | (refine' wfil_f rfl ?qg; (case qg => ((try simp only [outS, backS, List.set_cons_zero, List.set_cons_succ, List.getElem?_cons_zero, List.getElem?_cons_succ, Option.getD_some]) <;> rfl)))
  | refine' wpar rfl ?_ | (refine' wrf rfl ?qg ?_; (case qg => ((try simp only [outS, backS, List.set_cons_zero, List.set_cons_succ, List.getElem?_cons_zero, List.getElem?_cons_succ, Option.getD_some]) <;> rfl)))
  | refine' wint rfl ?_
  | refine' wnat ?_ | refine' le_and (Nat.le_of_ble_eq_true rfl) ?_ | (refine' le_and ?qn ?_; (case qn => kwd_rel)) | refine' wbds_cons ?_ | refine' wbds_nil ?_
  | (refine' atMut ?_; first
    | (refine' wm_app_map rfl rfl rfl ?qn ?qg ?_; (case qn => kwd_rel); (case qg => ((try simp only [outS, backS, List.set_cons_zero, List.set_cons_succ, List.getElem?_cons_zero, List.getElem?_cons_succ, Option.getD_some]) <;> rfl)))
    | (refine' wm_appO _ rfl rfl ?qn ?qg ?_; (case qn => kwd_rel); (case qg => ((try simp only [outS, backS, List.set_cons_zero, List.set_cons_succ, List.getElem?_cons_zero, List.getElem?_cons_succ, Option.getD_some]) <;> rfl)))
    | (refine' wm_pop_snoc rfl ?qg ?_; (case qg => ((try simp only [outS, backS, List.set_cons_zero, List.set_cons_succ, List.getElem?_cons_zero, List.getElem?_cons_succ, Option.getD_some]) <;> rfl)))
    | (refine' wm_pop_map rfl ?qn ?qg ?_; (case qn => (first | assumption | (simp; done))); (case qg => ((try simp only [outS, backS, List.set_cons_zero, List.set_cons_succ, List.getElem?_cons_zero, List.getElem?_cons_succ, Option.getD_some]) <;> rfl))))
  | (refine' wst_map rfl ?qn rfl ?qg ?_; (case qn => kwd_rel); (case qg => ((try simp only [outS, backS, List.set_cons_zero, List.set_cons_succ, List.getElem?_cons_zero, List.getElem?_cons_succ, Option.getD_some]) <;> rfl)))
  | (refine' wst_en rfl ?qn ?qg ?_; (case qn => kwd_rel); (case qg => ((try simp only [outS, backS, List.set_cons_zero, List.set_cons_succ, List.getElem?_cons_zero, List.getElem?_cons_succ, Option.getD_some]) <;> rfl))))
local macro_rules | `(tactic| tb_start) => `(tactic| repeat tb_rel)
local macro_rules | `(tactic| top_name) => `(tactic| first | exact parB_nil _ _ _ (Nat.le_of_ble_eq_true rfl) | rfl)
local macro_rules | `(tactic| top_args) => `(tactic| first | rfl | exact argOk_nil _ _ (by ktr_rel) | (simp [argOk, en_f, en_fl]; done) | (show argOk _ 0 _ = true; simp [argOk, en_f, en_fl, *]; done))
local macro_rules | `(tactic| kt_len) => `(tactic| repeat (first | exact av_nil | refine' av_lo ?_ | (refine' av_own ?qf ?_; (case qf => ktr_rel)) | (refine' av_vw ?qz ?_; (case qz => (first | rfl | (simp [en_fz, en_fzl]; rfl)))) | (refine' av_any ?qz ?_; (case qz => (first | rfl | (simp [en_fz, en_fzl]; rfl))))))
local macro_rules | `(tactic| kt_eqs) => `(tactic| ((try simp only [outS, backS, List.set_cons_zero, List.set_cons_succ, List.getElem?_cons_zero, List.getElem?_cons_succ, Option.getD_some]) <;> rfl))
local macro_rules | `(tactic| top_raise) => `(tactic| first | (refine' wo (g := .ix) (s_ix_Tn ?qn) ?_; (case qn => kwd_rel)) | (refine' wo (g := .ix) (s_ix_On ?qn) ?_; (case qn => kwd_rel)))
variable {p : Pg}
/-- how many stand there behind deeds -/
def endS (s : Nat) (ds : List De) : Nat := ds.foldl De.nx s
theorem Bag.up {N M : Nat} {t : T} (h : Bag N t) (hM : N ≤ M) : Bag M t := by
  obtain ⟨a, b, c, rfl, h1, h2, h3, h4⟩ := h
  exact ⟨a, b, c, rfl, h1, h2, h3, by omega⟩
theorem nx_le (s : Nat) (d : De) : d.nx s ≤ s + 1 := by cases d <;> simp [De.nx]; omega
theorem nxL_le : ∀ (ds : List De) (s : Nat), ds.foldl De.nx s ≤ s + ds.length
  | [], s => by simp
  | d :: ds, s => by
    have := nxL_le ds (d.nx s)
    have := nx_le s d
    simp only [List.foldl_cons, List.length_cons]
    omega
theorem bare1_ok (u : U__law_bare_v1 p) {n N : Nat} {t : T} (ht : Bag N t) {many asks : Nat} (hm : many < 100000) (ha : asks < 1000) (hN : N < 1000000) :
    Call p (n + 2) "_law_bare" [t, .int many, .int asks] (fun v us => ∃ (ds : List De) (t' : T), okL many ds ∧ ds.length ≤ asks ∧ Bag (N + 5000) t' ∧ v = lo ds ∧ us = [t', .int many, .int asks]) noX := by
  refine o__law_bare_v1 u ?_
  tb_start
  refine wcr (take_v1_ok u._law_take ht (m := 3) (by omega)) ?_
  rintro _ _ ⟨often, t1, ho, ht1, rfl, rfl⟩
  tb_start
  refine wcr (take_v1_ok u._law_take ht1 (m := asks + 1) (by omega)) ?_
  rintro _ _ ⟨turns, t2, hc, ht2, rfl, rfl⟩
  tb_start
  refine wfor (f := en) (l := List.range turns) (fun l G => ∃ (t' : T) (ds : List De) (N' : Nat) (o6 o7 : Option T), G = [some t', some (.int many), some (.int asks), some (lo ds), some (.int (endS many ds)), some (.int ((1 + often : Nat))), o6, o7] ∧
      okL many ds ∧ ds.length + l.length = turns ∧ Bag N' t' ∧ N' + 5 * l.length = N + 2 + 5 * turns) ⟨t2, [], N + 2, none, none, rfl, trivial, by simp, ht2, by simp⟩ ?_ ?_
  · rintro i l G ⟨t', ds, N', o6, o7, rfl, h1, h2, h3, h4⟩
    simp only [List.length_cons] at h2 h4
    have hsz : endS many ds ≤ many + ds.length := nxL_le ds many
    have happ : ∀ d : De, d.ok (endS many ds) → okL many (ds ++ [d]) := fun d hd => okL_append.mpr ⟨h1, hd, trivial⟩
    have ein : endS many (ds ++ [De.inn]) = endS many ds + 1 := by simp [endS, De.nx]
    have hin : ∀ t'' N'', Bag N'' t'' → N'' ≤ N' + 5 → ∃ (t' : T) (ds' : List De) (N' : Nat) (o6' o7' : Option T), [some t'', some (.int many), some (.int asks), some (lo (ds ++ [De.inn])), some (.int ((endS many ds + 1 : Nat))), some (.int ((1 + often : Nat))), some (en i), o7] = [some t', some (.int many), some (.int asks), some (lo ds'), some (.int (endS many ds')), some (.int ((1 + often : Nat))), o6', o7'] ∧
      okL many ds' ∧ ds'.length + l.length = turns ∧ Bag N' t' ∧ N' + 5 * l.length = N + 2 + 5 * turns := fun t'' N'' hb hn =>
      ⟨t'', ds ++ [De.inn], N' + 5, some (en i), o7, by rw [ein], happ _ trivial, by simp; omega, hb.up hn, by omega⟩
    tb_start
    refine wif_d (fun h0 => ?_) (fun h0 => ?_)
    · tb_start
      refine wm_app_map (f := en) (z := De.inn) rfl rfl rfl (by omega) (by ((try simp only [outS, backS, List.set_cons_zero, List.set_cons_succ, List.getElem?_cons_zero, List.getElem?_cons_succ, Option.getD_some]) <;> rfl)) ?_
      tb_start
      exact hin _ _ h3 (by omega)
    · tb_start
      refine wcr (take_v1_ok u._law_take h3 (m := 4) (by omega)) ?_
      rintro _ _ ⟨v, t3, hv, ht3, rfl, rfl⟩
      tb_start
      refine wif_d (fun h5 => ?_) (fun h5 => ?_)
      · tb_start
        refine wm_app_map (f := en) (z := De.inn) rfl rfl rfl (by omega) (by ((try simp only [outS, backS, List.set_cons_zero, List.set_cons_succ, List.getElem?_cons_zero, List.getElem?_cons_succ, Option.getD_some]) <;> rfl)) ?_
        tb_start
        exact hin _ _ ht3 (by omega)
      · tb_start
        refine wcr (take_v1_ok u._law_take ht3 (m := endS many ds) (by omega)) ?_
        rintro _ _ ⟨x, t4, hx, ht4, rfl, rfl⟩
        tb_start
        refine wcr (take_v1_ok u._law_take ht4 (m := endS many ds) (by omega)) ?_
        rintro _ _ ⟨y, t5, hy, ht5, rfl, rfl⟩
        tb_start
        refine wcr (take_v1_ok u._law_take ht5 (m := 4) (by omega)) ?_
        rintro _ _ ⟨j, t6, hj, ht6, rfl, rfl⟩
        tb_start
        refine wo (s_ix_mapO (l := [x, y, endS many ds - 1, 0]) (f := en) (j := j) (by simpa using hj)) ?_
        tb_start
        have hz : [x, y, endS many ds - 1, 0][j]'(by simpa using hj) < endS many ds := by
          rcases j with _ | _ | _ | _ | j <;> simp <;> omega
        generalize [x, y, endS many ds - 1, 0][j]'(by simpa using hj) = z at hz
        refine wm_app_map (f := en) (z := De.out z) rfl rfl rfl (by omega) (by ((try simp only [outS, backS, List.set_cons_zero, List.set_cons_succ, List.getElem?_cons_zero, List.getElem?_cons_succ, Option.getD_some]) <;> rfl)) ?_
        tb_start
        have eo : endS many (ds ++ [De.out z]) = endS many ds - 1 := by simp [endS, De.nx]
        exact ⟨t6, ds ++ [De.out z], N' + 5, _, _, by rw [eo], happ _ hz, by simp; omega, ht6.up (by omega), by omega⟩
  · rintro G ⟨t', ds, N', o6, o7, rfl, h1, h2, h3, h4⟩
    tb_start
    exact ⟨ds, t', h1, by simp at h2; omega, h3.up (by simp at h4; omega), rfl, rfl⟩
/-- the rows at each moment -/
def rowsGo {α : Type} (f : Nat → α) : List α → Nat → List De → List (List α)
  | row, _, [] => [row]
  | row, c, .inn :: ds => row :: rowsGo f (row ++ [f c]) (c + 1) ds
  | row, c, .out k :: ds => row :: rowsGo f (cut row k) c ds
theorem rowsGo_len {α : Type} (f : Nat → α) : ∀ (ds : List De) (row : List α) (c : Nat), (rowsGo f row c ds).length = ds.length + 1
  | [], _, _ => rfl
  | .inn :: ds, row, c => by rw [rowsGo, List.length_cons, rowsGo_len f ds, List.length_cons]
  | .out k :: ds, row, c => by rw [rowsGo, List.length_cons, rowsGo_len f ds, List.length_cons]
theorem rowsGo_get {α : Type} (f : Nat → α) : ∀ (ds : List De) (row : List α) (c m : Nat) (h : m < (rowsGo f row c ds).length), (rowsGo f row c ds)[m] = rowGo f row c (ds.take m)
  | [], row, c, m, h => by
    have : m = 0 := by rw [rowsGo_len] at h; simpa using h
    subst this; simp [rowsGo, rowGo]
  | .inn :: ds, row, c, 0, h => by simp [rowsGo, rowGo]
  | .out k :: ds, row, c, 0, h => by simp [rowsGo, rowGo]
  | .inn :: ds, row, c, m + 1, h => by
    simp only [rowsGo, List.getElem_cons_succ, List.take_succ_cons, rowGo]
    exact rowsGo_get f ds _ _ m _
  | .out k :: ds, row, c, m + 1, h => by
    simp only [rowsGo, List.getElem_cons_succ, List.take_succ_cons, rowGo]
    exact rowsGo_get f ds _ _ m _
/-- people by numbers, those who come numbered on -/
def gone (many : Nat) (ds : List De) : List (List Nat) := rowsGo (many + ·) (List.range many) 0 ds
theorem rowsGo_head {α : Type} (f : Nat → α) (row : List α) (c : Nat) (ds : List De) : rowsGo f row c ds = row :: (rowsGo f row c ds).tail := by
  cases ds with
  | nil => rfl
  | cons d ds => cases d <;> rfl
theorem gone_ok (u : U__law_gone_through_v1 p) {n many : Nat} {ds : List De} (h : okL many ds) (hl : ds.length < 100000) (hm : many < 100000) :
    Det p (n + 1) "_law_gone_through" [.int many, ls ds] (lol (gone many ds)) := by
  refine o__law_gone_through_v1 u ?_
  tb_start
  generalize hD : gone many ds = D
  refine wfor (f := en) (l := ds) (fun l G => ∃ (row : List Nat) (c : Nat) (rs : List (List Nat)) (o5 o6 : Option T), G = [some (.int many), some (ls ds), some (lo row), some (lol rs), some (.int ((many + c : Nat))), o5, o6] ∧
      okL row.length l ∧ rs.length + l.length = ds.length + 1 ∧ row.length + l.length < 300000 ∧ rs ++ (rowsGo (many + ·) row c l).tail = D) ⟨List.range many, 0, [List.range many], none, none, rfl, by simpa using h, by simp; omega, by simp; omega, by rw [← hD, gone, List.singleton_append, ← rowsGo_head]⟩ ?_ ?_
  · rintro d l G ⟨row, c, rs, o5, o6, rfl, ⟨hd, h1⟩, h2, h3, e⟩
    simp only [List.length_cons] at h2 h3
    cases d with
    | inn =>
      simp only [rowsGo, List.tail_cons] at e
      rw [rowsGo_head] at e
      tb_start
      exact ⟨row ++ [many + c], c + 1, rs ++ [row ++ [many + c]], _, _, rfl, by simpa [De.nx] using h1, by simp; omega, by simp; omega, by simpa using e⟩
    | out j =>
      obtain ⟨r, x, rfl⟩ := snoc_pos hd
      simp only [List.length_append, List.length_singleton] at hd h1 h3
      simp only [rowsGo, List.tail_cons, cut_snoc] at e
      rw [rowsGo_head] at e
      tb_start
      refine wif_d (fun hj => ?_) (fun hj => ?_)
      · rw [if_pos hj] at e
        tb_start
        exact ⟨r.set j x, c, rs ++ [r.set j x], _, _, rfl, by simpa [De.nx] using h1, by simp; omega, by simp; omega, by simpa using e⟩
      · rw [if_neg hj] at e
        tb_start
        exact ⟨r, c, rs ++ [r], _, _, rfl, by simpa [De.nx] using h1, by simp; omega, by omega, by simpa using e⟩
  · rintro G ⟨row, c, rs, o5, o6, rfl, _, _, _, e⟩
    simp only [rowsGo, List.tail_cons, List.append_nil] at e
    tb_start
    rw [← e]
end QX

set_option Elab.async false
set_option linter.all false
set_option maxRecDepth 100000
/-! rows gone through: plain laws -/
namespace QX
/-- how many come -/
def ins (ds : List De) : Nat := (ds.filter fun d => decide (d = .inn)).length
theorem ins_nil : ins [] = 0 := rfl
theorem ins_inn (ds : List De) : ins (.inn :: ds) = ins ds + 1 := by simp [ins]
theorem ins_out (k : Nat) (ds : List De) : ins (.out k :: ds) = ins ds := by simp [ins]
theorem rowGo_append {α : Type} (f : Nat → α) : ∀ (ds es : List De) (row : List α) (c : Nat), rowGo f row c (ds ++ es) = rowGo f (rowGo f row c ds) (c + ins ds) es
  | [], es, row, c => by simp [rowGo, ins]
  | .inn :: ds, es, row, c => by rw [List.cons_append, rowGo, rowGo, rowGo_append f ds, ins_inn]; congr 1; omega
  | .out k :: ds, es, row, c => by rw [List.cons_append, rowGo, rowGo, rowGo_append f ds, ins_out]
theorem cut_map {α β : Type} (g : α → β) (row : List α) (k : Nat) : cut (row.map g) k = (cut row k).map g := by
  by_cases h : row = []
  · subst h; rfl
  · obtain ⟨r, x, rfl⟩ := snoc_of h
    rw [List.map_append, List.map_singleton, cut_snoc, cut_snoc, List.length_map]
    split
    · rw [List.map_set]
    · rfl
theorem rowGo_map {α β : Type} (g : α → β) (f : Nat → α) (f' : Nat → β) (c' : Nat) (h : ∀ k, g (f k) = f' (c' + k)) : ∀ (ds : List De) (row : List α) (c : Nat), (rowGo f row c ds).map g = rowGo f' (row.map g) (c' + c) ds
  | [], row, c => rfl
  | .inn :: ds, row, c => by rw [rowGo, rowGo_map g f f' c' h ds, rowGo, List.map_append, List.map_singleton, h]; rfl
  | .out k :: ds, row, c => by rw [rowGo, rowGo_map g f f' c' h ds, rowGo, cut_map]
theorem endS_append (s : Nat) (ds es : List De) : endS s (ds ++ es) = endS (endS s ds) es := by simp [endS]
theorem endS_len (many : Nat) (ds : List De) : (whos many ds).length = endS many ds := whos_len many ds
/-- who is who, led on -/
def led (row : List Who) (c : Nat) : Who → Who
  | .first i => row.getD i (.first i)
  | .came k => .came (c + k)
theorem whos_append (many : Nat) (ds ms : List De) : whos many (ds ++ ms) = (whos (endS many ds) ms).map (led (whos many ds) (ins ds)) := by
  unfold whos
  rw [rowGo_append, Nat.zero_add, rowGo_map (led (rowGo .came (firsts many) 0 ds) (ins ds)) .came .came (ins ds) (fun k => rfl)]
  have hl := endS_len many ds
  unfold whos at hl
  congr 1
  generalize rowGo .came (firsts many) 0 ds = W at *
  refine List.ext_getElem ?_ ?_
  · simp [firsts, hl]
  · intro i h1 h2
    simp only [firsts, List.map_map, List.getElem_map, List.getElem_range, Function.comp, led]
    rw [List.getD_eq_getElem?_getD, List.getElem?_eq_getElem h1]
    rfl
/-- the first place's goings -/
theorem first_outs {α : Type} (f : Nat → α) : ∀ (t : Nat) (a : α) (l : List α) (c : Nat), t ≤ l.length → rowGo f (a :: l) c (List.replicate t (.out 0)) = (if t = 0 then a else l.getD (l.length - t) a) :: l.take (l.length - t)
  | 0, a, l, c, h => by simp [rowGo]
  | t + 1, a, l, c, h => by
    obtain ⟨r, x, rfl⟩ : ∃ r x, l = r ++ [x] := snoc_pos (k := 0) (by omega)
    have e : cut (a :: (r ++ [x])) 0 = x :: r := by
      rw [← List.cons_append, cut_snoc]
      simp
    simp only [List.length_append, List.length_singleton] at h ⊢
    rw [List.replicate_succ, rowGo, e, first_outs f t x r c (by omega)]
    have e1 : r.length + 1 - (t + 1) = r.length - t := by omega
    rw [e1]
    by_cases h0 : t = 0
    · subst h0
      simp
    · have h2 : r.length - t < r.length := by omega
      have e2 : ∀ y z : α, (if t + 1 = 0 then y else z) = z := fun y z => if_neg (by omega)
      have e3 : (r ++ [x]).take (r.length - t) = r.take (r.length - t) := List.take_append_of_le_length (by omega)
      rw [if_neg h0, e2, e3]
      simp [List.getD_eq_getElem?_getD, List.getElem?_append_left h2, h2]
theorem first_lm : ∀ (t : Nat) (a : Nat) (l : List Nat) (i : Nat), t ≤ l.length → lmGo (a :: l) i (List.replicate t (.out 0)) = (if t = 0 then a else i + t) :: l.take (l.length - t)
  | 0, a, l, i, h => by simp [lmGo]
  | t + 1, a, l, i, h => by
    obtain ⟨r, x, rfl⟩ : ∃ r x, l = r ++ [x] := snoc_pos (k := 0) (by omega)
    simp only [List.length_append, List.length_singleton] at h ⊢
    have e : (if 0 < (a :: (r ++ [x])).length - 1 then (a :: (r ++ [x])).dropLast.set 0 (i + 1) else (a :: (r ++ [x])).dropLast) = (i + 1) :: r := by
      rw [← List.cons_append, List.dropLast_concat]
      simp
    rw [List.replicate_succ, lmGo, e, first_lm t (i + 1) r (i + 1) (by omega)]
    have e1 : r.length + 1 - (t + 1) = r.length - t := by omega
    have e2 : (if t + 1 = 0 then a else i + (t + 1)) = i + (t + 1) := if_neg (by omega)
    have e3 : (r ++ [x]).take (r.length - t) = r.take (r.length - t) := List.take_append_of_le_length (by omega)
    rw [e1, e2, e3]
    by_cases h0 : t = 0
    · subst h0; simp
    · rw [if_neg h0]; congr 1; omega
theorem okL_outs0 : ∀ (t many : Nat), t ≤ many → okL many (List.replicate t (.out 0))
  | 0, _, _ => trivial
  | t + 1, many, h => ⟨show 0 < many by omega, okL_outs0 t (many - 1) (by omega)⟩
/-- who comes goes at once, so often; then the last ones go -/
def pairs (many : Nat) : Nat → List De
  | 0 => []
  | e + 1 => .inn :: .out many :: pairs many e
def lasts : Nat → List De
  | 0 => []
  | m + 1 => .out m :: lasts m
theorem pairs_len (many : Nat) : ∀ e, (pairs many e).length = 2 * e
  | 0 => rfl
  | e + 1 => by simp [pairs, pairs_len many e]; omega
theorem lasts_len : ∀ m, (lasts m).length = m
  | 0 => rfl
  | m + 1 => by simp [lasts, lasts_len m]
theorem okL_pairs (many : Nat) : ∀ e, okL many (pairs many e) ∧ endS many (pairs many e) = many
  | 0 => ⟨trivial, rfl⟩
  | e + 1 => by
    have h := okL_pairs many e
    refine ⟨⟨trivial, show many < many + 1 by omega, ?_⟩, ?_⟩
    · show okL (many + 1 - 1) _
      exact h.1
    · have := h.2
      simpa [pairs, endS, De.nx] using this
theorem okL_lasts : ∀ m, okL m (lasts m)
  | 0 => trivial
  | m + 1 => ⟨show m < m + 1 by omega, okL_lasts m⟩
theorem endS_lasts : ∀ m, endS m (lasts m) = 0
  | 0 => rfl
  | m + 1 => by
    have := endS_lasts m
    simpa [lasts, endS, De.nx] using this
theorem lasts_eq (m : Nat) : (List.range m).map (fun k => De.out (m - 1 - k)) = lasts m := by
  induction m with
  | zero => rfl
  | succ m ih =>
    rw [List.range_succ_eq_map, List.map_cons, List.map_map, lasts, ← ih]
    simp only [Nat.add_sub_cancel, Nat.sub_zero]
    congr 1
    refine List.map_congr_left fun k _ => ?_
    simp only [Function.comp, Nat.succ_eq_add_one]
    congr 1
    omega
theorem trGo_lasts {spot : Nat} : ∀ (m i : Nat), spot < m → trGo m spot i (lasts m) = [(i + m - spot, none)]
  | 0, _, h => by omega
  | m + 1, i, h => by
    rw [lasts, trGo]
    by_cases h1 : m = spot
    · rw [if_pos h1]; congr 2; omega
    · rw [if_neg h1, if_neg (by omega), Nat.add_sub_cancel, trGo_lasts m (i + 1) (by omega)]
      congr 2; omega
theorem trGo_pairs {many spot : Nat} (h : spot < many) : ∀ (e i : Nat) (es : List De), trGo many spot i (pairs many e ++ es) = trGo many spot (i + 2 * e) es
  | 0, i, es => by simp [pairs]
  | e + 1, i, es => by
    rw [pairs, List.cons_append, List.cons_append, trGo, trGo, if_neg (by omega), if_neg (by omega), Nat.add_sub_cancel, trGo_pairs h e (i + 1 + 1) es]
    congr 1; omega
theorem lmGo_len : ∀ (ds : List De) (row : List Nat) (i : Nat), (lmGo row i ds).length = endS row.length ds
  | [], _, _ => rfl
  | .inn :: ds, row, i => by rw [lmGo, lmGo_len ds]; simp [endS, De.nx]
  | .out k :: ds, row, i => by
    rw [lmGo, lmGo_len ds]
    split <;> simp [endS, De.nx]
end QX

set_option Elab.async false
set_option linter.all false
set_option maxRecDepth 100000
/-! further tables -/
namespace QX
open PySem
variable {v w : Ev} {t t' : T} {ts us : List T}
theorem rep_list {α : Type} {f : α → T} {l : List α} {n : Nat} (hf : isFL (l.map f) = true) (h : l.length * n ≤ 16777216) (hn : n < 2 ^ 62) : binop .mul (.own (.lst true (l.map f))) (.own (.int (n : Nat))) = some (.own (.lst true ((List.replicate n l).flatten.map f))) := by
  show repop (l.map f) n = _
  unfold repop
  rw [if_pos (by simp [sizeLine_eq, hf, h]; omega)]
  congr 3
  rw [Int.toNat_natCast]
  clear h hn
  induction n with
  | zero => rfl
  | succ n ih => rw [List.replicate_succ, List.replicate_succ, List.flatten_cons, List.flatten_cons, List.map_append, ih]
theorem s_rep_list {α : Type} {f : α → T} {l : List α} {n : Nat} (hf : isFL (l.map f) = true) (h : l.length * n ≤ 16777216) (hn : n < 2 ^ 62) : oBin .mul (.own (.lst true (l.map f))) (.own (.int (n : Nat))) = some (.own (.lst true ((List.replicate n l).flatten.map f))) := by
  rw [oBin_eq]; exact rep_list hf h hn
theorem int_bl (b : Bool) : oBf .int [.own (.bl b)] = some (.own (.int (((if b = true then 1 else 0 : Nat)) : Int))) := by
  rw [oBf_eq]; cases b <;> rfl
theorem int_int (i : Int) : oBf .int [.own (.int i)] = some (.own (.int i)) := by
  rw [oBf_eq]; rfl
theorem eq_non_int (i : Int) : eqTT .non (.int i) = some false := by rw [eq_val rfl rfl]; rfl
theorem eq_int_non (i : Int) : eqTT (.int i) .non = some false := by rw [eq_val rfl rfl]; rfl
theorem pairs_eq (many : Nat) : ∀ e, (List.replicate e [De.inn, De.out many]).flatten = pairs many e
  | 0 => rfl
  | e + 1 => by rw [List.replicate_succ, List.flatten_cons, pairs_eq many e]; rfl
@[irreducible] def WFil (u b : Bool) (A B : Prop) : Prop := u = b ∧ (b = true → A) ∧ (b = false → B)
theorem wfil_t {b : Bool} {A B : Prop} (h : b = true) (k : A) : WFil true b A B := by unfold WFil; subst h; exact ⟨rfl, fun _ => k, fun h => Bool.noConfusion h⟩
theorem wfil_f {b : Bool} {A B : Prop} (h : b = false) (k : B) : WFil false b A B := by unfold WFil; subst h; exact ⟨rfl, fun h => Bool.noConfusion h, fun _ => k⟩
theorem wfil_d {P : Prop} [Decidable P] {A B : Prop} (h : P → A) (k : ¬ P → B) : WFil (decide P) (decide P) A B := by
  unfold WFil
  exact ⟨rfl, fun z => h (of_decide_eq_true z), fun z => k (of_decide_eq_false z)⟩
theorem wfil_nd {P : Prop} [Decidable P] {A B : Prop} (h : ¬ P → A) (k : P → B) : WFil (!decide P) (!decide P) A B := by
  unfold WFil
  exact ⟨rfl, fun z => h (of_decide_eq_false (by simpa using z)), fun z => k (of_decide_eq_true (by simpa using z))⟩
/-- a comprehension with one test -/
theorem wlcf {c : En} {G G' G0 : Sl} {k : Ev → Sl → Prop} {x : XP} {tg : Tg} {e d : Ex} {own : List Nat} {α : Type} {f g : α → T} {q : α → Bool} {l : List α}
    (turn : ∀ a ∈ l, WO .bt (bindT tg (f a) G0) fun G1 => WE c d G1 (fun w G2 => WO .tru w.truth fun u => WFil u (q a) (WE c e G2 (fun v G3 => WElt v (g a) G3 own G0) (fun _ _ _ => False)) (outS G2 own = G0)) (fun _ _ _ => False))
    (done : k (.own (.lst true ((l.filter q).map g))) G') (e0 : outS G own = G0 := by kt_eqs) (eb : backS G0 G own = G' := by kt_eqs) (hl : l.length ≤ 16777216 := by kwd_rel) : WLc c e tg [d] own (l.map f) G k x := by
  refine wlc1 (q := q) (g := g) (fun a m => ?_) done e0 eb hl
  have h := turn a m
  unfold WFil at h
  exact h
theorem sh_nat (d n : Nat) : shT d (en n) = true := by show shT d (.int n) = true; rw [shT]
theorem sh_list {α : Type} [Enc α] {d : Nat} {o : Bool} {l : List α} (h : ∀ a ∈ l, shT d (en a) = true) : shT (d + 1) (.lst o (l.map en)) = true := by
  rw [shT, shL_all]
  simp only [Nat.add_sub_cancel, Bool.and_eq_true, decide_eq_true_eq, List.all_map, List.all_eq_true, Function.comp]
  exact ⟨by omega, h⟩
/-- is a list empty -/
theorem eq_nil {α : Type} [Enc α] {o o' : Bool} {l : List α} (h : ∀ a ∈ l, shT 59 (en a) = true) : eqTT (.lst o (l.map en)) (.lst o' []) = some (decide (l = [])) := by
  rw [eq_val (sh_list h) (by rw [shT, shL]; rfl)]
  cases l with
  | nil => rfl
  | cons a l => rfl
end QX

set_option Elab.async false
set_option linter.all false
set_option maxRecDepth 100000
set_option maxHeartbeats 2000000
namespace QX
open PySem
/-! short words for the steps -/
local macro_rules | `(tactic| ktr_rel) => `(tactic| first | rfl | exact en_f _ | exact en_fl _ | assumption | (simp [en_f, en_fl]; done))
local macro_rules | `(tactic| kwd_rel) => `(tactic| first | assumption | omega | (simp only [List.length_append, List.length_map, List.length_cons, List.length_nil, List.length_replicate, List.length_range, List.length_dropLast, List.length_set] at *; omega))
local macro_rules | `(tactic| tb_rel) => `(tactic| first
  | (refine' atWE ?_; first
    | (refine' we_var_lt rfl ?_) | (refine' we_var rfl ?qf ?_; (case qf => ktr_rel)) | (refine' we_var_vw rfl rfl ?_)
    | refine' we_intL ?_ | refine' we_int ?_ | refine' we_str ?_ | refine' we_ix ?_ | refine' we_cmp ?_ | refine' we_bin ?_ | refine' we_cal ?_ | refine' we_bfn ?_ | refine' we_tup ?_ | refine' we_lst ?_ | refine' we_not ?_ | refine' we_isi ?_
    | refine' we_bl ?_ | refine' we_non ?_
    | (refine' we_mov rfl ?qg ?_; (case qg => ((try simp only [outS, backS, List.set_cons_zero, List.set_cons_succ, List.getElem?_cons_zero, List.getElem?_cons_succ, Option.getD_some]) <;> rfl))) | (refine' we_shr rfl ?qz ?qg ?_; (case qz => (first | exact fz_int _ | exact lo_fz _ | exact lol_fz _ | exact en_fz _ | exact fz_str _ | (simp [en_fz, en_fzl]; rfl) | rfl)); (case qg => ((try simp only [outS, backS, List.set_cons_zero, List.set_cons_succ, List.getElem?_cons_zero, List.getElem?_cons_succ, Option.getD_some]) <;> rfl))) | refine' we_ref rfl ?_
    | refine' we_and ?_ | refine' we_and1 ?_ | refine' we_or ?_ | refine' we_or1 ?_ | refine' we_clk ?_
    | refine' we_negL ?_ | refine' we_neg1 ?_ | refine' we_neg ?_ | refine' we_ite ?_ | refine' we_chn ?_
    | refine' we_isN ?_ | refine' we_noN ?_ | refine' we_isB ?_ | refine' we_noB ?_ | refine' we_sl0 ?_ | refine' we_slL ?_ | refine' we_slH ?_ | refine' we_slB ?_ | refine' we_rev ?_ | refine' we_lrg ?_ | refine' we_met ?_ | refine' we_lc ?_ | refine' we_mut rfl ?_)
  | (refine' atWO ?_; first
    | (refine' atCmp ?_; first
      | refine' wo (g := .cmp .lt) (s_cmp_ltN _ _) ?_ | refine' wo (g := .cmp .le) (s_cmp_leN _ _) ?_ | refine' wo (g := .cmp .gt) (s_cmp_gtN _ _) ?_ | refine' wo (g := .cmp .ge) (s_cmp_geN _ _) ?_
      | refine' wo (g := .cmp .lt) (s_cmp_lt _ _) ?_ | refine' wo (g := .cmp .le) (s_cmp_le _ _) ?_ | refine' wo (g := .cmp .gt) (s_cmp_gt _ _) ?_ | refine' wo (g := .cmp .ge) (s_cmp_ge _ _) ?_
      | (refine' wo_eq rfl rfl ?qe ?_; (case qe => (first | exact eq_nat _ _ | exact eqS_t _ (by decide +kernel) | exact eqS_f _ _ (by decide +kernel) (by decide +kernel) (by decide +kernel) | assumption | exact eq_int _ _ | exact eq_bl _ _ | exact eq_non))) | (refine' wo_ne rfl rfl ?qe ?_; (case qe => (first | exact eq_nat _ _ | exact eqS_t _ (by decide +kernel) | exact eqS_f _ _ (by decide +kernel) (by decide +kernel) (by decide +kernel) | assumption | exact eq_int _ _ | exact eq_bl _ _ | exact eq_non))))
    | (refine' atIx ?_; first
      | (refine' wo (g := .ix) (s_ix_mapO ?qn) ?_; (case qn => kwd_rel)) | (refine' wo (g := .ix) (s_ix_mapV ?qn ?qf) ?_; (case qn => kwd_rel); (case qf => ktr_rel))
      | refine' wo (g := .ix) (s_ix_O at_snoc) ?_ | (refine' wo (g := .ix) (s_ix_V at_snoc ?qf) ?_; (case qf => ktr_rel))
      | (refine' wo (g := .ix) (s_ix_O (at_last ?qn)) ?_; (case qn => (first | assumption | (simp; done)))) | (refine' wo (g := .ix) (s_ix_V (at_last ?qn) ?qf) ?_; (case qn => (first | assumption | (simp; done))); (case qf => ktr_rel))
      | refine' wo (g := .ix) (s_ix_T rfl) ?_ | refine' wo (g := .ix) (s_ix_O rfl) ?_ | (refine' wo (g := .ix) (s_ix_V rfl ?qf) ?_; (case qf => ktr_rel)))
    | refine' wo (g := .isn) (u := _) rfl ?_ | refine' wo (g := .neg) (u := _) rfl ?_ | refine' wo (g := .blo) (u := _) rfl ?_
    | refine' wfm_own ?_ | refine' wo (g := .tru) (truth_bl _) ?_ | (refine' wo (g := .own) ?qy ?_; (case qy => (repeat first | exact ao_nil | apply ao_cons)))
    | (refine' atBf ?_; first
      | refine' wo (g := .bf .len) (s_len_map ⟨_, rfl⟩) ?_ | refine' wo (g := .bf .len) (s_len_l ⟨_, rfl⟩) ?_ | refine' wo (g := .bf .len) (s_len_t rfl) ?_
      | refine' wo (g := .bf .all) (s_all_map ⟨_, rfl⟩) ?_
      | refine' wo (g := .bf .max) (s_max_nat _ _) ?_ | refine' wo (g := .bf .min) (s_min_nat _ _) ?_ | refine' wo (g := .bf .max) (s_max_int _ _) ?_ | refine' wo (g := .bf .min) (s_min_int _ _) ?_
      | refine' wo (g := .bf .list) (s_list_l rfl lk_o) ?_ | (refine' wo (g := .bf .list) (s_list_l rfl (lk_v ?qf)) ?_; (case qf => ktr_rel)) | (refine' wo (g := .bf .list) (s_list_t ?qf) ?_; (case qf => ktr_rel)) | refine' wo (g := .bf .tuple) (s_tuple_l rfl lk_o) ?_ | (refine' wo (g := .bf .tuple) (s_tuple_l rfl (lk_v ?qf)) ?_; (case qf => ktr_rel)))
    | (refine' atBin ?_; first
      | refine' wo (g := .bin .add) (s_bin_addN _ _) ?_ | (refine' wo (g := .bin .mul) (s_bin_mulN ?qn ?qm) ?_; (case qn => kwd_rel); (case qm => kwd_rel)) | (refine' wo (g := .bin .mod) (s_bin_modN ?qn) ?_; (case qn => kwd_rel)) | (refine' wo (g := .bin .fdiv) (s_bin_divN ?qn ?qm) ?_; (case qn => kwd_rel); (case qm => kwd_rel)) | (refine' wo (g := .bin .add) (s_bin_addM ?qn) ?_; (case qn => kwd_rel)) | (refine' wo (g := .bin .sub) (s_bin_subN ?qn) ?_; (case qn => kwd_rel)) | refine' wo (g := .bin .add) (s_bin_add _ _) ?_ | refine' wo (g := .bin .sub) (s_bin_sub _ _) ?_)
    | (refine' atSl ?_; first
      | refine' wo (g := .sl) (s_sl_H rfl lk_o) ?_ | refine' wo (g := .sl) (s_sl_L rfl lk_o) ?_ | refine' wo (g := .sl) (s_sl_B rfl lk_o) ?_ | refine' wo (g := .sl) (s_sl_Hn rfl lk_o) ?_ | refine' wo (g := .sl) (s_sl_Ln rfl lk_o) ?_ | refine' wo (g := .sl) (s_sl_0 rfl lk_o) ?_
      | (refine' wo (g := .sl) (s_sl_H rfl (lk_v ?qf)) ?_; (case qf => ktr_rel)) | (refine' wo (g := .sl) (s_sl_L rfl (lk_v ?qf)) ?_; (case qf => ktr_rel)) | (refine' wo (g := .sl) (s_sl_B rfl (lk_v ?qf)) ?_; (case qf => ktr_rel)) | (refine' wo (g := .sl) (s_sl_Hn rfl (lk_v ?qf)) ?_; (case qf => ktr_rel)) | (refine' wo (g := .sl) (s_sl_Ln rfl (lk_v ?qf)) ?_; (case qf => ktr_rel)) | (refine' wo (g := .sl) (s_sl_0 rfl (lk_v ?qf)) ?_; (case qf => ktr_rel)))
    | refine' wo (g := .rv) (rev_l rfl lk_o) ?_ | (refine' wo (g := .rv) (rev_l rfl (lk_v ?qf)) ?_; (case qf => ktr_rel))
    | (refine' wo_isi rfl ?qs ?_; (case qs => (first | exact isT_int_int | exact isT_int_bool | exact isT_int_str | exact isT_int_tuple | exact isT_int_list | exact isT_int_list_tuple | exact isT_tuple_int | exact isT_tuple_bool | exact isT_tuple_str | exact isT_tuple_tuple | exact isT_tuple_list | exact isT_tuple_list_tuple | exact isT_list_int | exact isT_list_bool | exact isT_list_str | exact isT_list_tuple | exact isT_list_list | exact isT_list_list_tuple | exact isT_str_int | exact isT_str_bool | exact isT_str_str | exact isT_str_tuple | exact isT_str_list | exact isT_str_list_tuple | exact isT_bool_int | exact isT_bool_bool | exact isT_bool_str | exact isT_bool_tuple | exact isT_bool_list | exact isT_bool_list_tuple | exact isT_NoneType_int | exact isT_NoneType_bool | exact isT_NoneType_str | exact isT_NoneType_tuple | exact isT_NoneType_list | exact isT_NoneType_list_tuple)))
    | (refine' atIt ?_; first
      | (refine' wo (g := .it .val) (s_it_val ?qf) ?_; (case qf => ktr_rel)) | (refine' wo (g := .it .val) (s_it_tup ?qf) ?_; (case qf => ktr_rel)) | refine' wo (g := .it .enm) s_it_enm ?_
      | (refine' wo (g := .it .rng) (s_it_rng ?qn) ?_; (case qn => kwd_rel)) | (refine' wo (g := .it .rng) (s_it_rng2 ?qn ?qm) ?_; (case qn => kwd_rel); (case qm => kwd_rel)))
    | (refine' wbt_nm ?ql ?qg ?_; (case ql => (first | exact Nat.le_of_ble_eq_true rfl | (simp; done))); (case qg => ((try simp only [outS, backS, List.set_cons_zero, List.set_cons_succ, List.getElem?_cons_zero, List.getElem?_cons_succ, Option.getD_some]) <;> rfl))) | refine' wbt_tp ?_ | refine' wbl_cons ?_ | refine' wbl_nil ?_
    | (refine' wfm_vw ?qf ?_; (case qf => ktr_rel))
    | (refine' wo (g := .lr) (lrg_ok ?qn) ?_; (case qn => kwd_rel)))
  | refine' tr_and rfl ?_
  | (refine' atWL ?_; first | refine' wl_cons ?_ | refine' wl_nil ?_)
  | (refine' atIf ?_; first
    | refine' wif_t rfl ?_ | refine' wif_f rfl ?_
    | (refine' wif_t ?qi ?_; (case qi => (first | assumption | exact decide_eq_true (by first | assumption | omega) | (simp [*]; done))))
    | (refine' wif_f ?qi ?_; (case qi => (first | assumption | exact decide_eq_false (by first | assumption | omega) | (simp [*]; done)))))
  | (refine' atWS ?_; first
    | refine' ws_iff ?_ | refine' ws_frz ?_ | refine' ws_asg ?_ | refine' ws_asl ?_ | refine' ws_exp ?_ | refine' ws_ret ?_ | refine' ws_retN ?_ | refine' ws_frr ?_ | refine' ws_aug_add rfl ?_ | refine' ws_aug_sub rfl ?_ | refine' ws_aug rfl rfl ?_ | refine' ws_brk ?_ | refine' ws_cnt ?_ | refine' ws_pas ?_ | refine' ws_rse ?_ | refine' ws_par ?_)
  | (refine' atWB ?_; first | refine' wb_cons ?_ | refine' wb_nil ?_)
  | (refine' atBd ?_; first | refine' wbd_nm ?_ | refine' wbd_sb rfl ?_ | refine' wbd_tp rfl ?_)
  | (refine' wset ?ql ?qg ?_; (case ql => (first | exact Nat.le_of_ble_eq_true rfl | (simp; done))); (case qg => ((try simp only [outS, backS, List.set_cons_zero, List.set_cons_succ, List.getElem?_cons_zero, List.getElem?_cons_succ, Option.getD_some]) <;> rfl)))
  | (refine' welt ?qz ?qg; (case qg => ((try simp only [outS, backS, List.set_cons_zero, List.set_cons_succ, List.getElem?_cons_zero, List.getElem?_cons_succ, Option.getD_some]) <;> rfl)); (case qz => (first | exact en_fz _ | rfl | (simp [en_fz, en_fzl]; done)))) | (refine' welt_vw ?qf ?qz ?qg; (case qg => ((try simp only [outS, backS, List.set_cons_zero, List.set_cons_succ, List.getElem?_cons_zero, List.getElem?_cons_succ, Option.getD_some]) <;> rfl)); (case qf => ktr_rel); (case qz => (first | exact en_fz _ | rfl | (simp [en_fz, en_fzl]; done))))
  | (refine' wfrz rfl ?qz ?qg ?_; (case qz => (first | exact fz_int _ | exact lo_fz _ | exact lol_fz _ | exact en_fz _ | exact fz_str _ | (simp [en_fz, en_fzl]; rfl) | rfl)); (case qg => ((try simp only [outS, backS, List.set_cons_zero, List.set_cons_succ, List.getElem?_cons_zero, List.getElem?_cons_succ, Option.getD_some]) <;> rfl)))
  | refine' wfil_t rfl ?_ | (refine' wfil_f rfl ?qg; (case qg => ((try simp only [outS, backS, List.set_cons_zero, List.set_cons_succ, List.getElem?_cons_zero, List.getElem?_cons_succ, Option.getD_some]) <;> rfl)))
  | refine' wpar rfl ?_ | (refine' wrf rfl ?qg ?_; (case qg => ((try simp only [outS, backS, List.set_cons_zero, List.set_cons_succ, List.getElem?_cons_zero, List.getElem?_cons_succ, Option.getD_some]) <;> rfl)))
  | refine' wint rfl ?_
  | refine' wnat ?_ | refine' le_and (Nat.le_of_ble_eq_true rfl) ?_ | (refine' le_and ?qn ?_; (case qn => kwd_rel)) | refine' wbds_cons ?_ | refine' wbds_nil ?_
  | (refine' atMut ?_; first
    | (refine' wm_app_map rfl rfl rfl ?qn ?qg ?_; (case qn => kwd_rel); (case qg => ((try simp only [outS, backS, List.set_cons_zero, List.set_cons_succ, List.getElem?_cons_zero, List.getElem?_cons_succ, Option.getD_some]) <;> rfl)))
    | (refine' wm_appO _ rfl rfl ?qn ?qg ?_; (case qn => kwd_rel); (case qg => ((try simp only [outS, backS, List.set_cons_zero, List.set_cons_succ, List.getElem?_cons_zero, List.getElem?_cons_succ, Option.getD_some]) <;> rfl)))
    | (refine' wm_pop_snoc rfl ?qg ?_; (case qg => ((try simp only [outS, backS, List.set_cons_zero, List.set_cons_succ, List.getElem?_cons_zero, List.getElem?_cons_succ, Option.getD_some]) <;> rfl)))
    | (refine' wm_pop_map rfl ?qn ?qg ?_; (case qn => (first | assumption | (simp; done))); (case qg => ((try simp only [outS, backS, List.set_cons_zero, List.set_cons_succ, List.getElem?_cons_zero, List.getElem?_cons_succ, Option.getD_some]) <;> rfl))))
  | (refine' wst_map rfl ?qn rfl ?qg ?_; (case qn => kwd_rel); (case qg => ((try simp only [outS, backS, List.set_cons_zero, List.set_cons_succ, List.getElem?_cons_zero, List.getElem?_cons_succ, Option.getD_some]) <;> rfl)))
  | (refine' wst_en rfl ?qn ?qg ?_; (case qn => kwd_rel); (case qg => ((try simp only [outS, backS, List.set_cons_zero, List.set_cons_succ, List.getElem?_cons_zero, List.getElem?_cons_succ, Option.getD_some]) <;> rfl))))
local macro_rules | `(tactic| tb_start) => `(tactic| repeat tb_rel)
local macro_rules | `(tactic| top_name) => `(tactic| first | exact parB_nil _ _ _ (Nat.le_of_ble_eq_true rfl) | rfl)
local macro_rules | `(tactic| top_args) => `(tactic| first | rfl | exact argOk_nil _ _ (by ktr_rel) | (simp [argOk, en_f, en_fl]; done) | (show argOk _ 0 _ = true; simp [argOk, en_f, en_fl, *]; done))
local macro_rules | `(tactic| kt_len) => `(tactic| repeat (first | exact av_nil | refine' av_lo ?_ | (refine' av_own ?qf ?_; (case qf => ktr_rel)) | (refine' av_vw ?qz ?_; (case qz => (first | rfl | (simp [en_fz, en_fzl]; rfl)))) | (refine' av_any ?qz ?_; (case qz => (first | rfl | (simp [en_fz, en_fzl]; rfl))))))
local macro_rules | `(tactic| kt_eqs) => `(tactic| ((try simp only [outS, backS, List.set_cons_zero, List.set_cons_succ, List.getElem?_cons_zero, List.getElem?_cons_succ, Option.getD_some]) <;> rfl))
local macro_rules | `(tactic| top_raise) => `(tactic| first | (refine' wo (g := .ix) (s_ix_Tn ?qn) ?_; (case qn => kwd_rel)) | (refine' wo (g := .ix) (s_ix_On ?qn) ?_; (case qn => kwd_rel)))
/-- each next one more or one less -/
def adj : List Nat → Prop
  | [] => True
  | [_] => True
  | a :: b :: l => (b = a + 1 ∨ a = b + 1) ∧ adj (b :: l)
theorem adj_zip : ∀ {l : List Nat}, adj l → ∀ q ∈ l.zip (l.drop 1), q.2 = q.1 + 1 ∨ q.1 = q.2 + 1
  | [], _, q, h => by simp at h
  | [a], _, q, h => by simp at h
  | a :: b :: l, h, q, hq => by
    simp only [List.drop_one, List.tail_cons, List.zip_cons_cons, List.mem_cons] at hq
    rcases hq with rfl | hq
    · exact h.1
    · exact adj_zip (l := b :: l) h.2 q (by simpa using hq)
theorem it_zip {α β : Type} [Enc α] [Enc β] {o o' : Bool} {l : List α} {l' : List β} : iterOf .zip [.own (.lst o (l.map en)), .own (.lst o' (l'.map en))] = some ((l.zip l').map fun q => .tup [en q.1, en q.2], true) := by
  show some (ziT (fzL (l.map en)) (fzL (l'.map en)), true) = _
  rw [en_fzl, en_fzl]
  unfold ziT
  rw [List.zip_map, List.map_map]
  rfl
theorem s_it_zip {α β : Type} [Enc α] [Enc β] {o o' : Bool} {l : List α} {l' : List β} : oIt .zip [.own (.lst o (l.map en)), .own (.lst o' (l'.map en))] = some ((l.zip l').map fun q => .tup [en q.1, en q.2], true) := by rw [oIt_eq]; exact it_zip
theorem it_rvd {α : Type} [Enc α] {o : Bool} {l : List α} : iterOf .rvd [.own (.lst o (l.map en))] = some (l.reverse.map en, true) := by
  show some ((fzL (l.map en)).reverse, true) = _
  rw [en_fzl, List.map_reverse]
theorem s_it_rvd {α : Type} [Enc α] {o : Bool} {l : List α} : oIt .rvd [.own (.lst o (l.map en))] = some (l.reverse.map en, true) := by rw [oIt_eq]; exact it_rvd
variable {p : Pg}
/-- sizes as they may be -/
structure SzOk (ss : List Nat) : Prop where
  ne : ss ≠ []
  len : ss.length < 100000
  adj : adj ss
theorem are_sizes_ok (u : U_are_sizes p) {n : Nat} {ss : List Nat} (h : SzOk ss) : Det p (n + 2) "are_sizes" [ls ss] (.bl true) := by
  have hl := h.len
  refine o_are_sizes u ?_
  tb_start
  refine wo_eq rfl rfl (eq_nil (α := Nat) (l := ss) (fun a _ => sh_nat _ a)) ?_
  have hne : decide (ss = []) = false := decide_eq_false h.ne
  rw [hne]
  tb_start
  refine wlc0 (g := fun _ : Nat => .bl true) (fun i hi => ?_) ?_
  · tb_start
    refine wcd (is_amount_N u.is_amount i) ?_
    tb_start
  tb_start
  refine wo s_it_zip ?_
  tb_start
  have hz : (ss.zip (ss.drop 1)).length ≤ 16777216 := by simp; omega
  refine wlc0 (g := fun _ : Nat × Nat => .bl true) (fun q hq => ?_) ?_
  · have hz := adj_zip h.adj q hq
    obtain ⟨a, b⟩ := q
    tb_start
    refine wo (s_abs_int _) ?_
    tb_start
    have e : decide ((if ((a : Int) - (b : Int)) < 0 then -((a : Int) - (b : Int)) else ((a : Int) - (b : Int))) = ((1 : Nat) : Int)) = true := by
      refine decide_eq_true ?_
      rcases hz with hz | hz <;> simp only at hz <;> split <;> omega
    rw [e]
    tb_start
  tb_start
  simp
theorem need_kept_ok (u : U_need_kept p) {n m k : Nat} {ss : List Nat} (h : SzOk ss) (hm : m < ss.length) (hk : k < ss[m]) : Det p (n + 3) "need_kept" [ls ss, .int m, .int k] .non := by
  refine o_need_kept u ?_
  tb_start
  refine wcd (are_sizes_ok u.are_sizes h) ?_
  tb_start
  refine wcd (is_amount_N u.is_amount m) ?_
  tb_start
  refine wcd (is_amount_N u.is_amount k) ?_
  tb_start
  rfl
/-- the first one no greater than k; i is the first one's number -/
def fbGo (k : Nat) : Nat → List Nat → Option Nat
  | _, [] => none
  | i, s :: l => if s ≤ k then some i else fbGo k (i + 1) l
theorem first_broken_ok (u : U_first_broken p) {n m k : Nat} {ss : List Nat} (hl : ss.length < 100000) (hm : m < ss.length) : Det p (n + 1) "first_broken" [ls ss, .int m, .int k] (en (fbGo k m (ss.drop m))) := by
  refine o_first_broken u ?_
  tb_start
  refine wfor (l := List.range' m (ss.length - m)) (f := en) (fun l G => ∃ (i : Nat) (o3 : Option T), G = [some (ls ss), some (.int m), some (.int k), o3] ∧ l = List.range' i (ss.length - i) ∧ i ≤ ss.length ∧ fbGo k i (ss.drop i) = fbGo k m (ss.drop m)) ⟨m, none, rfl, rfl, by omega, rfl⟩ ?_ ?_
  · rintro i l G ⟨i0, o3, rfl, e1, hi, e⟩
    obtain ⟨rfl, h0, e3⟩ := range'_cons e1
    have hi' : i < ss.length := by omega
    rw [List.drop_eq_getElem_cons hi', fbGo] at e
    tb_start
    refine wif_d (fun h => ?_) (fun h => ?_)
    · rw [if_pos h] at e
      tb_start
      rw [← e]; rfl
    · rw [if_neg h] at e
      tb_start
      exact ⟨i + 1, _, rfl, e3, by omega, e⟩
  · rintro G ⟨i, o3, rfl, e1, hi, e⟩
    have h0 : ss.length - i = 0 := by
      have := congrArg List.length e1
      simpa using this.symm
    rw [List.drop_eq_nil_of_le (by omega)] at e
    tb_start
    rw [← e]; rfl
theorem broken_ok (u : U_broken p) {n m k : Nat} {ss : List Nat} (h : SzOk ss) (hm : m < ss.length) (hk : k < ss[m]) : Det p (n + 4) "broken" [ls ss, .int m, .int k] (en (fbGo k m (ss.drop m))) := by
  refine o_broken u ?_
  tb_start
  refine wcd (need_kept_ok u.need_kept h hm hk) ?_
  tb_start
  refine wcd (first_broken_ok u.first_broken h.len hm) ?_
  tb_start
  rfl
theorem holds_ok (u : U_holds p) {n m k : Nat} {ss : List Nat} (h : SzOk ss) (hm : m < ss.length) (hk : k < ss[m]) : Det p (n + 4) "holds" [ls ss, .int m, .int k] (.bl (fbGo k m (ss.drop m)).isNone) := by
  refine o_holds u ?_
  tb_start
  refine wcd (need_kept_ok u.need_kept h hm hk) ?_
  tb_start
  refine wcd (first_broken_ok u.first_broken h.len hm) ?_
  cases fbGo k m (ss.drop m) with
  | none => tb_start; rfl
  | some i => tb_start; rfl
/-- the least from each on -/
def leastOn : List Nat → List Nat
  | [] => []
  | s :: l => (match leastOn l with | [] => s | m :: _ => min m s) :: leastOn l
theorem leastOn_len : ∀ l, (leastOn l).length = l.length
  | [] => rfl
  | s :: l => by rw [leastOn, List.length_cons, leastOn_len l, List.length_cons]
theorem held_ok (u : U_held p) {n : Nat} {ss : List Nat} (h : SzOk ss) : Det p (n + 3) "held" [ls ss] (lo (leastOn ss)) := by
  have hl := h.len
  have hne := h.ne
  refine o_held u ?_
  tb_start
  refine wcd (are_sizes_ok u.are_sizes h) ?_
  tb_start
  refine wo s_it_rvd ?_
  tb_start
  refine wfor (l := ss.reverse) (f := en) (fun l G => ∃ (a b : List Nat) (m : Nat) (o3 : Option T), G = [some (ls ss), some (lo (leastOn b).reverse), some (.int m), o3] ∧ ss = a ++ b ∧ l = a.reverse ∧ (match leastOn b with | [] => b = [] ∧ m = ss.getLast hne | x :: _ => m = x)) ⟨ss, [], _, none, rfl, by simp, rfl, rfl, rfl⟩ ?_ ?_
  · rintro s l G ⟨a, b, m, o3, rfl, e1, e2, e3⟩
    obtain ⟨a, rfl⟩ : ∃ a', a = a' ++ [s] := by
      have := congrArg List.reverse e2
      rw [List.reverse_reverse, List.reverse_cons] at this
      exact ⟨_, this.symm⟩
    have e2 : l = a.reverse := by simpa using e2
    have hb : (leastOn b).length = b.length := leastOn_len b
    have hs : ss.length = a.length + 1 + b.length := by rw [e1]; simp; omega
    have key : leastOn (s :: b) = min m s :: leastOn b := by
      rw [leastOn]
      cases hb2 : leastOn b with
      | nil =>
        rw [hb2] at e3
        obtain ⟨h1, h2⟩ := e3
        subst h1
        have : ss.getLast hne = s := by simp only [e1, List.append_nil, List.getLast_concat]
        rw [h2, this]
        simp
      | cons x r =>
        rw [hb2] at e3
        rw [e3]
    tb_start
    refine wm_app_map (f := en) (z := min m s) rfl rfl rfl (by simp; omega) (by ((try simp only [outS, backS, List.set_cons_zero, List.set_cons_succ, List.getElem?_cons_zero, List.getElem?_cons_succ, Option.getD_some]) <;> rfl)) ?_
    tb_start
    refine ⟨a, s :: b, min m s, _, by rw [key, List.reverse_cons], by rw [e1]; simp, e2, ?_⟩
    rw [key]
  · rintro G ⟨a, b, m, o3, rfl, e1, e2, _⟩
    have : a = [] := by simpa using e2.symm
    subst this
    have e1 : ss = b := by simpa using e1
    subst e1
    tb_start
    rw [List.reverse_reverse]
end QX

set_option Elab.async false
set_option linter.all false
set_option maxRecDepth 100000
/-! kept numbers and traced places: plain laws -/
namespace QX
theorem szs_cons (s : Nat) (ds : List De) : ∃ r, szs s ds = s :: r := by
  cases ds with
  | nil => exact ⟨[], rfl⟩
  | cons d ds => exact ⟨_, rfl⟩
theorem adj_szs : ∀ {ds : List De} {s : Nat}, okL s ds → adj (szs s ds)
  | [], s, _ => trivial
  | d :: ds, s, h => by
    obtain ⟨r, e⟩ := szs_cons (d.nx s) ds
    have h2 := adj_szs (ds := ds) h.2
    rw [szs, e]
    rw [e] at h2
    refine ⟨?_, h2⟩
    cases d with
    | inn => exact .inl rfl
    | out k => exact .inr (by have : k < s := h.1; simp only [De.nx]; omega)
theorem szok_szs {ds : List De} {s : Nat} (h : okL s ds) (hl : ds.length < 10000) : SzOk (szs s ds) :=
  ⟨by obtain ⟨r, e⟩ := szs_cons s ds; rw [e]; simp, by rw [szs_len]; omega, adj_szs h⟩
theorem szs_drop : ∀ (ds : List De) (s m : Nat), m ≤ ds.length → (szs s ds).drop m = szs (endS s (ds.take m)) (ds.drop m)
  | [], s, m, h => by
    have : m = 0 := by simpa using h
    subst this; rfl
  | d :: ds, s, 0, h => rfl
  | d :: ds, s, m + 1, h => by
    simp only [szs, List.drop_succ_cons, List.take_succ_cons]
    rw [szs_drop ds _ m (by simpa using h)]
    rfl
theorem fbGo_ge (k : Nat) : ∀ (l : List Nat) (i b : Nat), fbGo k i l = some b → i ≤ b
  | [], i, b, h => by simp [fbGo] at h
  | s :: l, i, b, h => by
    rw [fbGo] at h
    split at h
    · cases h; exact Nat.le_refl _
    · have := fbGo_ge k l (i + 1) b h
      omega
/-- the least of all -/
def leastOf : List Nat → Nat
  | [] => 0
  | s :: l => (match leastOn l with | [] => s | m :: _ => min m s)
theorem leastOn_head (s : Nat) (l : List Nat) : leastOn (s :: l) = leastOf (s :: l) :: leastOn l := rfl
theorem leastOf_cons (s b : Nat) (l : List Nat) : leastOf (s :: b :: l) = min (leastOf (b :: l)) s := rfl
theorem leastOn_get : ∀ (l : List Nat) (m : Nat) (h : m < (leastOn l).length), (leastOn l)[m] = leastOf (l.drop m)
  | [], m, h => by simp [leastOn] at h
  | s :: l, 0, h => by simp [leastOn_head]
  | s :: l, m + 1, h => by
    simp only [leastOn_head, List.getElem_cons_succ, List.drop_succ_cons]
    exact leastOn_get l m _
theorem least_le : ∀ (l : List Nat), ∀ x ∈ l, leastOf l ≤ x
  | [], x, h => by simp at h
  | [s], x, h => by simp at h; subst h; exact Nat.le_refl _
  | s :: b :: l, x, h => by
    rw [leastOf_cons]
    rcases List.mem_cons.mp h with rfl | h
    · omega
    · have := least_le (b :: l) x h
      omega
theorem fb_least (k : Nat) : ∀ (l : List Nat) (i : Nat), l ≠ [] → (fbGo k i l = none ↔ k < leastOf l)
  | [], i, h => absurd rfl h
  | [s], i, _ => by
    simp only [fbGo]
    show _ ↔ k < s
    split <;> simp <;> omega
  | s :: b :: l, i, _ => by
    have ih := fb_least k (b :: l) (i + 1) (by simp)
    rw [fbGo, leastOf_cons]
    split
    · simp; omega
    · rw [ih]; omega
/-- where they stand at last -/
def fin (p : Nat) (tr : List (Nat × Option Nat)) : Option Nat := match tr.getLast? with
  | none => some p
  | some q => q.2
theorem fin_cons (p i : Nat) (o : Option Nat) (q : Nat) (r : List (Nat × Option Nat)) (h : o = some q ∨ r ≠ []) : fin p ((i, o) :: r) = fin q r := by
  unfold fin
  cases r with
  | nil => rcases h with h | h
           · subst h; rfl
           · exact absurd rfl h
  | cons a r => rfl
/-- at last below all sizes, and no higher than at first -/
theorem fin_lt : ∀ (ds : List De) (s p i f : Nat), okL s ds → p < s → fin p (trGo s p i ds) = some f → f ≤ p ∧ f < leastOf (szs s ds)
  | [], s, p, i, f, _, hp, h => by
    simp only [trGo, fin, List.getLast?_nil, Option.some.injEq] at h
    subst h
    exact ⟨Nat.le_refl _, hp⟩
  | .inn :: ds, s, p, i, f, hok, hp, h => by
    obtain ⟨h1, h2⟩ := fin_lt ds (s + 1) p (i + 1) f hok.2 (by omega) h
    obtain ⟨r, e⟩ := szs_cons (s + 1) ds
    refine ⟨h1, ?_⟩
    rw [szs, De.nx, e, leastOf_cons]
    rw [e] at h2
    omega
  | .out k :: ds, s, p, i, f, hok, hp, h => by
    have hk : k < s := hok.1
    obtain ⟨r, e⟩ := szs_cons (s - 1) ds
    rw [trGo] at h
    rw [szs, De.nx, e, leastOf_cons]
    split at h
    · simp [fin] at h
    · rename_i hkp
      split at h
      · rename_i hps
        rw [fin_cons p (i + 1) (some k) k _ (.inl rfl)] at h
        obtain ⟨h1, h2⟩ := fin_lt ds (s - 1) k (i + 1) f hok.2 (by omega) h
        rw [e] at h2
        omega
      · obtain ⟨h1, h2⟩ := fin_lt ds (s - 1) p (i + 1) f hok.2 (by omega) h
        rw [e] at h2
        omega
/-- the first move is just at the break -/
theorem tr_fb : ∀ (ds : List De) (s p i : Nat), okL s ds → p < s → match trGo s p i ds with
    | [] => fbGo p i (szs s ds) = none
    | (j, none) :: r => r = [] ∧ ∀ b, fbGo p i (szs s ds) = some b → j ≤ b
    | (j, some q) :: r => q < p ∧ fbGo p i (szs s ds) = some j ∧ ∀ f, fin q r = some f → f ≤ q
  | [], s, p, i, _, hp => by
    simp only [trGo, szs, fbGo]
    rw [if_neg (by omega)]
  | .inn :: ds, s, p, i, hok, hp => by
    have ih := tr_fb ds (s + 1) p (i + 1) hok.2 (by omega)
    rw [trGo]
    simp only [szs, fbGo, De.nx]
    rw [if_neg (by omega)]
    exact ih
  | .out k :: ds, s, p, i, hok, hp => by
    have hk : k < s := hok.1
    rw [trGo]
    simp only [szs, fbGo, De.nx]
    rw [if_neg (show ¬ s ≤ p by omega)]
    split
    · rename_i h
      split at h
      · cases h
      · split at h
        · cases h
        · rename_i h1 h2
          have ih := tr_fb ds (s - 1) p (i + 1) hok.2 (by omega)
          rw [h] at ih
          exact ih
    · rename_i j r h
      split at h
      · cases h
        exact ⟨rfl, fun b hb => fbGo_ge _ _ _ _ hb⟩
      · split at h
        · cases h
        · have ih := tr_fb ds (s - 1) p (i + 1) hok.2 (by omega)
          rw [h] at ih
          exact ih
    · rename_i j q r h
      split at h
      · cases h
      · split at h
        · rename_i h1 h2
          cases h
          refine ⟨by omega, ?_, fun f hf => (fin_lt ds (s - 1) k (i + 1) f hok.2 (by omega) hf).1⟩
          obtain ⟨r, e⟩ := szs_cons (s - 1) ds
          rw [e, fbGo, if_pos (by omega)]
        · rename_i h1 h2
          have ih := tr_fb ds (s - 1) p (i + 1) hok.2 (by omega)
          rw [h] at ih
          exact ih
theorem szs_ne (s : Nat) (ds : List De) : szs s ds ≠ [] := by
  obtain ⟨r, e⟩ := szs_cons s ds
  rw [e]; simp
theorem fin_own {ds : List De} {s p i : Nat} (hok : okL s ds) (hp : p < s) : fin p (trGo s p i ds) = some p ↔ p < leastOf (szs s ds) ∧ fin p (trGo s p i ds) ≠ none := by
  have h := tr_fb ds s p i hok hp
  have hl := fb_least p (szs s ds) i (szs_ne s ds)
  revert h
  cases ht : trGo s p i ds with
  | nil =>
    intro h
    refine ⟨fun _ => ⟨hl.mp h, by simp [fin]⟩, fun _ => rfl⟩
  | cons a r =>
    obtain ⟨j, o⟩ := a
    cases o with
    | none =>
      rintro ⟨rfl, _⟩
      simp [fin]
    | some q =>
      rintro ⟨h1, h2, h3⟩
      rw [fin_cons p j (some q) q r (.inl rfl)]
      refine ⟨fun h => ?_, fun ⟨h, _⟩ => ?_⟩
      · have := h3 p h; omega
      · rw [hl.mpr h] at h2; cases h2
theorem least_head (s : Nat) (ds : List De) : leastOf (szs s ds) ≤ s := by
  obtain ⟨r, e⟩ := szs_cons s ds
  exact least_le _ _ (by rw [e]; simp)
theorem filt_len {α : Type} (q : α → Bool) : ∀ l : List α, (l.filter q).length + (l.filter fun a => !q a).length = l.length
  | [] => rfl
  | a :: l => by
    have := filt_len q l
    cases h : q a <;> simp [List.filter_cons, h] <;> omega
/-- as many keep their place as the least size, less those who went -/
theorem own_count {ds : List De} {s i : Nat} (hok : okL s ds) :
    ((List.range s).filter fun p => decide (fin p (trGo s p i ds) = some p)).length + ((List.range (leastOf (szs s ds))).filter fun p => decide (fin p (trGo s p i ds) = none)).length = leastOf (szs s ds) := by
  have hL := least_head s ds
  generalize hLe : leastOf (szs s ds) = L at *
  have h1 : (List.range s).filter (fun p => decide (fin p (trGo s p i ds) = some p)) = (List.range L).filter (fun p => !decide (fin p (trGo s p i ds) = none)) := by
    have e : List.range s = List.range L ++ List.range' L (s - L) := by
      have z : List.range' 0 L ++ List.range' (0 + L) (s - L) = List.range' 0 (L + (s - L)) := List.range'_append_1
      rw [Nat.zero_add, show L + (s - L) = s by omega] at z
      rw [List.range_eq_range', List.range_eq_range']
      exact z.symm
    rw [e, List.filter_append]
    have e2 : (List.range' L (s - L)).filter (fun p => decide (fin p (trGo s p i ds) = some p)) = [] := by
      rw [List.filter_eq_nil_iff]
      intro p hp
      simp only [List.mem_range'_1] at hp
      rw [decide_eq_true_eq, fin_own hok (by omega), hLe]
      omega
    rw [e2, List.append_nil]
    refine List.filter_congr fun p hp => ?_
    simp only [List.mem_range] at hp
    rw [← decide_not]
    refine decide_eq_decide.mpr ?_
    rw [fin_own hok (by omega), hLe]
    exact ⟨fun h => h.2, fun h => ⟨hp, h⟩⟩
  rw [h1]
  have := filt_len (fun p => decide (fin p (trGo s p i ds) = none)) (List.range L)
  rw [List.length_range] at this
  omega
end QX

set_option Elab.async false
set_option linter.all false
set_option maxRecDepth 100000
/-! rows of unlike numbers, and where one of them stands -/
namespace QX
/-- unlike ones, none of those who are still to come -/
structure Fresh {α : Type} (f : Nat → α) (row : List α) (c : Nat) : Prop where
  nd : row.Nodup
  nc : ∀ k, c ≤ k → f k ∉ row
theorem Fresh.inn {α : Type} {f : Nat → α} (hf : ∀ i j, f i = f j → i = j) {row : List α} {c : Nat} (h : Fresh f row c) : Fresh f (row ++ [f c]) (c + 1) := by
  refine ⟨?_, fun k hk hm => ?_⟩
  · rw [List.nodup_append]
    exact ⟨h.nd, by simp, fun a ha b hb e => by simp at hb; subst hb; subst e; exact h.nc c (Nat.le_refl _) ha⟩
  · rcases List.mem_append.mp hm with hm | hm
    · exact h.nc k (by omega) hm
    · simp at hm
      have := hf _ _ hm
      omega
theorem nd_at {α : Type} {l : List α} (h : l.Nodup) {i j : Nat} {a : α} (hi : l[i]? = some a) (hj : l[j]? = some a) : i = j := by
  obtain ⟨hi1, hi2⟩ := List.getElem?_eq_some_iff.mp hi
  obtain ⟨hj1, hj2⟩ := List.getElem?_eq_some_iff.mp hj
  have hp := List.pairwise_iff_getElem.mp h
  rcases Nat.lt_trichotomy i j with z | z | z
  · exact absurd (hi2.trans hj2.symm) (hp i j hi1 hj1 z)
  · exact z
  · exact absurd (hj2.trans hi2.symm) (hp j i hj1 hi1 z)
theorem nd_of {α : Type} {l : List α} (h : ∀ (i j : Nat) (a : α), l[i]? = some a → l[j]? = some a → i = j) : l.Nodup := by
  refine List.pairwise_iff_getElem.mpr fun i j hi hj hij e => ?_
  have := h i j l[i] (List.getElem?_eq_getElem hi) (by rw [e]; exact List.getElem?_eq_getElem hj)
  omega
theorem nodup_set_last {α : Type} {r : List α} {x : α} {k : Nat} (h : (r ++ [x]).Nodup) : (r.set k x).Nodup := by
  have key : ∀ (i : Nat) (a : α), (r.set k x)[i]? = some a → (i ≠ k ∧ (r ++ [x])[i]? = some a) ∨ (i = k ∧ a = x ∧ k < r.length) := fun i a hi => by
    rw [List.getElem?_set] at hi
    by_cases h1 : k = i
    · rw [if_pos h1] at hi
      by_cases h2 : k < r.length
      · rw [if_pos h2] at hi
        exact .inr ⟨h1.symm, by simpa using hi.symm, h2⟩
      · rw [if_neg h2] at hi; cases hi
    · rw [if_neg h1] at hi
      exact .inl ⟨fun z => h1 z.symm, by rw [List.getElem?_append_left (List.getElem?_eq_some_iff.mp hi).1]; exact hi⟩
  have hx : (r ++ [x])[r.length]? = some x := by simp
  refine nd_of fun i j a hi hj => ?_
  have hjl : ∀ (i : Nat) (a : α), (r.set k x)[i]? = some a → i < r.length := fun i a hi => by simpa using (List.getElem?_eq_some_iff.mp hi).1
  have b1 := hjl i a hi
  have b2 := hjl j a hj
  rcases key i a hi with ⟨h1, h2⟩ | ⟨h1, rfl, h3⟩
  · rcases key j a hj with ⟨h4, h5⟩ | ⟨h4, rfl, h6⟩
    · exact nd_at h h2 h5
    · have := nd_at h h2 hx; omega
  · rcases key j a hj with ⟨h4, h5⟩ | ⟨h4, h5, h6⟩
    · have := nd_at h h5 hx; omega
    · omega
theorem mem_cut {α : Type} {row : List α} {k : Nat} {x : α} (h : x ∈ cut row k) : x ∈ row := by
  by_cases h0 : row = []
  · subst h0; simp [cut] at h
  · obtain ⟨r, z, rfl⟩ := snoc_of h0
    rw [cut_snoc] at h
    split at h
    · rcases List.mem_or_eq_of_mem_set h with h | h
      · exact List.mem_append_left _ h
      · subst h; simp
    · exact List.mem_append_left _ h
theorem Fresh.cut {α : Type} {f : Nat → α} {row : List α} {c k : Nat} (h : Fresh f row c) : Fresh f (cut row k) c := by
  refine ⟨?_, fun j hj hm => h.nc j hj (mem_cut hm)⟩
  by_cases h0 : row = []
  · subst h0; simp [QX.cut]
  · obtain ⟨r, z, rfl⟩ := snoc_of h0
    rw [cut_snoc]
    split
    · exact nodup_set_last h.nd
    · exact (List.nodup_append.mp h.nd).1
theorem fresh_go {α : Type} {f : Nat → α} (hf : ∀ i j, f i = f j → i = j) : ∀ (ds : List De) (row : List α) (c : Nat), Fresh f row c → Fresh f (rowGo f row c ds) (c + ins ds)
  | [], row, c, h => h
  | .inn :: ds, row, c, h => by
    have z := fresh_go hf ds _ _ (h.inn hf)
    rw [rowGo, ins_inn, show c + (ins ds + 1) = c + 1 + ins ds by omega]
    exact z
  | .out k :: ds, row, c, h => by
    rw [rowGo, ins_out]
    exact fresh_go hf ds _ _ h.cut
theorem rowGo_notin {α : Type} {f : Nat → α} {x : α} : ∀ (ds : List De) (row : List α) (c : Nat), x ∉ row → (∀ j, c ≤ j → f j ≠ x) → x ∉ rowGo f row c ds
  | [], row, c, h, _ => h
  | .inn :: ds, row, c, h, hn => rowGo_notin ds _ _ (fun hm => by
      rcases List.mem_append.mp hm with hm | hm
      · exact h hm
      · simp at hm; exact hn c (Nat.le_refl _) hm.symm) fun j hj => hn j (by omega)
  | .out k :: ds, row, c, h, hn => rowGo_notin ds _ _ (fun hm => h (mem_cut hm)) hn
/-- where the one at p stands behind deeds -/
theorem where_at {α : Type} {f : Nat → α} (hf : ∀ i j, f i = f j → i = j) : ∀ (ds : List De) (row : List α) (c p i : Nat) (x : α), Fresh f row c → okL row.length ds → row[p]? = some x →
    match fin p (trGo row.length p i ds) with
      | some q => (rowGo f row c ds)[q]? = some x
      | none => x ∉ rowGo f row c ds
  | [], row, c, p, i, x, hfr, _, hx => hx
  | .inn :: ds, row, c, p, i, x, hfr, hok, hx => by
    have hp : p < row.length := (List.getElem?_eq_some_iff.mp hx).1
    have z := where_at hf ds (row ++ [f c]) (c + 1) p (i + 1) x (hfr.inn hf) (by simpa [De.nx] using hok.2) (by rw [List.getElem?_append_left hp]; exact hx)
    rw [rowGo, trGo]
    rw [List.length_append, List.length_singleton] at z
    exact z
  | .out k :: ds, row, c, p, i, x, hfr, hok, hx => by
    have hk : k < row.length := hok.1
    have hp : p < row.length := (List.getElem?_eq_some_iff.mp hx).1
    have hok2 : okL (cut row k).length ds := by rw [cut_len]; exact hok.2
    obtain ⟨r, z, rfl⟩ := snoc_pos hk
    rw [rowGo, trGo]
    have hl : (r ++ [z]).length - 1 = (cut (r ++ [z]) k).length := by rw [cut_len]
    have hlr : (cut (r ++ [z]) k).length = r.length := by rw [cut_len]; simp
    by_cases hkp : k = p
    · subst hkp
      rw [if_pos rfl]
      simp only [fin, List.getLast?_singleton]
      refine rowGo_notin ds _ c (fun hm => ?_) fun j hj e => hfr.nc j hj (by rw [e]; exact List.mem_of_getElem? hx)
      have nd := hfr.nd
      have hz : (r ++ [z])[r.length]? = some z := by simp
      rw [cut_snoc] at hm
      by_cases hkr : k < r.length
      · rw [if_pos hkr] at hm
        obtain ⟨q, hq⟩ := List.mem_iff_getElem?.mp hm
        have hq2 := (List.getElem?_eq_some_iff.mp hq).1
        rw [List.length_set] at hq2
        rw [List.getElem?_set] at hq
        by_cases h1 : k = q
        · rw [if_pos h1, if_pos hkr] at hq
          have : z = x := by simpa using hq
          subst this
          have := nd_at nd hx hz; omega
        · rw [if_neg h1] at hq
          have := nd_at nd hx (by rw [List.getElem?_append_left hq2]; exact hq); omega
      · rw [if_neg hkr] at hm
        have e : k = r.length := by simp at hk; omega
        subst e
        have : z = x := by simpa using hx
        subst this
        obtain ⟨q, hq⟩ := List.mem_iff_getElem?.mp hm
        have hq2 := (List.getElem?_eq_some_iff.mp hq).1
        have := nd_at nd hz (by rw [List.getElem?_append_left hq2]; exact hq); omega
    · rw [if_neg hkp]
      by_cases hps : p = (r ++ [z]).length - 1
      · have hkr : k < r.length := by simp at hk hps; omega
        have hx2 : (cut (r ++ [z]) k)[k]? = some x := by
          have : x = z := by
            rw [hps] at hx
            simp at hx
            exact hx.symm
          rw [cut_snoc, if_pos hkr, this]
          simp [hkr]
        have w := where_at hf ds _ c k (i + 1) x hfr.cut hok2 hx2
        rw [if_pos hps, fin_cons p (i + 1) (some k) k _ (.inl rfl), hl]
        exact w
      · have hpr : p < r.length := by simp at hp hps; omega
        have hx2 : (cut (r ++ [z]) k)[p]? = some x := by
          rw [List.getElem?_append_left hpr] at hx
          rw [cut_snoc]
          split
          · rw [List.getElem?_set, if_neg hkp]; exact hx
          · exact hx
        have w := where_at hf ds _ c p (i + 1) x hfr.cut hok2 hx2
        rw [if_neg hps, hl]
        exact w
end QX

set_option Elab.async false
set_option linter.all false
set_option maxRecDepth 100000
/-! kept numbers, by all rows -/
namespace QX
def rowAt (many : Nat) (ds : List De) (k : Nat) : List Nat := rowGo (many + ·) (List.range many) 0 (ds.take k)
theorem gone_len (many : Nat) (ds : List De) : (gone many ds).length = ds.length + 1 := by unfold gone; rw [rowsGo_len]
theorem gone_get {many : Nat} {ds : List De} {k : Nat} (h : k < (gone many ds).length) : (gone many ds)[k] = rowAt many ds k := rowsGo_get (many + ·) ds (List.range many) 0 k h
theorem rowAt_len (many : Nat) (ds : List De) (k : Nat) : (rowAt many ds k).length = endS many (ds.take k) := by
  unfold rowAt; rw [rowGo_len]; simp [endS]
theorem fresh0 (many : Nat) : Fresh (many + ·) (List.range many) 0 := ⟨List.nodup_range, fun k _ => by simp⟩
theorem inj_add (many : Nat) : ∀ i j : Nat, many + i = many + j → i = j := fun i j h => by omega
theorem rowAt_fresh (many : Nat) (ds : List De) (k : Nat) : Fresh (many + ·) (rowAt many ds k) (0 + ins (ds.take k)) := fresh_go (inj_add many) _ _ _ (fresh0 many)
theorem rowAt_on {many : Nat} {ds : List De} {m k : Nat} (h : m ≤ k) : rowAt many ds k = rowGo (many + ·) (rowAt many ds m) (0 + ins (ds.take m)) ((ds.drop m).take (k - m)) := by
  unfold rowAt
  rw [← rowGo_append]
  congr 1
  rw [← List.take_add]
  congr 1; omega
theorem stand {many : Nat} {ds : List De} (hok : okL many ds) {m k sp x : Nat} (h : m ≤ k) (hx : (rowAt many ds m)[sp]? = some x) :
    match fin sp (trGo (endS many (ds.take m)) sp m ((ds.drop m).take (k - m))) with
      | some q => (rowAt many ds k)[q]? = some x
      | none => x ∉ rowAt many ds k := by
  have h1 := okL_take (k - m) (okL_drop m hok)
  have z := where_at (inj_add many) ((ds.drop m).take (k - m)) (rowAt many ds m) (0 + ins (ds.take m)) sp m x (rowAt_fresh many ds m) (by rw [rowAt_len]; exact h1) hx
  rw [rowAt_on h]
  rw [rowAt_len] at z
  exact z
theorem own_at {many : Nat} {ds : List De} (hok : okL many ds) {m k sp x : Nat} (h : m ≤ k) (hx : (rowAt many ds m)[sp]? = some x) :
    (rowAt many ds k)[sp]? = some x ↔ sp < leastOf (szs (endS many (ds.take m)) ((ds.drop m).take (k - m))) ∧ x ∈ rowAt many ds k := by
  have h1 : okL (endS many (ds.take m)) ((ds.drop m).take (k - m)) := okL_take (k - m) (okL_drop m hok)
  have hs : sp < endS many (ds.take m) := by
    rw [← rowAt_len]; exact (List.getElem?_eq_some_iff.mp hx).1
  have z := stand hok h hx
  have o := fin_own (i := m) h1 hs
  have nd := (rowAt_fresh many ds k).nd
  cases hf : fin sp (trGo (endS many (ds.take m)) sp m ((ds.drop m).take (k - m))) with
  | none =>
    rw [hf] at z
    exact ⟨fun e => absurd (List.mem_of_getElem? e) z, fun e => absurd e.2 z⟩
  | some q =>
    rw [hf] at z o
    refine ⟨fun e => ?_, fun ⟨e, _⟩ => ?_⟩
    · have := nd_at nd z e
      subst this
      exact ⟨(o.mp rfl).1, List.mem_of_getElem? e⟩
    · have := o.mpr ⟨e, by simp⟩
      cases this
      exact z
theorem szs_take : ∀ (ds : List De) (s t : Nat), szs s (ds.take t) = (szs s ds).take (t + 1)
  | [], s, t => by simp [szs]
  | d :: ds, s, 0 => by simp [szs]
  | d :: ds, s, t + 1 => by simp only [List.take_succ_cons, szs, szs_take ds]
theorem least_mem : ∀ (l : List Nat), l ≠ [] → leastOf l ∈ l
  | [], h => absurd rfl h
  | [s], _ => by show s ∈ [s]; simp
  | s :: b :: l, _ => by
    rw [leastOf_cons]
    have := least_mem (b :: l) (by simp)
    rcases Nat.le_total (leastOf (b :: l)) s with h | h
    · rw [Nat.min_eq_left h]; exact List.mem_cons_of_mem _ this
    · rw [Nat.min_eq_right h]; simp
/-- the first ones of two searches -/
theorem take1 (P D : Nat → Bool) : ∀ (n a : Nat), (∀ k, a ≤ k → k < a + n → (P k = true ↔ ∃ j, a ≤ j ∧ j ≤ k ∧ D j = true)) → ((List.range' a n).filter P).take 1 = ((List.range' a n).filter D).take 1
  | 0, a, _ => rfl
  | n + 1, a, h => by
    rw [List.range'_succ, List.filter_cons, List.filter_cons]
    have h0 := h a (Nat.le_refl _) (by omega)
    cases hd : D a with
    | true =>
      have : P a = true := h0.mpr ⟨a, Nat.le_refl _, Nat.le_refl _, hd⟩
      simp [this]
    | false =>
      have hp : P a = false := by
        cases e : P a with
        | false => rfl
        | true =>
          obtain ⟨j, h1, h2, h3⟩ := h0.mp e
          have : j = a := by omega
          subst this
          rw [hd] at h3; cases h3
      simp only [hp, Bool.false_eq_true, if_false]
      refine take1 P D n (a + 1) fun k h1 h2 => ?_
      rw [h k (by omega) (by omega)]
      refine ⟨fun ⟨j, h3, h4, h5⟩ => ⟨j, ?_, h4, h5⟩, fun ⟨j, h3, h4, h5⟩ => ⟨j, by omega, h4, h5⟩⟩
      rcases Nat.lt_or_ge a j with h6 | h6
      · exact h6
      · have : j = a := by omega
        subst this
        rw [hd] at h5; cases h5
theorem fb_filter (p : Nat) (ss : List Nat) : ∀ (l : List Nat) (i : Nat), (∀ j, j < l.length → l[j]? = ss[i + j]?) → fbGo p i l = ((List.range' i l.length).filter fun k => decide (ss.getD k 0 ≤ p)).head?
  | [], i, _ => rfl
  | s :: l, i, h => by
    have h0 := h 0 (by simp)
    simp only [List.getElem?_cons_zero, Nat.add_zero] at h0
    have e : ss.getD i 0 = s := by rw [List.getD_eq_getElem?_getD, ← h0]; rfl
    rw [fbGo, List.length_cons, List.range'_succ, List.filter_cons, e]
    by_cases hs : s ≤ p
    · simp [hs]
    · rw [if_neg hs]
      simp only [hs, decide_false, Bool.false_eq_true, if_false]
      exact fb_filter p ss l (i + 1) fun j hj => by
        have := h (j + 1) (by simpa using hj)
        simp only [List.getElem?_cons_succ] at this
        rw [this]; congr 1; omega
theorem fb_due (p : Nat) (ss : List Nat) (m : Nat) : fbGo p m (ss.drop m) = ((List.range' m (ss.length - m)).filter fun k => decide (ss.getD k 0 ≤ p)).head? := by
  have := fb_filter p ss (ss.drop m) m fun j hj => by rw [List.getElem?_drop]
  rw [List.length_drop] at this
  exact this
end QX

set_option Elab.async false
set_option linter.all false
set_option maxRecDepth 100000
/-! sizes alone: plain laws -/
namespace QX
theorem foldl_least : ∀ (l : List Nat) (a : Nat), l.foldl min a = leastOf (a :: l)
  | [], a => rfl
  | b :: l, a => by
    rw [List.foldl_cons, foldl_least l (min a b)]
    cases l with
    | nil => show min a b = min b a; omega
    | cons c l => rw [leastOf_cons, leastOf_cons, leastOf_cons]; omega
theorem drop_ne {l : List Nat} {j : Nat} (h : j < l.length) : ∃ a r, l.drop j = a :: r := by
  cases e : l.drop j with
  | nil => have := congrArg List.length e; simp at this; omega
  | cons a r => exact ⟨a, r, rfl⟩
theorem adj_snoc : ∀ {l : List Nat} {z w : Nat}, adj (l ++ [z]) → (w = z + 1 ∨ z = w + 1) → adj (l ++ [z] ++ [w])
  | [], z, w, _, h => ⟨h, trivial⟩
  | [a], z, w, h1, h => ⟨h1.1, h, trivial⟩
  | a :: b :: l, z, w, h1, h => ⟨h1.1, adj_snoc (l := b :: l) h1.2 h⟩
theorem szok_snoc {r : List Nat} {z w : Nat} (h : SzOk (r ++ [z])) (hl : r.length < 90000) (h2 : w = z + 1 ∨ z = w + 1) : SzOk (r ++ [z] ++ [w]) :=
  ⟨by simp, by simp; omega, adj_snoc h.adj h2⟩
theorem adj_add (c : Nat) : ∀ {l : List Nat}, adj l → adj (l.map (· + c))
  | [], _ => trivial
  | [a], _ => trivial
  | a :: b :: l, h => ⟨by have := h.1; show b + c = a + c + 1 ∨ a + c = b + c + 1; omega, adj_add c (l := b :: l) h.2⟩
theorem szok_add (c : Nat) {ss : List Nat} (h : SzOk ss) : SzOk (ss.map (· + c)) :=
  ⟨by simpa using h.ne, by simpa using h.len, adj_add c h.adj⟩
theorem fb_add (c k : Nat) : ∀ (l : List Nat) (i : Nat), fbGo (k + c) i (l.map (· + c)) = fbGo k i l
  | [], i => rfl
  | s :: l, i => by
    rw [List.map_cons, fbGo, fbGo, fb_add c k l (i + 1)]
    by_cases h : s ≤ k
    · rw [if_pos h, if_pos (by omega)]
    · rw [if_neg h, if_neg (by omega)]
theorem fb_step {k m : Nat} {ss : List Nat} (h : m < ss.length) : fbGo k m (ss.drop m) = if ss[m] ≤ k then some m else fbGo k (m + 1) (ss.drop (m + 1)) := by
  rw [List.drop_eq_getElem_cons h, fbGo]
theorem fb_gt {k m : Nat} {ss : List Nat} (h : m < ss.length) (hk : k < ss[m]) (b : Nat) (hb : fbGo k m (ss.drop m) = some b) : m < b := by
  rw [fb_step h, if_neg (by omega)] at hb
  have := fbGo_ge _ _ _ _ hb
  omega
/-- asked later, ahead of the break -/
theorem fb_later {k : Nat} {ss : List Nat} {R : Option Nat} : ∀ (d m : Nat), fbGo k m (ss.drop m) = R → (∀ b, R = some b → m + d < b) → m + d < ss.length →
    fbGo k (m + d) (ss.drop (m + d)) = R ∧ ∀ h : m + d < ss.length, k < ss[m + d]
  | 0, m, e, hb, hl => by
    have hl' : m < ss.length := hl
    refine ⟨e, fun _ => ?_⟩
    show k < ss[m]
    rw [fb_step hl'] at e
    rcases Nat.lt_or_ge k ss[m] with h | h
    · exact h
    · rw [if_pos h] at e
      have := hb m e.symm
      omega
  | d + 1, m, e, hb, hl => by
    have hl' : m < ss.length := by omega
    have hn : ¬ ss[m] ≤ k := fun h => by
      rw [fb_step hl', if_pos h] at e
      have := hb m e.symm
      omega
    rw [fb_step hl', if_neg hn] at e
    have := fb_later (ss := ss) d (m + 1) e (fun b h => by have := hb b h; omega) (by omega)
    rw [show m + 1 + d = m + (d + 1) by omega] at this
    exact this
end QX

set_option Elab.async false
set_option linter.all false
set_option maxRecDepth 100000
/-! lists of numbers, of texts: is it there, and where -/
namespace QX
open PySem
theorem scal_nats (l : List Nat) : (l.map en).all scalT = true := by
  rw [List.all_map, List.all_eq_true]
  intro a _
  rfl
theorem eqS_nat (a x : Nat) : eqS (en a) (.int x) = decide (a = x) := by
  show ((a : Int) == (x : Int)) = _
  by_cases h : a = x
  · subst h; simp
  · have : ¬ (a : Int) = (x : Int) := by omega
    simp [h, this]
theorem any_eq {α : Type} [DecidableEq α] (x : α) : ∀ l : List α, (l.any fun a => decide (a = x)) = decide (x ∈ l)
  | [] => by simp
  | a :: l => by
    rw [List.any_cons, any_eq x l]
    by_cases h : a = x
    · subst h; simp
    · have h' : ¬ x = a := fun e => h e.symm
      simp [h, h']
theorem in_nats {o : Bool} {x : Nat} {l : List Nat} : inOp (.int x) (.lst o (l.map en)) = some (decide (x ∈ l)) := by
  show inT (.int x) (l.map en) = _
  unfold inT
  rw [show scalT (.int x) = true from rfl, scal_nats]
  simp only [Bool.and_self, if_true, List.any_map]
  rw [← any_eq]
  congr 2
  funext a
  exact eqS_nat a x
theorem idx_nats : ∀ {l : List Nat} {q x : Nat}, l.Nodup → l[q]? = some x → idxS (.int x) (l.map en) = some q
  | [], q, x, _, h => by simp at h
  | a :: l, 0, x, nd, h => by
    simp only [List.getElem?_cons_zero, Option.some.injEq] at h
    subst h
    rw [List.map_cons, idxS, eqS_nat]
    simp
  | a :: l, q + 1, x, nd, h => by
    simp only [List.getElem?_cons_succ] at h
    have hne : a ≠ x := fun e => by
      subst e
      exact (List.nodup_cons.mp nd).1 (List.mem_of_getElem? h)
    rw [List.map_cons, idxS, eqS_nat, idx_nats (List.nodup_cons.mp nd).2 h]
    simp [hne]
theorem s_idx_nats {v : Ev} {o : Bool} {l : List Nat} {q x : Nat} (hv : v.tr = some (.lst o (l.map en))) (nd : l.Nodup) (h : l[q]? = some x) : metop .index v [.own (.int x)] = some (.own (.int (q : Nat))) := by
  unfold metop
  rw [hv]
  show (if (scalT (.int x) && (l.map en).all scalT) = true then _ else _) = _
  rw [scal_nats, idx_nats nd h]
  rfl
/-! nothing given away in it -/
theorem lo_noF {α : Type} [Enc α] (h : ∀ a : α, (en a).noF = true) (l : List α) : (lo l).noF = true := by
  show (true && noFL (l.map en)) = true
  rw [noFL_all, List.all_map, Bool.true_and, List.all_eq_true]
  exact fun a _ => h a
theorem nf_nat (n : Nat) : (en n).noF = true := rfl
theorem nf_opt (o : Option Nat) : (en o).noF = true := by cases o <;> rfl
theorem nf_row (q : Nat × Option Nat) : (en q).noF = true := by
  show (T.noF (en q.1) && (T.noF (en q.2) && true)) = true
  rw [nf_nat, nf_opt]; rfl
theorem nf_who (w : Who) : (en w).noF = true := by cases w <;> rfl
theorem noR {b : Bool} {t : T} (h : t.noF = true) : (b || t.noF) = true := by rw [h, Bool.or_true]
theorem arf_any {G : Sl} {t t' : T} {es : List Ev} {ts : List T} (e : t.fz = t') (h : allRf G es = some ts) : allRf G (.own t :: es) = some (t' :: ts) := by rw [allRf, h, e]; rfl
theorem arf_rf {G : Sl} {i : Nat} {t : T} {es : List Ev} {ts : List T} (h0 : slotT G i = some t) (h : allRf (G.set i none) es = some ts) : allRf G (.rf i :: es) = some (t :: ts) := by
  rw [allRf, h0]
  simp only [h]; rfl
theorem ls_fz {α : Type} [Enc α] (l : List α) : (ls l).fz = ls l := by show T.lst false (fzL (l.map en)) = _; rw [en_fzl]
end QX

set_option Elab.async false
set_option linter.all false
set_option maxRecDepth 100000
set_option maxHeartbeats 8000000
namespace K07
open PySem QX
/-! short words for the steps -/
local macro_rules | `(tactic| ktr_rel) => `(tactic| first | rfl | exact en_f _ | exact en_fl _ | assumption | (simp [en_f, en_fl]; done))
local macro_rules | `(tactic| kwd_rel) => `(tactic| first | assumption | omega | (simp only [List.length_append, List.length_map, List.length_cons, List.length_nil, List.length_replicate, List.length_range, List.length_dropLast, List.length_set] at *; omega))
local macro_rules | `(tactic| tb_rel) => `(tactic| first
  | (refine' atWE ?_; first
    | (refine' we_var_lt rfl ?_) | (refine' we_var rfl ?qf ?_; (case qf => ktr_rel)) | (refine' we_var_vw rfl rfl ?_)
    | refine' we_intL ?_ | refine' we_int ?_ | refine' we_str ?_ | refine' we_ix ?_ | refine' we_cmp ?_ | refine' we_bin ?_ | refine' we_cal ?_ | refine' we_bfn ?_ | refine' we_tup ?_ | refine' we_lst ?_ | refine' we_not ?_ | refine' we_isi ?_
    | refine' we_bl ?_ | refine' we_non ?_
    | (refine' we_mov rfl ?qg ?_; (case qg => ((try simp only [outS, backS, List.set_cons_zero, List.set_cons_succ, List.getElem?_cons_zero, List.getElem?_cons_succ, Option.getD_some]) <;> rfl))) | (refine' we_shr rfl ?qz ?qg ?_; (case qz => (first | exact fz_int _ | exact lo_fz _ | exact lol_fz _ | exact en_fz _ | exact fz_str _ | (simp [en_fz, en_fzl]; rfl) | rfl)); (case qg => ((try simp only [outS, backS, List.set_cons_zero, List.set_cons_succ, List.getElem?_cons_zero, List.getElem?_cons_succ, Option.getD_some]) <;> rfl))) | refine' we_ref rfl ?_
    | refine' we_and ?_ | refine' we_and1 ?_ | refine' we_or ?_ | refine' we_or1 ?_ | refine' we_clk ?_
    | refine' we_negL ?_ | refine' we_neg1 ?_ | refine' we_neg ?_ | refine' we_ite ?_ | refine' we_chn ?_
    | refine' we_isN ?_ | refine' we_noN ?_ | refine' we_isB ?_ | refine' we_noB ?_ | refine' we_sl0 ?_ | refine' we_slL ?_ | refine' we_slH ?_ | refine' we_slB ?_ | refine' we_rev ?_ | refine' we_lrg ?_ | refine' we_met ?_ | refine' we_lc ?_ | refine' we_mut rfl ?_)
  | (refine' atWO ?_; first
    | (refine' atCmp ?_; first
      | refine' wo (g := .cmp .lt) (s_cmp_ltN _ _) ?_ | refine' wo (g := .cmp .le) (s_cmp_leN _ _) ?_ | refine' wo (g := .cmp .gt) (s_cmp_gtN _ _) ?_ | refine' wo (g := .cmp .ge) (s_cmp_geN _ _) ?_
      | refine' wo (g := .cmp .lt) (s_cmp_lt _ _) ?_ | refine' wo (g := .cmp .le) (s_cmp_le _ _) ?_ | refine' wo (g := .cmp .gt) (s_cmp_gt _ _) ?_ | refine' wo (g := .cmp .ge) (s_cmp_ge _ _) ?_
      | (refine' wo_eq rfl rfl ?qe ?_; (case qe => (first | exact eq_nat _ _ | exact eqS_t _ (by decide +kernel) | exact eqS_f _ _ (by decide +kernel) (by decide +kernel) (by decide +kernel) | assumption | exact eq_int _ _ | exact eq_bl _ _ | exact eq_non))) | (refine' wo_ne rfl rfl ?qe ?_; (case qe => (first | exact eq_nat _ _ | exact eqS_t _ (by decide +kernel) | exact eqS_f _ _ (by decide +kernel) (by decide +kernel) (by decide +kernel) | assumption | exact eq_int _ _ | exact eq_bl _ _ | exact eq_non))))
    | (refine' atIx ?_; first
      | (refine' wo (g := .ix) (s_ix_mapO ?qn) ?_; (case qn => kwd_rel)) | (refine' wo (g := .ix) (s_ix_mapV ?qn ?qf) ?_; (case qn => kwd_rel); (case qf => ktr_rel))
      | refine' wo (g := .ix) (s_ix_O at_snoc) ?_ | (refine' wo (g := .ix) (s_ix_V at_snoc ?qf) ?_; (case qf => ktr_rel))
      | (refine' wo (g := .ix) (s_ix_O (at_last ?qn)) ?_; (case qn => (first | assumption | (simp; done)))) | (refine' wo (g := .ix) (s_ix_V (at_last ?qn) ?qf) ?_; (case qn => (first | assumption | (simp; done))); (case qf => ktr_rel))
      | refine' wo (g := .ix) (s_ix_T rfl) ?_ | refine' wo (g := .ix) (s_ix_O rfl) ?_ | (refine' wo (g := .ix) (s_ix_V rfl ?qf) ?_; (case qf => ktr_rel)))
    | refine' wo (g := .isn) (u := _) rfl ?_ | refine' wo (g := .neg) (u := _) rfl ?_ | refine' wo (g := .blo) (u := _) rfl ?_
    | refine' wfm_own ?_ | refine' wo (g := .tru) (truth_bl _) ?_ | (refine' wo (g := .own) ?qy ?_; (case qy => (repeat first | exact ao_nil | apply ao_cons)))
    | (refine' atBf ?_; first
      | refine' wo (g := .bf .len) (s_len_map ⟨_, rfl⟩) ?_ | refine' wo (g := .bf .len) (s_len_l ⟨_, rfl⟩) ?_ | refine' wo (g := .bf .len) (s_len_t rfl) ?_
      | refine' wo (g := .bf .all) (s_all_map ⟨_, rfl⟩) ?_
      | refine' wo (g := .bf .max) (s_max_nat _ _) ?_ | refine' wo (g := .bf .min) (s_min_nat _ _) ?_ | refine' wo (g := .bf .max) (s_max_int _ _) ?_ | refine' wo (g := .bf .min) (s_min_int _ _) ?_
      | refine' wo (g := .bf .list) (s_list_l rfl lk_o) ?_ | (refine' wo (g := .bf .list) (s_list_l rfl (lk_v ?qf)) ?_; (case qf => ktr_rel)) | (refine' wo (g := .bf .list) (s_list_t ?qf) ?_; (case qf => ktr_rel)) | refine' wo (g := .bf .tuple) (s_tuple_l rfl lk_o) ?_ | (refine' wo (g := .bf .tuple) (s_tuple_l rfl (lk_v ?qf)) ?_; (case qf => ktr_rel)))
    | (refine' atBin ?_; first
      | refine' wo (g := .bin .add) (s_bin_addN _ _) ?_ | (refine' wo (g := .bin .mul) (s_bin_mulN ?qn ?qm) ?_; (case qn => kwd_rel); (case qm => kwd_rel)) | (refine' wo (g := .bin .mod) (s_bin_modN ?qn) ?_; (case qn => kwd_rel)) | (refine' wo (g := .bin .fdiv) (s_bin_divN ?qn ?qm) ?_; (case qn => kwd_rel); (case qm => kwd_rel)) | (refine' wo (g := .bin .add) (s_bin_addM ?qn) ?_; (case qn => kwd_rel)) | (refine' wo (g := .bin .sub) (s_bin_subN ?qn) ?_; (case qn => kwd_rel)) | refine' wo (g := .bin .add) (s_bin_add _ _) ?_ | refine' wo (g := .bin .sub) (s_bin_sub _ _) ?_)
    | (refine' atSl ?_; first
      | refine' wo (g := .sl) (s_sl_H rfl lk_o) ?_ | refine' wo (g := .sl) (s_sl_L rfl lk_o) ?_ | refine' wo (g := .sl) (s_sl_B rfl lk_o) ?_ | refine' wo (g := .sl) (s_sl_Hn rfl lk_o) ?_ | refine' wo (g := .sl) (s_sl_Ln rfl lk_o) ?_ | refine' wo (g := .sl) (s_sl_0 rfl lk_o) ?_
      | (refine' wo (g := .sl) (s_sl_H rfl (lk_v ?qf)) ?_; (case qf => ktr_rel)) | (refine' wo (g := .sl) (s_sl_L rfl (lk_v ?qf)) ?_; (case qf => ktr_rel)) | (refine' wo (g := .sl) (s_sl_B rfl (lk_v ?qf)) ?_; (case qf => ktr_rel)) | (refine' wo (g := .sl) (s_sl_Hn rfl (lk_v ?qf)) ?_; (case qf => ktr_rel)) | (refine' wo (g := .sl) (s_sl_Ln rfl (lk_v ?qf)) ?_; (case qf => ktr_rel)) | (refine' wo (g := .sl) (s_sl_0 rfl (lk_v ?qf)) ?_; (case qf => ktr_rel)))
    | refine' wo (g := .rv) (rev_l rfl lk_o) ?_ | (refine' wo (g := .rv) (rev_l rfl (lk_v ?qf)) ?_; (case qf => ktr_rel))
    | (refine' wo_isi rfl ?qs ?_; (case qs => (first | exact isT_int_int | exact isT_int_bool | exact isT_int_str | exact isT_int_tuple | exact isT_int_list | exact isT_int_list_tuple | exact isT_tuple_int | exact isT_tuple_bool | exact isT_tuple_str | exact isT_tuple_tuple | exact isT_tuple_list | exact isT_tuple_list_tuple | exact isT_list_int | exact isT_list_bool | exact isT_list_str | exact isT_list_tuple | exact isT_list_list | exact isT_list_list_tuple | exact isT_str_int | exact isT_str_bool | exact isT_str_str | exact isT_str_tuple | exact isT_str_list | exact isT_str_list_tuple | exact isT_bool_int | exact isT_bool_bool | exact isT_bool_str | exact isT_bool_tuple | exact isT_bool_list | exact isT_bool_list_tuple | exact isT_NoneType_int | exact isT_NoneType_bool | exact isT_NoneType_str | exact isT_NoneType_tuple | exact isT_NoneType_list | exact isT_NoneType_list_tuple)))
    | (refine' atIt ?_; first
      | (refine' wo (g := .it .val) (s_it_val ?qf) ?_; (case qf => ktr_rel)) | (refine' wo (g := .it .val) (s_it_tup ?qf) ?_; (case qf => ktr_rel)) | refine' wo (g := .it .enm) s_it_enm ?_
      | (refine' wo (g := .it .rng) (s_it_rng ?qn) ?_; (case qn => kwd_rel)) | (refine' wo (g := .it .rng) (s_it_rng2 ?qn ?qm) ?_; (case qn => kwd_rel); (case qm => kwd_rel)))
    | (refine' wbt_nm ?ql ?qg ?_; (case ql => (first | exact Nat.le_of_ble_eq_true rfl | (simp; done))); (case qg => ((try simp only [outS, backS, List.set_cons_zero, List.set_cons_succ, List.getElem?_cons_zero, List.getElem?_cons_succ, Option.getD_some]) <;> rfl))) | refine' wbt_tp ?_ | refine' wbl_cons ?_ | refine' wbl_nil ?_
    | (refine' wfm_vw ?qf ?_; (case qf => ktr_rel))
    | (refine' wo (g := .lr) (lrg_ok ?qn) ?_; (case qn => kwd_rel)))
  | refine' tr_and rfl ?_
  | (refine' atWL ?_; first | refine' wl_cons ?_ | refine' wl_nil ?_)
  | (refine' atIf ?_; first
    | refine' wif_t rfl ?_ | refine' wif_f rfl ?_
    | (refine' wif_t ?qi ?_; (case qi => (first | assumption | exact decide_eq_true (by first | assumption | omega) | (simp [*]; done))))
    | (refine' wif_f ?qi ?_; (case qi => (first | assumption | exact decide_eq_false (by first | assumption | omega) | (simp [*]; done)))))
  | (refine' atWS ?_; first
    | refine' ws_iff ?_ | refine' ws_frz ?_ | refine' ws_asg ?_ | refine' ws_asl ?_ | refine' ws_exp ?_ | refine' ws_ret ?_ | refine' ws_retN ?_ | refine' ws_frr ?_ | refine' ws_aug_add rfl ?_ | refine' ws_aug_sub rfl ?_ | refine' ws_aug rfl rfl ?_ | refine' ws_brk ?_ | refine' ws_cnt ?_ | refine' ws_pas ?_ | refine' ws_rse ?_ | refine' ws_par ?_)
  | (refine' atWB ?_; first | refine' wb_cons ?_ | refine' wb_nil ?_)
  | (refine' atBd ?_; first | refine' wbd_nm ?_ | refine' wbd_sb rfl ?_ | refine' wbd_tp rfl ?_)
  | (refine' wset ?ql ?qg ?_; (case ql => (first | exact Nat.le_of_ble_eq_true rfl | (simp; done))); (case qg => ((try simp only [outS, backS, List.set_cons_zero, List.set_cons_succ, List.getElem?_cons_zero, List.getElem?_cons_succ, Option.getD_some]) <;> rfl)))
  | (refine' welt ?qz ?qg; (case qg => ((try simp only [outS, backS, List.set_cons_zero, List.set_cons_succ, List.getElem?_cons_zero, List.getElem?_cons_succ, Option.getD_some]) <;> rfl)); (case qz => (first | exact en_fz _ | rfl | (simp [en_fz, en_fzl]; done)))) | (refine' welt_vw ?qf ?qz ?qg; (case qg => ((try simp only [outS, backS, List.set_cons_zero, List.set_cons_succ, List.getElem?_cons_zero, List.getElem?_cons_succ, Option.getD_some]) <;> rfl)); (case qf => ktr_rel); (case qz => (first | exact en_fz _ | rfl | (simp [en_fz, en_fzl]; done))))
  | (refine' wfrz rfl ?qz ?qg ?_; (case qz => (first | exact fz_int _ | exact lo_fz _ | exact lol_fz _ | exact en_fz _ | exact fz_str _ | (simp [en_fz, en_fzl]; rfl) | rfl)); (case qg => ((try simp only [outS, backS, List.set_cons_zero, List.set_cons_succ, List.getElem?_cons_zero, List.getElem?_cons_succ, Option.getD_some]) <;> rfl)))
  | refine' wfil_t rfl ?_ | (refine' wfil_f rfl ?qg; (case qg => ((try simp only [outS, backS, List.set_cons_zero, List.set_cons_succ, List.getElem?_cons_zero, List.getElem?_cons_succ, Option.getD_some]) <;> rfl)))
  | refine' wpar rfl ?_ | (refine' wrf rfl ?qg ?_; (case qg => ((try simp only [outS, backS, List.set_cons_zero, List.set_cons_succ, List.getElem?_cons_zero, List.getElem?_cons_succ, Option.getD_some]) <;> rfl)))
  | refine' wint rfl ?_
  | refine' wnat ?_ | refine' le_and (Nat.le_of_ble_eq_true rfl) ?_ | (refine' le_and ?qn ?_; (case qn => kwd_rel)) | refine' wbds_cons ?_ | refine' wbds_nil ?_
  | (refine' atMut ?_; first
    | (refine' wm_app_map rfl rfl rfl ?qn ?qg ?_; (case qn => kwd_rel); (case qg => ((try simp only [outS, backS, List.set_cons_zero, List.set_cons_succ, List.getElem?_cons_zero, List.getElem?_cons_succ, Option.getD_some]) <;> rfl)))
    | (refine' wm_appO _ rfl rfl ?qn ?qg ?_; (case qn => kwd_rel); (case qg => ((try simp only [outS, backS, List.set_cons_zero, List.set_cons_succ, List.getElem?_cons_zero, List.getElem?_cons_succ, Option.getD_some]) <;> rfl)))
    | (refine' wm_pop_snoc rfl ?qg ?_; (case qg => ((try simp only [outS, backS, List.set_cons_zero, List.set_cons_succ, List.getElem?_cons_zero, List.getElem?_cons_succ, Option.getD_some]) <;> rfl)))
    | (refine' wm_pop_map rfl ?qn ?qg ?_; (case qn => (first | assumption | (simp; done))); (case qg => ((try simp only [outS, backS, List.set_cons_zero, List.set_cons_succ, List.getElem?_cons_zero, List.getElem?_cons_succ, Option.getD_some]) <;> rfl))))
  | (refine' wst_map rfl ?qn rfl ?qg ?_; (case qn => kwd_rel); (case qg => ((try simp only [outS, backS, List.set_cons_zero, List.set_cons_succ, List.getElem?_cons_zero, List.getElem?_cons_succ, Option.getD_some]) <;> rfl)))
  | (refine' wst_en rfl ?qn ?qg ?_; (case qn => kwd_rel); (case qg => ((try simp only [outS, backS, List.set_cons_zero, List.set_cons_succ, List.getElem?_cons_zero, List.getElem?_cons_succ, Option.getD_some]) <;> rfl))))
local macro_rules | `(tactic| tb_start) => `(tactic| repeat tb_rel)
local macro_rules | `(tactic| top_name) => `(tactic| first | exact parB_nil _ _ _ (Nat.le_of_ble_eq_true rfl) | rfl)
local macro_rules | `(tactic| top_args) => `(tactic| first | rfl | exact argOk_nil _ _ (by ktr_rel) | (simp [argOk, en_f, en_fl]; done) | (show argOk _ 0 _ = true; simp [argOk, en_f, en_fl, *]; done))
local macro_rules | `(tactic| kt_len) => `(tactic| repeat (first | exact av_nil | refine' av_lo ?_ | (refine' av_own ?qf ?_; (case qf => ktr_rel)) | (refine' av_vw ?qz ?_; (case qz => (first | rfl | (simp [en_fz, en_fzl]; rfl)))) | (refine' av_any ?qz ?_; (case qz => (first | rfl | (simp [en_fz, en_fzl]; rfl))))))
local macro_rules | `(tactic| kt_eqs) => `(tactic| ((try simp only [outS, backS, List.set_cons_zero, List.set_cons_succ, List.getElem?_cons_zero, List.getElem?_cons_succ, Option.getD_some]) <;> rfl))
local macro_rules | `(tactic| top_raise) => `(tactic| first | (refine' wo (g := .ix) (s_ix_Tn ?qn) ?_; (case qn => kwd_rel)) | (refine' wo (g := .ix) (s_ix_On ?qn) ?_; (case qn => kwd_rel)))
variable {p : Pg}
theorem sizes_ok (u : U__law_sizes p) {n N : Nat} {t : T} (ht : Bag N t) {base : Nat} (hN : N < 1000000) :
    Call p (n + 2) "_law_sizes" [t, .int base] (fun v us => ∃ (ss : List Nat) (t' : T), SzOk ss ∧ ss.length ≤ 300 ∧ Bag (N + 300) t' ∧ v = lo ss ∧ us = [t', .int base]) noX := by
  refine o__law_sizes u ?_
  tb_start
  refine wcr (take_v1_ok u._law_take ht (m := 30) (by omega)) ?_
  rintro _ _ ⟨b0, t1, hb0, ht1, rfl, rfl⟩
  tb_start
  refine wcr (take_v1_ok u._law_take ht1 (m := 8) (by omega)) ?_
  rintro _ _ ⟨turns, t2, hc, ht2, rfl, rfl⟩
  tb_start
  refine wfor (f := en) (l := List.range (1 + turns)) (fun l G => ∃ (t' : T) (r : List Nat) (z N' : Nat) (o3 o4 o5 o6 : Option T), G = [some t', some (.int base), some (lo (r ++ [z])), o3, o4, o5, o6] ∧
      SzOk (r ++ [z]) ∧ r.length + 25 * l.length ≤ 225 ∧ Bag N' t' ∧ N' + 2 * l.length ≤ N + 30) ⟨t2, [], base + b0, N + 2, none, none, none, none, rfl, ⟨by simp, by simp, trivial⟩, by simp; omega, ht2, by simp; omega⟩ ?_ ?_
  · rintro i l G ⟨t', r, z, N', o3, o4, o5, o6, rfl, h1, h2, h3, h4⟩
    simp only [List.length_cons] at h2 h4
    tb_start
    refine wcr (take_v1_ok u._law_take h3 (m := 2) (by omega)) ?_
    rintro _ _ ⟨up, t3, hv, ht3, rfl, rfl⟩
    tb_start
    refine wcr (take_v1_ok u._law_take ht3 (m := 25) (by omega)) ?_
    rintro _ _ ⟨many, t4, hm, ht4, rfl, rfl⟩
    tb_start
    refine wfor (f := en) (l := List.range many) (fun l2 G => ∃ (r : List Nat) (z : Nat) (o5 o6 : Option T), G = [some t4, some (.int base), some (lo (r ++ [z])), some (en i), some (.int up), o5, o6] ∧
      SzOk (r ++ [z]) ∧ r.length + l2.length + 25 * l.length ≤ 225) ⟨r, z, _, _, rfl, h1, by simp; omega⟩ ?_ ?_
    · rintro j l2 G ⟨r, z, o5, o6, rfl, h1, h2⟩
      simp only [List.length_cons] at h2
      have hup : ∀ w, (w = z + 1 ∨ z = w + 1) → ∃ (r' : List Nat) (z' : Nat) (o5 o6 : Option T), [some t4, some (.int base), some (lo (r ++ [z] ++ [w])), some (en i), some (.int up), some (en j), some (.int ((w : Int) - z))] = [some t4, some (.int base), some (lo (r' ++ [z'])), some (en i), some (.int up), o5, o6] ∧
        SzOk (r' ++ [z']) ∧ r'.length + l2.length + 25 * l.length ≤ 225 := fun w hw => ⟨r ++ [z], w, _, _, rfl, szok_snoc h1 (by omega) hw, by simp; omega⟩
      tb_start
      have hgo : ∀ (w : Nat) (v : Int), v = (w : Int) - z → (w = z + 1 ∨ z = w + 1) → ∃ (r' : List Nat) (z' : Nat) (o5 o6 : Option T), [some t4, some (.int base), some (lo (r ++ [z] ++ [w])), some (en i), some (.int up), some (en j), some (.int v)] = [some t4, some (.int base), some (lo (r' ++ [z'])), some (en i), some (.int up), o5, o6] ∧
        SzOk (r' ++ [z']) ∧ r'.length + l2.length + 25 * l.length ≤ 225 := fun w v hv hw => hv ▸ hup w hw
      refine wif_d (fun h3 => ?_) (fun h3 => ?_)
      · tb_start
        exact hgo (z + 1) _ (by omega) (.inl rfl)
      · tb_start
        refine wif_d (fun h4 => ?_) (fun h4 => ?_)
        · tb_start
          exact hgo (z + 1) _ (by omega) (.inl rfl)
        · tb_start
          exact hgo (z - 1) _ (by omega) (.inr (by omega))
    · rintro G ⟨r, z, o5, o6, rfl, h1, h2⟩
      tb_start
      exact ⟨t4, r, z, N' + 2, _, _, _, _, rfl, h1, by simpa using h2, ht4, by omega⟩
  · rintro G ⟨t', r, z, N', o3, o4, o5, o6, rfl, h1, h2, h3, h4⟩
    tb_start
    exact ⟨r ++ [z], t', h1, by simp; simp at h2; omega, h3.up (by simp at h4; omega), rfl, rfl⟩
theorem min_slices {ss : List Nat} : (List.range ss.length).map (fun j => en (leastOf (ss.drop j))) = (leastOn ss).map en := by
  refine List.ext_getElem (by simp [leastOn_len]) fun i h1 h2 => ?_
  simp [leastOn_get]
theorem turns_ok (u : U_law p) {n N k base more : Nat} {s : List Int} {ss : List Nat} {t : T} {o7 o12 o13 o14 o15 o16 o17 o18 : Option T} {o6 o8 : Option Nat} {is : List Nat} {Ne : Sl → Prop} {Rt : T → Sl → Prop} {x : XP} (hss : SzOk ss) (hsl : ss.length ≤ 300) (ht : Bag N t) (hlen : is.length ≤ 30) (hN : N ≤ 20000)
    (hNe : ∀ t o12 o13 o14 o15 o16 o17 o18 (o6 o8 : Option Nat), Ne [some (ls s), some (.int k), some t, some (.int base), some (ls ss), some (ls (leastOn ss)), Option.map en o6, o7, Option.map en o8, some (.int more), some (ls (ss.map (· + more))), none, o12, o13, o14, o15, o16, o17, o18]) :
    WFor ⟨phi p (n + 7), p.gl, p.fu⟩ (.nm 6) (match c_law.body with | [.frr _ _ _ b, _] => (match b with | [_, _, _, _, _, _, _, _, _, .frr _ _ _ b2] => b2 | _ => []) | _ => []) (is.map en) [some (ls s), some (.int k), some t, some (.int base), some (ls ss), some (ls (leastOn ss)), Option.map en o6, o7, Option.map en o8, some (.int more), some (ls (ss.map (· + more))), none, o12, o13, o14, o15, o16, o17, o18] Ne Rt x := by
  have hlo := leastOn_len ss
  refine wfor (f := en) (fun l G => ∃ (t : T) (N : Nat) (o12 o13 o14 o15 o16 o17 o18 : Option T) (o6 o8 : Option Nat), G = [some (ls s), some (.int k), some t, some (.int base), some (ls ss), some (ls (leastOn ss)), Option.map en o6, o7, Option.map en o8, some (.int more), some (ls (ss.map (· + more))), none, o12, o13, o14, o15, o16, o17, o18] ∧ Bag N t ∧ N + 3 * l.length ≤ 20090) ⟨t, N, _, _, _, _, _, _, _, _, _, rfl, ht, by omega⟩ ?_ ?_
  · rintro j l2 G ⟨t, N, o12, o13, o14, o15, o16, o17, o18, o6, o8, rfl, ht, hN⟩
    simp only [List.length_cons] at hN
    have hne : 0 < ss.length := List.length_pos_iff.mpr hss.ne
    show WO _ (bindT _ _ _) fun G1 => WB _ _ _ _ _ _ _ _
    simp only [c_law]
    tb_start
    refine wcr (take_v1_ok u._law_take ht (m := ss.length) (by omega)) ?_
    rintro _ _ ⟨when, t4, hw, ht4, rfl, rfl⟩
    tb_start
    refine wcr (take_v1_ok u._law_take ht4 (m := 5) (by omega)) ?_
    rintro _ _ ⟨five, t5, hfv, ht5, rfl, rfl⟩
    tb_start
    obtain ⟨sp, hsp, hsp2⟩ : ∃ sp : Nat, (if (if ((ss[when] : Nat) : Int) - ((1 : Nat) : Int) < (((leastOn ss)[when] + five : Nat) : Int) - ((2 : Nat) : Int) then ((ss[when] : Nat) : Int) - ((1 : Nat) : Int) else (((leastOn ss)[when] + five : Nat) : Int) - ((2 : Nat) : Int)) > ((0 : Nat) : Int) then (if ((ss[when] : Nat) : Int) - ((1 : Nat) : Int) < (((leastOn ss)[when] + five : Nat) : Int) - ((2 : Nat) : Int) then ((ss[when] : Nat) : Int) - ((1 : Nat) : Int) else (((leastOn ss)[when] + five : Nat) : Int) - ((2 : Nat) : Int)) else ((0 : Nat) : Int)) = ((sp : Nat) : Int) ∧ (0 < ss[when] → sp < ss[when]) := by
      generalize ((leastOn ss)[when] + five : Nat) = a
      generalize ss[when] = b
      by_cases h1 : (b : Int) - ((1 : Nat) : Int) < (a : Int) - ((2 : Nat) : Int)
      · rw [if_pos h1]
        by_cases h2 : (b : Int) - ((1 : Nat) : Int) > ((0 : Nat) : Int)
        · rw [if_pos h2]
          exact ⟨b - 1, by omega, by omega⟩
        · rw [if_neg h2]
          exact ⟨0, rfl, by omega⟩
      · rw [if_neg h1]
        by_cases h2 : (a : Int) - ((2 : Nat) : Int) > ((0 : Nat) : Int)
        · rw [if_pos h2]
          exact ⟨a - 2, by omega, by omega⟩
        · rw [if_neg h2]
          exact ⟨0, rfl, by omega⟩
    rw [hsp]
    refine wif_d (fun hpos => ?_) (fun hpos => ?_)
    · have hk := hsp2 hpos
      have hbr := broken_ok u.broken (n := n + 3) hss hw hk
      have hho := holds_ok u.holds (n := n + 3) hss hw hk
      have hwm : when < (ss.map (· + more)).length := by simpa using hw
      have hkm : sp + more < (ss.map (· + more))[when] := by simp; omega
      have hbr2 := broken_ok u.broken (n := n + 3) (szok_add more hss) hwm hkm
      have hho2 := holds_ok u.holds (n := n + 3) (szok_add more hss) hwm hkm
      rw [← List.map_drop, fb_add] at hbr2 hho2
      have hleast := fb_least sp (ss.drop when) when (by
        intro e
        have := congrArg List.length e
        simp at this; omega)
      rw [← leastOn_get ss when (by omega)] at hleast
      have hlater := fun d R h => fb_later (k := sp) (ss := ss) (R := R) d when h
      have hfg := fb_gt hw hk
      have hfl := fb_due sp ss when
      have hlr : (List.range' when (ss.length - when)).length ≤ 16777216 := by simp; omega
      tb_start
      refine ⟨by cases o8 <;> rfl, ?_⟩
      refine wlcf (g := en) (q := fun k => decide (ss.getD k 0 ≤ sp)) (fun k' hk' => ?_) ?_
      · have hk2 : k' < ss.length := by simp at hk'; omega
        have e : ss.getD k' 0 = ss[k'] := by rw [List.getD_eq_getElem?_getD, List.getElem?_eq_getElem hk2]; rfl
        rw [e]
        tb_start
        refine wfil_d (fun _ => ?_) (fun _ => by ((try simp only [outS, backS, List.set_cons_zero, List.set_cons_succ, List.getElem?_cons_zero, List.getElem?_cons_succ, Option.getD_some]) <;> rfl))
        tb_start
      tb_start
      have hdl : ((List.range' when (ss.length - when)).filter fun k => decide (ss.getD k 0 ≤ sp)).length ≤ 400 := by
        refine Nat.le_trans (List.length_filter_le _ _) ?_
        simp; omega
      have hmem : ∀ k0 ∈ (List.range' when (ss.length - when)).filter (fun k => decide (ss.getD k 0 ≤ sp)), k0 < ss.length := fun k0 h => by
        have := (List.mem_filter.mp h).1
        simp at this; omega
      generalize (List.range' when (ss.length - when)).filter (fun k => decide (ss.getD k 0 ≤ sp)) = due at *
      rw [hfl] at hbr hho hbr2 hho2 hleast hlater hfg
      cases due with
      | nil =>
        have hend : ∀ d, d < ss.length - when → Det p (n + 7) "broken" [ls ss, .int ((when + d : Nat)), .int sp] .non := fun d hd => by
          have z := hlater d none rfl (fun b h => by cases h) (by omega)
          have z2 := broken_ok u.broken (n := n + 3) hss (m := when + d) (by omega) (z.2 (by omega))
          rw [z.1] at z2
          exact z2
        have hb : decide (sp < (leastOn ss)[when]) = true := decide_eq_true (hleast.mp rfl)
        have hpos2 : 0 < ss.length - when := by omega
        refine wo_ne rfl rfl (eq_nil (α := Nat) (l := []) (fun a _ => sh_nat _ a)) ?_
        tb_start
        refine wcd hho ?_
        tb_start
        refine wcd hbr ?_
        tb_start
        refine wcd (alike1_same u._law_alike 1 (.lst false [.bl true, .non]) (by simp [smT, smL]) (n + 5)) ?_
        tb_start
        refine wcd hho2 ?_
        tb_start
        refine wcd hbr2 ?_
        tb_start
        refine wcd (alike1_same u._law_alike 1 (.lst false [.bl true, .non]) (by simp [smT, smL]) (n + 5)) ?_
        tb_start
        refine wcd hho ?_
        tb_start
        refine wcr (take_v1_ok u._law_take ht5 (m := ss.length - when) hpos2) ?_
        rintro _ _ ⟨d, t6, hd, ht6, rfl, rfl⟩
        tb_start
        refine wcd (hend d hd) ?_
        tb_start
        exact ⟨t6, _, _, _, _, _, _, _, _, some j, o8, rfl, ht6, by omega⟩
      | cons k0 r =>
        have hk0 : when < k0 := hfg k0 rfl
        have hend : ∀ d, d < k0 - when → Det p (n + 7) "broken" [ls ss, .int ((when + d : Nat)), .int sp] (.int k0) := fun d hd => by
          have hkl : k0 < ss.length := hmem k0 List.mem_cons_self
          have z := hlater d (some k0) rfl (fun b h => by cases h; omega) (by omega)
          have z2 := broken_ok u.broken (n := n + 3) hss (m := when + d) (by omega) (z.2 (by omega))
          rw [z.1] at z2
          exact z2
        have hb : decide (sp < (leastOn ss)[when]) = false := decide_eq_false fun h => by
          have := hleast.mpr h
          cases this
        have hpos2 : 0 < k0 - when := by omega
        have hkb : k0 < ss.length := hmem k0 List.mem_cons_self
        have hk1 : when ≤ (k0 :: r)[0] := by simp; omega
        refine wo_ne rfl rfl (eq_nil (α := Nat) (l := k0 :: r) (fun a _ => sh_nat _ a)) ?_
        tb_start
        refine wo_eq rfl rfl (eq_nil (α := Nat) (l := k0 :: r) (fun a _ => sh_nat _ a)) ?_
        tb_start
        refine wcd hho ?_
        tb_start
        refine wcd hbr ?_
        tb_start
        refine wcd (alike1_same u._law_alike 1 (.lst false [.bl false, .int k0]) (by simp [smT, smL]) (n + 5)) ?_
        tb_start
        refine wcd hho2 ?_
        tb_start
        refine wcd hbr2 ?_
        tb_start
        refine wcd (alike1_same u._law_alike 1 (.lst false [.bl false, .int k0]) (by simp [smT, smL]) (n + 5)) ?_
        tb_start
        refine wcd hho ?_
        tb_start
        refine wcr (take_v1_ok u._law_take ht5 (m := k0 - when) hpos2) ?_
        rintro _ _ ⟨d, t6, hd, ht6, rfl, rfl⟩
        tb_start
        refine wcd (hend d hd) ?_
        tb_start
        exact ⟨t6, _, _, _, _, _, _, _, _, some j, o8, rfl, ht6, by omega⟩
    · tb_start
      exact ⟨t5, _, _, _, _, _, _, _, _, some j, o8, rfl, ht5, by omega⟩
  · rintro G ⟨t, N, o12, o13, o14, o15, o16, o17, o18, o6, o8, rfl, ht, hN⟩
    exact hNe _ _ _ _ _ _ _ _ _ _
theorem law_ok (u : U_law p) {n : Nat} (s : List Int) : Det p (n + 8) "law" [ls s] (.bl true) := by
  refine o_law u ?_
  tb_start
  refine wfor (f := en) (l := List.range (max 1 (min 4 s.length))) (fun l G => (∃ (o1 o2 o3 o4 o5 o7 o9 o10 o12 o13 o14 o15 o16 o17 o18 : Option T) (o6 o8 : Option Nat), G = [some (ls s), o1, o2, o3, o4, o5, o6.map en, o7, o8.map en, o9, o10, none, o12, o13, o14, o15, o16, o17, o18]) ∧ ∀ k ∈ l, k < 4) ⟨⟨none, none, none, none, none, none, none, none, none, none, none, none, none, none, none, none, none, rfl⟩, fun k h => by simp at h; omega⟩ ?_ ?_
  · rintro k l G ⟨⟨o1, o2, o3, o4, o5, o7, o9, o10, o12, o13, o14, o15, o16, o17, o18, o6, o8, rfl⟩, hl⟩
    have hk : k < 4 := hl k List.mem_cons_self
    have hl' := fun t h => hl t (List.mem_cons_of_mem _ h)
    tb_start
    refine wc (cell_at_ok u._law_cell_at s k) ?_
    rintro _ _ ⟨cl, rfl⟩
    tb_start
    refine wc (bag_v1_ok u._law_bag cl k (by omega)) ?_
    rintro t0 _ ht0
    tb_start
    refine wcr (take_v1_ok u._law_take ht0 (m := 30) (by omega)) ?_
    rintro _ _ ⟨m1, t1, hm1, ht1, rfl, rfl⟩
    tb_start
    refine wo (g := .bin .pow) (u := .own (.int ((100000000000000000000000000000 : Nat) : Int))) (by rw [oBin_eq]; rfl) ?_
    tb_start
    refine wcr (take_v1_ok u._law_take ht1 (m := 3) (by omega)) ?_
    rintro _ _ ⟨w, t3, hw3, ht3, rfl, rfl⟩
    tb_start
    refine wo (s_ix_mapO (l := [0, m1, 100000000000000000000000000000]) (f := en) (j := w) (by simpa using hw3)) ?_
    tb_start
    generalize [0, m1, 100000000000000000000000000000][w]'(by simpa using hw3) = base
    refine wcr (sizes_ok u._law_sizes ht3 (base := base) (by omega)) ?_
    rintro _ _ ⟨ss, t4, hss, hsl, ht4, rfl, rfl⟩
    tb_start
    refine wcd (held_ok u.held (n := n + 4) hss) ?_
    tb_start
    refine ⟨by cases o6 <;> rfl, ?_⟩
    have hlr : (List.range ss.length).length ≤ 16777216 := by simp; omega
    have hlo := leastOn_len ss
    refine wlc0 (g := fun j : Nat => en (leastOf (ss.drop j))) (fun j hj => ?_) ?_
    · have hj : j < ss.length := by simpa using hj
      obtain ⟨a, r, e⟩ := drop_ne hj
      tb_start
      rw [e]
      refine wo (g := .bf .min) (s_min_list ⟨_, rfl⟩) ?_
      rw [foldl_least]
      tb_start
    tb_start
    rw [min_slices]
    refine wo_ne rfl rfl (eq_same (sh_list (d := 59) (fun a _ => sh_nat _ a)) (sh_list (d := 59) (fun a _ => sh_nat _ a)) rfl) ?_
    tb_start
    obtain ⟨r0, z0, e0⟩ := snoc_of hss.ne
    refine wfor (f := en) (l := List.range 3) (fun l G => ∃ (r : List Nat) (z : Nat) (o6 o8 : Option Nat), G = [some (ls s), some (.int k), some t4, some (.int base), some (ls ss), some (ls (leastOn ss)), o6.map en, some (lo (r ++ [z])), o8.map en, o9, o10, none, o12, o13, o14, o15, o16, o17, o18] ∧ SzOk (r ++ [z]) ∧ r.length + l.length ≤ 310) ⟨r0, z0, o6, o8, by rw [← e0], by rw [← e0]; exact hss, by
      have := congrArg List.length e0
      simp at this ⊢; omega⟩ ?_ ?_
    · rintro j6 l2 G ⟨r, z, o6, o8, rfl, h1, h2⟩
      simp only [List.length_cons] at h2
      tb_start
      refine wif_d (fun h3 => ?_) (fun h3 => ?_)
      · tb_start
        obtain ⟨w, hw0, hw⟩ : ∃ w, z + 1 = w ∧ (w = z + 1 ∨ z = w + 1) := ⟨_, rfl, .inl rfl⟩
        rw [hw0]
        have hsz := szok_snoc h1 (by omega) hw
        have hgl : (r ++ [z] ++ [w]).length = r.length + 2 := by simp
        have hgk : r ++ [z] ++ [w] = (r ++ [z]) ++ [w] := rfl
        have hms := min_slices (ss := r ++ [z] ++ [w])
        generalize hgg : r ++ [z] ++ [w] = gg at *
        tb_start
        refine wcd (held_ok u.held (n := n + 4) hsz) ?_ (ho := noR (lo_noF nf_nat _))
        tb_start
        refine ⟨by cases o8 <;> rfl, ?_⟩
        have hlr : (List.range gg.length).length ≤ 16777216 := by simp; omega
        refine wlc0 (g := fun j : Nat => en (leastOf (gg.drop j))) (fun j hj => ?_) ?_
        · have hj : j < gg.length := by simpa using hj
          obtain ⟨a, r, e⟩ := drop_ne hj
          tb_start
          rw [e]
          refine wo (g := .bf .min) (s_min_list ⟨_, rfl⟩) ?_
          rw [foldl_least]
          tb_start
        tb_start
        rw [hms]
        refine wo_ne rfl rfl (eq_same (sh_list (d := 59) (fun a _ => sh_nat _ a)) (sh_list (d := 59) (fun a _ => sh_nat _ a)) rfl) ?_
        tb_start
        exact ⟨r ++ [z], w, some j6, o8, by rw [hgg]; rfl, by rw [hgg]; exact hsz, by simp; omega⟩
      · tb_start
        refine wif_d (fun h4 => ?_) (fun h4 => ?_)
        · tb_start
          obtain ⟨w, hw0, hw⟩ : ∃ w, z + 1 = w ∧ (w = z + 1 ∨ z = w + 1) := ⟨_, rfl, .inl rfl⟩
          rw [hw0]
          have hsz := szok_snoc h1 (by omega) hw
          have hgl : (r ++ [z] ++ [w]).length = r.length + 2 := by simp
          have hgk : r ++ [z] ++ [w] = (r ++ [z]) ++ [w] := rfl
          have hms := min_slices (ss := r ++ [z] ++ [w])
          generalize hgg : r ++ [z] ++ [w] = gg at *
          tb_start
          refine wcd (held_ok u.held (n := n + 4) hsz) ?_ (ho := noR (lo_noF nf_nat _))
          tb_start
          refine ⟨by cases o8 <;> rfl, ?_⟩
          have hlr : (List.range gg.length).length ≤ 16777216 := by simp; omega
          refine wlc0 (g := fun j : Nat => en (leastOf (gg.drop j))) (fun j hj => ?_) ?_
          · have hj : j < gg.length := by simpa using hj
            obtain ⟨a, r, e⟩ := drop_ne hj
            tb_start
            rw [e]
            refine wo (g := .bf .min) (s_min_list ⟨_, rfl⟩) ?_
            rw [foldl_least]
            tb_start
          tb_start
          rw [hms]
          refine wo_ne rfl rfl (eq_same (sh_list (d := 59) (fun a _ => sh_nat _ a)) (sh_list (d := 59) (fun a _ => sh_nat _ a)) rfl) ?_
          tb_start
          exact ⟨r ++ [z], w, some j6, o8, by rw [hgg]; rfl, by rw [hgg]; exact hsz, by simp; omega⟩
        · tb_start
          obtain ⟨w, hw0, hw⟩ : ∃ w, z - 1 = w ∧ (w = z + 1 ∨ z = w + 1) := ⟨_, rfl, .inr (by omega)⟩
          rw [hw0]
          have hsz := szok_snoc h1 (by omega) hw
          have hgl : (r ++ [z] ++ [w]).length = r.length + 2 := by simp
          have hgk : r ++ [z] ++ [w] = (r ++ [z]) ++ [w] := rfl
          have hms := min_slices (ss := r ++ [z] ++ [w])
          generalize hgg : r ++ [z] ++ [w] = gg at *
          tb_start
          refine wcd (held_ok u.held (n := n + 4) hsz) ?_ (ho := noR (lo_noF nf_nat _))
          tb_start
          refine ⟨by cases o8 <;> rfl, ?_⟩
          have hlr : (List.range gg.length).length ≤ 16777216 := by simp; omega
          refine wlc0 (g := fun j : Nat => en (leastOf (gg.drop j))) (fun j hj => ?_) ?_
          · have hj : j < gg.length := by simpa using hj
            obtain ⟨a, r, e⟩ := drop_ne hj
            tb_start
            rw [e]
            refine wo (g := .bf .min) (s_min_list ⟨_, rfl⟩) ?_
            rw [foldl_least]
            tb_start
          tb_start
          rw [hms]
          refine wo_ne rfl rfl (eq_same (sh_list (d := 59) (fun a _ => sh_nat _ a)) (sh_list (d := 59) (fun a _ => sh_nat _ a)) rfl) ?_
          tb_start
          exact ⟨r ++ [z], w, some j6, o8, by rw [hgg]; rfl, by rw [hgg]; exact hsz, by simp; omega⟩
    · rintro G ⟨r, z, o6, o8, rfl, h1, h2⟩
      tb_start
      refine wo (g := .bin .pow) (u := .own (.int ((1000000 : Nat) : Int))) (by rw [oBin_eq]; rfl) ?_
      tb_start
      refine wcr (take_v1_ok u._law_take ht4 (m := 1000000) (by omega)) ?_
      rintro _ _ ⟨more, t5, hmr, ht5, rfl, rfl⟩
      tb_start
      refine wlc0 (g := fun s : Nat => en (s + more)) (fun s0 _ => ?_) ?_
      · tb_start
      tb_start
      rw [show ss.map (fun s : Nat => en (s + more)) = (ss.map (· + more)).map en from by rw [List.map_map]; rfl, en_fzl]
      tb_start
      exact turns_ok u hss hsl ht5 (by simp) (by omega) fun t o12 o13 o14 o15 o16 o17 o18 o6 o8 => wb_nil ⟨⟨_, _, _, _, _, _, _, _, _, _, _, _, _, _, _, o6, o8, rfl⟩, hl'⟩
  · rintro G ⟨⟨o1, o2, o3, o4, o5, o7, o9, o10, o12, o13, o14, o15, o16, o17, o18, o6, o8, rfl⟩, _⟩
    tb_start
    rfl
end K07

set_option Elab.async false
set_option maxRecDepth 100000
set_option linter.all false
namespace K07
open PySem QX
theorem law_true : ∀ ns : List Int, ns.length ≤ 63 → ∃ us, phi (lw.pg 1000) 60 "law" [.lst false (ns.map T.int)] = .ret (.bl true) us := fun ns hn => law_us (law_ok (u_law 1000) (n := 52) ns)
end K07
namespace K07
open PySem QX
theorem goods : ∀ d ∈ lw.defs, d.good (lw.pg 1000) = true := by
  have h : lw.defs.all (fun d => d.good (lw.pg 1000)) = true := by decide +kernel
  exact fun d m => List.all_eq_true.mp h d m
end K07
open PySem PySem.W PyProof.Rows
set_option maxHeartbeats 0 in
theorem PySem.Challenge.cw_lastfills_k07_whole_sizes_of_great_rows_holds : PySem.Challenge.rw_lastfills_k07_whole_sizes_of_great_rows.Holds := by
  w_on; o_law; k_head; (case hw => w_witness2)
  k_fill
  refine L2.walk_of (l := PySem.Challenge.rw_lastfills_k07_whole_sizes_of_great_rows) (n := 63) (k := 61) (x := "_law_script") (CX := fun w => L2.CX PySem.Challenge.pw_lastfills_k07_whole_sizes_of_great_rows w) (sp := fun w => QX.spLaw _ 63) rfl (by decide) rfl ⟨rfl, by decide, by decide⟩ (fun w h Y => PySem.W.kIn_of Y) ?F (fun _ _ a ns hl _ hS => ⟨a, ns, rfl, hS, hl, fun _ => rfl⟩) (fun _ _ _ _ _ h => QX.noCX h)
  case F =>
    intro w mg fa h KX G hmg
    refine' QX.law_ok (l := K07.lw) (fu := 1000) (n := 60) (m := 63) (d := K07.d_law) (f := "law") KX G hmg ⟨QX.df_mk (d := K07.d_is_amount) KX G ?a0 ?l0 ?c0 ?k0 (fun _ _ _ _ _ _ us hl => match us, hl with | [_], _ => rfl),
      QX.df_mk (d := K07.d_are_sizes) KX G ?a1 ?l1 ?c1 ?k1 (fun _ _ _ _ _ _ us hl => match us, hl with | [_], _ => rfl),
      QX.df_mk (d := K07.d_need_kept) KX G ?a2 ?l2 ?c2 ?k2 (fun _ _ _ _ _ _ us hl => match us, hl with | [_, _, _], _ => rfl),
      QX.df_mk (d := K07.d_first_broken) KX G ?a3 ?l3 ?c3 ?k3 (fun _ _ _ _ _ _ us hl => match us, hl with | [_, _, _], _ => rfl),
      QX.df_mk (d := K07.d_holds) KX G ?a4 ?l4 ?c4 ?k4 (fun _ _ _ _ _ _ us hl => match us, hl with | [_, _, _], _ => rfl),
      QX.df_mk (d := K07.d_broken) KX G ?a5 ?l5 ?c5 ?k5 (fun _ _ _ _ _ _ us hl => match us, hl with | [_, _, _], _ => rfl),
      QX.df_mk (d := K07.d_held) KX G ?a6 ?l6 ?c6 ?k6 (fun _ _ _ _ _ _ us hl => match us, hl with | [_], _ => rfl),
      QX.df_mk (d := K07.d__law_cell_at) KX G ?a7 ?l7 ?c7 ?k7 (fun _ _ _ _ _ _ us hl => match us, hl with | [_, _], _ => rfl),
      QX.df_mk (d := K07.d__law_bag) KX G ?a8 ?l8 ?c8 ?k8 (fun _ _ _ _ _ _ us hl => match us, hl with | [_, _], _ => rfl),
      QX.df_mk (d := K07.d__law_take) KX G ?a9 ?l9 ?c9 ?k9 (fun _ _ _ _ _ _ us hl => match us, hl with | [_, _], _ => rfl),
      QX.df_mk (d := K07.d__law_alike) KX G ?a10 ?l10 ?c10 ?k10 (fun _ _ _ _ _ _ us hl => match us, hl with | [_, _], _ => rfl),
      QX.df_mk (d := K07.d__law_sizes) KX G ?a11 ?l11 ?c11 ?k11 (fun _ _ _ _ _ _ us hl => match us, hl with | [_, _], _ => rfl),
      QX.df_mk (d := K07.d_law) KX G ?a12 ?l12 ?c12 ?k12 (fun _ _ _ _ _ _ us hl => match us, hl with | [_], _ => rfl), trivial⟩ ⟨?z0, ?z1, ?z2, ?z3, ?z4, ?z5, ?z6, ?z7, ?z8, ?z9, ?z10, ?z11, ?z12, ?z13, ?z14, ?z15, ?z16, ?z17, ?z18, ?z19, ?z20, ?z21, ?z22, trivial⟩ trivial ⟨QX.ex_mk (x := "NoMoment") KX G ?xa0 ?xk0 ?xq0 ?xs0 ?xt0, QX.ex_mk (x := "NoPlace") KX G ?xa1 ?xk1 ?xq1 ?xs1 ?xt1, QX.ex_mk (x := "NoSizes") KX G ?xa2 ?xk2 ?xq2 ?xs2 ?xt2, trivial⟩ K07.goods rfl rfl K07.law_true
    (case a0 => k_is); (case l0 => k_is); (case c0 => k_is); (case k0 => k_is); (case a1 => k_is); (case l1 => k_is); (case c1 => k_is); (case k1 => k_is)
    (case a2 => k_is); (case l2 => k_is); (case c2 => k_is); (case k2 => k_is); (case a3 => k_is); (case l3 => k_is); (case c3 => k_is); (case k3 => k_is)
    (case a4 => k_is); (case l4 => k_is); (case c4 => k_is); (case k4 => k_is); (case a5 => k_is); (case l5 => k_is); (case c5 => k_is); (case k5 => k_is)
    (case a6 => k_is); (case l6 => k_is); (case c6 => k_is); (case k6 => k_is); (case a7 => k_is); (case l7 => k_is); (case c7 => k_is); (case k7 => k_is)
    (case a8 => k_is); (case l8 => k_is); (case c8 => k_is); (case k8 => k_is); (case a9 => k_is); (case l9 => k_is); (case c9 => k_is); (case k9 => k_is)
    (case a10 => k_is); (case l10 => k_is); (case c10 => k_is); (case k10 => k_is); (case a11 => k_is); (case l11 => k_is); (case c11 => k_is); (case k11 => k_is)
    (case a12 => k_is); (case l12 => k_is); (case c12 => k_is); (case k12 => k_is); (case z0 => k_is); (case z1 => k_is); (case z2 => k_is); (case z3 => k_is)
    (case z4 => k_is); (case z5 => k_is); (case z6 => k_is); (case z7 => k_is); (case z8 => k_is); (case z9 => k_is); (case z10 => k_is); (case z11 => k_is)
    (case z12 => k_is); (case z13 => k_is); (case z14 => k_is); (case z15 => k_is); (case z16 => k_is); (case z17 => k_is); (case z18 => k_is); (case z19 => k_is)
    (case z20 => k_is); (case z21 => k_is); (case z22 => k_is); (case xa0 => k_is); (case xk0 => k_is); (case xq0 => k_exc); (case xs0 => k_is); (case xt0 => k_is)
    (case xa1 => k_is); (case xk1 => k_is); (case xq1 => k_exc); (case xs1 => k_is); (case xt1 => k_is); (case xa2 => k_is); (case xk2 => k_is); (case xq2 => k_exc)
    (case xs2 => k_is); (case xt2 => k_is)

