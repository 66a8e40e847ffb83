import PyProof.Rows.All
import Wide.All
import OpenK.AllK
import Wide.FinOn
import HandS.ForMost
import HandS.AnyAll
import HandS.TupAny
import HandS.IsInst
import HandS.Style
import HandS.Deep
import HandS.FStr
import HandS.Exc
import HandS.TryOnly
import HandS.Flow
import HandS.Star
import HandS.ExcOwn
import HandS.Iter
import HandS.Rev
import HandS.Zip
import KE.GoesEnum
import HandS.GenBody
import HandS.GenList
import HandS.GenOver
import HandS.ExcIs
import HandS.EndTab
import HandS.Words
import PySem.Challenge.RW_orderneed_k07_items_and_promises
set_option Elab.async false
set_option linter.all false
set_option maxRecDepth 100000
/-! Pu1: pure data, who owns what, and when a heap bears it. -/
namespace Pu
open PySem PySem.Spec PyProof.Rows L2

/-- a node's flag: settled for ever; owned by one place; seen in passing -/
inductive Fl where | fz | ow | vw
  deriving DecidableEq

inductive D where
  | non | bl (b : Bool) | int (i : Int) | str (s : Str)
  | tup (xs : List D)
  | lst (f : Fl) (xs : List D)
  | obj (f : Fl) (c : Nat) (ns : List Str) (xs : List D)
  | dct (f : Fl) (ks : List Key) (xs : List D)

def Fl.fzd : Fl → Fl
  | .ow => .fz
  | f => f
def Fl.vwd : Fl → Fl
  | .ow => .vw
  | f => f
/-- all that was settled is seen in passing alone -/
def Fl.vwa : Fl → Fl
  | .fz => .vw
  | f => f
mutual
def fzD : D → D
  | .non => .non | .bl b => .bl b | .int i => .int i | .str s => .str s
  | .tup xs => .tup (fzDs xs) | .lst f xs => .lst f.fzd (fzDs xs) | .obj f c ns xs => .obj f.fzd c ns (fzDs xs) | .dct f ks xs => .dct f.fzd ks (fzDs xs)
def fzDs : List D → List D
  | [] => []
  | x :: xs => fzD x :: fzDs xs
end
mutual
def vwD : D → D
  | .non => .non | .bl b => .bl b | .int i => .int i | .str s => .str s
  | .tup xs => .tup (vwDs xs) | .lst f xs => .lst f.vwd (vwDs xs) | .obj f c ns xs => .obj f.vwd c ns (vwDs xs) | .dct f ks xs => .dct f.vwd ks (vwDs xs)
def vwDs : List D → List D
  | [] => []
  | x :: xs => vwD x :: vwDs xs
end
mutual
def vaD : D → D
  | .non => .non | .bl b => .bl b | .int i => .int i | .str s => .str s
  | .tup xs => .tup (vaDs xs) | .lst f xs => .lst f.vwa (vaDs xs) | .obj f c ns xs => .obj f.vwa c ns (vaDs xs) | .dct f ks xs => .dct f.vwa ks (vaDs xs)
def vaDs : List D → List D
  | [] => []
  | x :: xs => vaD x :: vaDs xs
end
mutual
def noVw : D → Bool
  | .tup xs => noVws xs | .lst f xs => decide (f ≠ .vw) && noVws xs | .obj f _ _ xs => decide (f ≠ .vw) && noVws xs | .dct f _ xs => decide (f ≠ .vw) && noVws xs
  | _ => true
def noVws : List D → Bool
  | [] => true
  | x :: xs => noVw x && noVws xs
end
mutual
def allFz : D → Bool
  | .tup xs => allFzs xs | .lst f xs => decide (f = .fz) && allFzs xs | .obj f _ _ xs => decide (f = .fz) && allFzs xs | .dct f _ xs => decide (f = .fz) && allFzs xs
  | _ => true
def allFzs : List D → Bool
  | [] => true
  | x :: xs => allFz x && allFzs xs
end
mutual
theorem allFz_noVw : ∀ d : D, allFz d = true → noVw d = true
  | .non, _ => rfl | .bl _, _ => rfl | .int _, _ => rfl | .str _, _ => rfl
  | .tup xs, h => by simp only [allFz, noVw] at *; exact allFzs_noVws xs h
  | .lst f xs, h => by
    simp only [allFz, noVw, Bool.and_eq_true, decide_eq_true_eq] at *
    exact ⟨by rw [h.1]; exact (fun z => by cases z), allFzs_noVws xs h.2⟩
  | .obj f c ns xs, h => by
    simp only [allFz, noVw, Bool.and_eq_true, decide_eq_true_eq] at *
    exact ⟨by rw [h.1]; exact (fun z => by cases z), allFzs_noVws xs h.2⟩
  | .dct f ks xs, h => by
    simp only [allFz, noVw, Bool.and_eq_true, decide_eq_true_eq] at *
    exact ⟨by rw [h.1]; exact (fun z => by cases z), allFzs_noVws xs h.2⟩
theorem allFzs_noVws : ∀ ds : List D, allFzs ds = true → noVws ds = true
  | [], _ => rfl
  | d :: ds, h => by
    simp only [allFzs, noVws, Bool.and_eq_true] at *
    exact ⟨allFz_noVw d h.1, allFzs_noVws ds h.2⟩
end
mutual
theorem fzD_allFz : ∀ d : D, noVw d = true → allFz (fzD d) = true
  | .non, _ => rfl | .bl _, _ => rfl | .int _, _ => rfl | .str _, _ => rfl
  | .tup xs, h => by simp only [allFz, noVw, fzD] at *; exact fzDs_allFzs xs h
  | .lst f xs, h => by
    simp only [allFz, noVw, fzD, Bool.and_eq_true, decide_eq_true_eq] at *
    exact ⟨by cases f <;> first | rfl | exact absurd rfl h.1, fzDs_allFzs xs h.2⟩
  | .obj f c ns xs, h => by
    simp only [allFz, noVw, fzD, Bool.and_eq_true, decide_eq_true_eq] at *
    exact ⟨by cases f <;> first | rfl | exact absurd rfl h.1, fzDs_allFzs xs h.2⟩
  | .dct f ks xs, h => by
    simp only [allFz, noVw, fzD, Bool.and_eq_true, decide_eq_true_eq] at *
    exact ⟨by cases f <;> first | rfl | exact absurd rfl h.1, fzDs_allFzs xs h.2⟩
theorem fzDs_allFzs : ∀ ds : List D, noVws ds = true → allFzs (fzDs ds) = true
  | [], _ => rfl
  | d :: ds, h => by
    simp only [allFzs, noVws, fzDs, Bool.and_eq_true] at *
    exact ⟨fzD_allFz d h.1, fzDs_allFzs ds h.2⟩
end
theorem vwDs_eq : ∀ xs : List D, vwDs xs = xs.map vwD
  | [] => rfl
  | x :: xs => by simp only [vwDs, List.map_cons, vwDs_eq xs]
theorem fzDs_eq : ∀ xs : List D, fzDs xs = xs.map fzD
  | [] => rfl
  | x :: xs => by simp only [fzDs, List.map_cons, fzDs_eq xs]
theorem vaDs_eq : ∀ xs : List D, vaDs xs = xs.map vaD
  | [] => rfl
  | x :: xs => by simp only [vaDs, List.map_cons, vaDs_eq xs]
theorem noVws_eq : ∀ xs : List D, noVws xs = xs.all noVw
  | [] => rfl
  | x :: xs => by simp only [noVws, List.all_cons, noVws_eq xs]
theorem allFzs_eq : ∀ xs : List D, allFzs xs = xs.all allFz
  | [] => rfl
  | x :: xs => by simp only [allFzs, List.all_cons, allFzs_eq xs]

/-! ### the heap -/
def isTbl : HO → Bool
  | .tbl _ => true
  | _ => false
/-- all stands as it stood, but for tables of code, which may grow -/
def Keep (H H' : Hp) : Prop := ∀ a u, H a = some u → H' a = some u ∨ (isTbl u = true ∧ ∃ ps, H' a = some (.tbl ps))
theorem Keep.refl (H : Hp) : Keep H H := fun _ _ h => .inl h
theorem Keep.at {H H' : Hp} (k : Keep H H') {a : Addr} {u : HO} (h : H a = some u) (t : isTbl u = false) : H' a = some u := by
  rcases k a u h with e | ⟨e, _⟩
  · exact e
  · rw [t] at e; cases e
theorem Keep.trans {H H1 H2 : Hp} (a : Keep H H1) (b : Keep H1 H2) : Keep H H2 := fun c u h => by
  rcases a c u h with e | ⟨e, ps, q⟩
  · exact b c u e
  · rcases b c _ q with e2 | ⟨_, ps2, q2⟩
    · exact .inr ⟨e, ps, e2⟩
    · exact .inr ⟨e, ps2, q2⟩
theorem Keep.new {H : Hp} {p : Addr} {o : HO} (h : H p = none) : Keep H (upd H p o) := fun a u e => .inl (by
  rw [upd_ne (ne_of_none e h)]; exact e)
theorem Keep.none {H H' : Hp} (k : Keep H H') {a : Addr} (h : H' a = none) : H a = none := by
  cases e : H a with
  | none => rfl
  | some u =>
    rcases k a u e with q | ⟨_, ps, q⟩
    · rw [h] at q; cases q
    · rw [h] at q; cases q
/-- written part alone -/
def WrL (K : PySem.W.Frag) (a : Addr) (vs : List V) : Prop := SqL K (fun _ => none) a vs
theorem WrL.seq {K : PySem.W.Frag} {H : Hp} {a : Addr} {vs : List V} (h : WrL K a vs) : SqL K H a vs := by
  rcases h with (h | ⟨o, h⟩) | h
  · cases h
  · cases h
  · exact .inr h
theorem keep_seq {K : PySem.W.Frag} {H H' : Hp} {a : Addr} {vs : List V} (k : Keep H H') (h : SqL K H a vs) : SqL K H' a vs := by
  rcases h with (h | ⟨o, h⟩) | h
  · exact .inl (.inl (k.at h rfl))
  · exact .inl (.inr ⟨o, k.at h rfl⟩)
  · exact .inr h
theorem keep_tup {K : PySem.W.Frag} {H H' : Hp} {a : Addr} {vs : List V} (k : Keep H H') (h : SqT K H a vs) : SqT K H' a vs := by
  rcases h with (h | ⟨o, h⟩) | h
  · exact .inl (.inl (k.at h rfl))
  · exact .inl (.inr ⟨o, k.at h rfl⟩)
  · exact .inr h

section
variable (K : PySem.W.Frag) (cl : Nat → Addr)
/-- a list's node -/
inductive NL (H : Hp) (Fz : Addr → Prop) : Fl → Addr → List V → List Addr → Prop
  | fz {a vs} : H a = some (.lst vs) → Fz a → NL H Fz .fz a vs []
  | lk {a vs o} : H a = some (.frz o (.lst vs)) → NL H Fz .fz a vs []
  | wr {a vs} : WrL K a vs → NL H Fz .fz a vs []
  | ow {a vs} : H a = some (.lst vs) → NL H Fz .ow a vs [a]
  | vw {a vs} : SqL K H a vs → NL H Fz .vw a vs []
/-- an object's -/
inductive NO (H : Hp) (Fz : Addr → Prop) : Fl → Nat → Addr → List Str → List V → List Addr → Prop
  | fz {a c dx fvs} : H a = some (.ins (cl c) dx fvs) → Fz a → NO H Fz .fz c a (fvs.map (·.1)) (fvs.map (·.2)) []
  | ow {a c dx fvs} : H a = some (.ins (cl c) dx fvs) → NO H Fz .ow c a (fvs.map (·.1)) (fvs.map (·.2)) [a]
  | vw {a c dx fvs} : H a = some (.ins (cl c) dx fvs) → NO H Fz .vw c a (fvs.map (·.1)) (fvs.map (·.2)) []
/-- a dict's -/
inductive ND (H : Hp) (Fz : Addr → Prop) : Fl → Addr → List Key → List V → List Addr → Prop
  | fz {a kvs} : H a = some (.dK kvs) → Fz a → ND H Fz .fz a (kvs.map (·.1)) (kvs.map (·.2)) []
  | ow {a kvs} : H a = some (.dK kvs) → ND H Fz .ow a (kvs.map (·.1)) (kvs.map (·.2)) [a]
  | vw {a kvs} : H a = some (.dK kvs) → ND H Fz .vw a (kvs.map (·.1)) (kvs.map (·.2)) []
mutual
inductive Own (H : Hp) (Fz : Addr → Prop) : V → D → List Addr → Prop
  | non : Own H Fz .non .non []
  | bl (b) : Own H Fz (.bl b) (.bl b) []
  | int (i) : Own H Fz (.int i) (.int i) []
  | str (s) : Own H Fz (.str s) (.str s) []
  | tup {a vs ds fp} : SqT K H a vs → Owns H Fz vs ds fp → Own H Fz (.ref a) (.tup ds) fp
  | lst {f a vs ds f0 fp} : NL K H Fz f a vs f0 → Owns H Fz vs ds fp → Own H Fz (.ref a) (.lst f ds) (f0 ++ fp)
  | obj {f c a ns vs ds f0 fp} : NO cl H Fz f c a ns vs f0 → Owns H Fz vs ds fp → Own H Fz (.ref a) (.obj f c ns ds) (f0 ++ fp)
  | dct {f a ks vs ds f0 fp} : ND H Fz f a ks vs f0 → Owns H Fz vs ds fp → Own H Fz (.ref a) (.dct f ks ds) (f0 ++ fp)
inductive Owns (H : Hp) (Fz : Addr → Prop) : List V → List D → List Addr → Prop
  | nil : Owns H Fz [] [] []
  | cons {v vs d ds f1 f2} : Own H Fz v d f1 → Owns H Fz vs ds f2 → Owns H Fz (v :: vs) (d :: ds) (f1 ++ f2)
end
end

section
variable {K : PySem.W.Frag} {cl : Nat → Addr} {H H' : Hp} {Fz Fz' : Addr → Prop}
theorem NL.seq {f a vs f0} (h : NL K H Fz f a vs f0) : SqL K H a vs := by
  cases h with
  | fz h _ => exact SqL.of h
  | lk h => exact .inl (.inr ⟨_, h⟩)
  | wr h => exact h.seq
  | ow h => exact SqL.of h
  | vw h => exact h
theorem NO.ins {f c a ns vs f0} (h : NO cl H Fz f c a ns vs f0) : ∃ dx fvs, H a = some (.ins (cl c) dx fvs) ∧ ns = fvs.map (·.1) ∧ vs = fvs.map (·.2) := by
  cases h with
  | fz h _ => exact ⟨_, _, h, rfl, rfl⟩
  | ow h => exact ⟨_, _, h, rfl, rfl⟩
  | vw h => exact ⟨_, _, h, rfl, rfl⟩
theorem ND.dk {f a ks vs f0} (h : ND H Fz f a ks vs f0) : ∃ kvs, H a = some (.dK kvs) ∧ ks = kvs.map (·.1) ∧ vs = kvs.map (·.2) := by
  cases h with
  | fz h _ => exact ⟨_, h, rfl, rfl⟩
  | ow h => exact ⟨_, h, rfl, rfl⟩
  | vw h => exact ⟨_, h, rfl, rfl⟩
theorem NL.keep {f a vs f0} (k : Keep H H') (z : ∀ a, H a ≠ none → Fz a → Fz' a) (h : NL K H Fz f a vs f0) : NL K H' Fz' f a vs f0 := by
  cases h with
  | fz h1 h2 => exact .fz (k.at h1 rfl) (z _ (by rw [h1]; exact (fun q => by cases q)) h2)
  | lk h => exact .lk (k.at h rfl)
  | wr h => exact .wr h
  | ow h => exact .ow (k.at h rfl)
  | vw h => exact .vw (keep_seq k h)
theorem NO.keep {f c a ns vs f0} (k : Keep H H') (z : ∀ a, H a ≠ none → Fz a → Fz' a) (h : NO cl H Fz f c a ns vs f0) : NO cl H' Fz' f c a ns vs f0 := by
  cases h with
  | fz h1 h2 => exact .fz (k.at h1 rfl) (z _ (by rw [h1]; exact (fun q => by cases q)) h2)
  | ow h => exact .ow (k.at h rfl)
  | vw h => exact .vw (k.at h rfl)
theorem ND.keep {f a ks vs f0} (k : Keep H H') (z : ∀ a, H a ≠ none → Fz a → Fz' a) (h : ND H Fz f a ks vs f0) : ND H' Fz' f a ks vs f0 := by
  cases h with
  | fz h1 h2 => exact .fz (k.at h1 rfl) (z _ (by rw [h1]; exact (fun q => by cases q)) h2)
  | ow h => exact .ow (k.at h rfl)
  | vw h => exact .vw (k.at h rfl)
mutual
theorem Own.keep (k : Keep H H') (z : ∀ a, H a ≠ none → Fz a → Fz' a) : ∀ {d : D} {v : V} {fp : List Addr}, Own K cl H Fz v d fp → Own K cl H' Fz' v d fp
  | .non, _, _, h => by cases h; exact .non
  | .bl _, _, _, h => by cases h; exact .bl _
  | .int _, _, _, h => by cases h; exact .int _
  | .str _, _, _, h => by cases h; exact .str _
  | .tup ds, _, _, h => by cases h with | tup a b => exact .tup (keep_tup k a) (Owns.keep k z b)
  | .lst f ds, _, _, h => by cases h with | lst a b => exact .lst (a.keep k z) (Owns.keep k z b)
  | .obj f c ns ds, _, _, h => by cases h with | obj a b => exact .obj (a.keep k z) (Owns.keep k z b)
  | .dct f ks ds, _, _, h => by cases h with | dct a b => exact .dct (a.keep k z) (Owns.keep k z b)
theorem Owns.keep (k : Keep H H') (z : ∀ a, H a ≠ none → Fz a → Fz' a) : ∀ {ds : List D} {vs : List V} {fp : List Addr}, Owns K cl H Fz vs ds fp → Owns K cl H' Fz' vs ds fp
  | [], _, _, h => by cases h; exact .nil
  | d :: ds, _, _, h => by cases h with | cons a b => exact .cons (Own.keep k z a) (Owns.keep k z b)
end
/-- an owned node stands and is one that may change -/
def MutAt (H : Hp) (p : Addr) : Prop := Mut (H p) ∧ H p ≠ none
mutual
theorem Own.mut : ∀ {d : D} {v : V} {fp : List Addr}, Own K cl H Fz v d fp → ∀ p ∈ fp, MutAt H p
  | .non, _, _, h, p, hp => by cases h; cases hp
  | .bl _, _, _, h, p, hp => by cases h; cases hp
  | .int _, _, _, h, p, hp => by cases h; cases hp
  | .str _, _, _, h, p, hp => by cases h; cases hp
  | .tup ds, _, _, h, p, hp => by cases h with | tup a b => exact Owns.mut b p hp
  | .lst f ds, _, _, h, p, hp => by
    cases h with
    | lst a b =>
      rcases List.mem_append.mp hp with hp | hp
      · cases a with
        | ow e => rw [List.mem_singleton.mp hp]; exact ⟨by rw [e]; trivial, by rw [e]; exact (fun q => by cases q)⟩
        | fz _ _ => cases hp
        | lk _ => cases hp
        | wr _ => cases hp
        | vw _ => cases hp
      · exact Owns.mut b p hp
  | .obj f c ns ds, _, _, h, p, hp => by
    cases h with
    | obj a b =>
      rcases List.mem_append.mp hp with hp | hp
      · cases a with
        | ow e => rw [List.mem_singleton.mp hp]; exact ⟨by rw [e]; trivial, by rw [e]; exact (fun q => by cases q)⟩
        | fz _ _ => cases hp
        | vw _ => cases hp
      · exact Owns.mut b p hp
  | .dct f ks ds, _, _, h, p, hp => by
    cases h with
    | dct a b =>
      rcases List.mem_append.mp hp with hp | hp
      · cases a with
        | ow e => rw [List.mem_singleton.mp hp]; exact ⟨by rw [e]; trivial, by rw [e]; exact (fun q => by cases q)⟩
        | fz _ _ => cases hp
        | vw _ => cases hp
      · exact Owns.mut b p hp
theorem Owns.mut : ∀ {ds : List D} {vs : List V} {fp : List Addr}, Owns K cl H Fz vs ds fp → ∀ p ∈ fp, MutAt H p
  | [], _, _, h, p, hp => by cases h; cases hp
  | d :: ds, _, _, h, p, hp => by
    cases h with
    | cons a b =>
      rcases List.mem_append.mp hp with hp | hp
      · exact Own.mut a p hp
      · exact Owns.mut b p hp
end
mutual
/-- seen in passing -/
theorem Own.view : ∀ {d : D} {v : V} {fp : List Addr}, Own K cl H Fz v d fp → Own K cl H Fz v (vwD d) []
  | .non, _, _, h => by cases h; exact .non
  | .bl _, _, _, h => by cases h; exact .bl _
  | .int _, _, _, h => by cases h; exact .int _
  | .str _, _, _, h => by cases h; exact .str _
  | .tup ds, _, _, h => by cases h with | tup a b => exact .tup a (Owns.view b)
  | .lst f ds, _, _, h => by
    cases h with
    | lst a b =>
      have b' := Owns.view b
      cases a with
      | fz h1 h2 => exact .lst (.fz h1 h2) b'
      | lk h => exact .lst (.lk h) b'
      | wr h => exact .lst (.wr h) b'
      | ow h => exact .lst (.vw (SqL.of h)) b'
      | vw h => exact .lst (.vw h) b'
  | .obj f c ns ds, _, _, h => by
    cases h with
    | obj a b =>
      have b' := Owns.view b
      cases a with
      | fz h1 h2 => exact .obj (.fz h1 h2) b'
      | ow h => exact .obj (.vw h) b'
      | vw h => exact .obj (.vw h) b'
  | .dct f ks ds, _, _, h => by
    cases h with
    | dct a b =>
      have b' := Owns.view b
      cases a with
      | fz h1 h2 => exact .dct (.fz h1 h2) b'
      | ow h => exact .dct (.vw h) b'
      | vw h => exact .dct (.vw h) b'
theorem Owns.view : ∀ {ds : List D} {vs : List V} {fp : List Addr}, Owns K cl H Fz vs ds fp → Owns K cl H Fz vs (vwDs ds) []
  | [], _, _, h => by cases h; exact .nil
  | d :: ds, _, _, h => by cases h with | cons a b => exact .cons (Own.view a) (Owns.view b)
end
mutual
/-- settled: its nodes may be so -/
theorem Own.freeze (z : ∀ a, Fz a → Fz' a) : ∀ {d : D} {v : V} {fp : List Addr}, Own K cl H Fz v d fp → (∀ p ∈ fp, Fz' p) → Own K cl H Fz' v (fzD d) []
  | .non, _, _, h, _ => by cases h; exact .non
  | .bl _, _, _, h, _ => by cases h; exact .bl _
  | .int _, _, _, h, _ => by cases h; exact .int _
  | .str _, _, _, h, _ => by cases h; exact .str _
  | .tup ds, _, _, h, q => by cases h with | tup a b => exact .tup a (Owns.freeze z b q)
  | .lst f ds, _, _, h, q => by
    cases h with
    | lst a b =>
      have b' := Owns.freeze z b fun p hp => q p (List.mem_append_right _ hp)
      cases a with
      | fz h1 h2 => exact .lst (.fz h1 (z _ h2)) b'
      | lk h => exact .lst (.lk h) b'
      | wr h => exact .lst (.wr h) b'
      | ow h => exact .lst (.fz h (q _ (List.mem_append_left _ (List.mem_singleton.mpr rfl)))) b'
      | vw h => exact .lst (.vw h) b'
  | .obj f c ns ds, _, _, h, q => by
    cases h with
    | obj a b =>
      have b' := Owns.freeze z b fun p hp => q p (List.mem_append_right _ hp)
      cases a with
      | fz h1 h2 => exact .obj (.fz h1 (z _ h2)) b'
      | ow h => exact .obj (.fz h (q _ (List.mem_append_left _ (List.mem_singleton.mpr rfl)))) b'
      | vw h => exact .obj (.vw h) b'
  | .dct f ks ds, _, _, h, q => by
    cases h with
    | dct a b =>
      have b' := Owns.freeze z b fun p hp => q p (List.mem_append_right _ hp)
      cases a with
      | fz h1 h2 => exact .dct (.fz h1 (z _ h2)) b'
      | ow h => exact .dct (.fz h (q _ (List.mem_append_left _ (List.mem_singleton.mpr rfl)))) b'
      | vw h => exact .dct (.vw h) b'
theorem Owns.freeze (z : ∀ a, Fz a → Fz' a) : ∀ {ds : List D} {vs : List V} {fp : List Addr}, Owns K cl H Fz vs ds fp → (∀ p ∈ fp, Fz' p) → Owns K cl H Fz' vs (fzDs ds) []
  | [], _, _, h, _ => by cases h; exact .nil
  | d :: ds, _, _, h, q => by
    cases h with
    | cons a b => exact .cons (Own.freeze z a fun p hp => q p (List.mem_append_left _ hp)) (Owns.freeze z b fun p hp => q p (List.mem_append_right _ hp))
end
mutual
/-- what was settled in another's eyes is seen in passing -/
theorem Own.va : ∀ {d : D} {v : V} {fp : List Addr}, Own K cl H Fz v d fp → Own K cl H Fz' v (vaD d) fp
  | .non, _, _, h => by cases h; exact .non
  | .bl _, _, _, h => by cases h; exact .bl _
  | .int _, _, _, h => by cases h; exact .int _
  | .str _, _, _, h => by cases h; exact .str _
  | .tup ds, _, _, h => by cases h with | tup a b => exact .tup a (Owns.va b)
  | .lst f ds, _, _, h => by
    cases h with
    | lst a b =>
      have b' := Owns.va b
      cases a with
      | fz h1 h2 => exact .lst (.vw (SqL.of h1)) b'
      | lk h => exact .lst (.vw (.inl (.inr ⟨_, h⟩))) b'
      | wr h => exact .lst (.vw h.seq) b'
      | ow h => exact .lst (.ow h) b'
      | vw h => exact .lst (.vw h) b'
  | .obj f c ns ds, _, _, h => by
    cases h with
    | obj a b =>
      have b' := Owns.va b
      cases a with
      | fz h1 h2 => exact .obj (.vw h1) b'
      | ow h => exact .obj (.ow h) b'
      | vw h => exact .obj (.vw h) b'
  | .dct f ks ds, _, _, h => by
    cases h with
    | dct a b =>
      have b' := Owns.va b
      cases a with
      | fz h1 h2 => exact .dct (.vw h1) b'
      | ow h => exact .dct (.ow h) b'
      | vw h => exact .dct (.vw h) b'
theorem Owns.va : ∀ {ds : List D} {vs : List V} {fp : List Addr}, Owns K cl H Fz vs ds fp → Owns K cl H Fz' vs (vaDs ds) fp
  | [], _, _, h => by cases h; exact .nil
  | d :: ds, _, _, h => by cases h with | cons a b => exact .cons (Own.va a) (Owns.va b)
end
/-- p is changed: what neither owns p nor holds it as settled stays -/
theorem upd_at {p a : Addr} {o u : HO} (h : H a = some u) (n : a ≠ p) : upd H p o a = some u := by rw [upd_ne n]; exact h
mutual
theorem Own.upd {p : Addr} {o : HO} (mp : MutAt H p) (zp : ¬ Fz p) : ∀ {d : D} {v : V} {fp : List Addr}, Own K cl H Fz v d fp → noVw d = true → p ∉ fp → Own K cl (upd H p o) Fz v d fp
  | .non, _, _, h, _, _ => by cases h; exact .non
  | .bl _, _, _, h, _, _ => by cases h; exact .bl _
  | .int _, _, _, h, _, _ => by cases h; exact .int _
  | .str _, _, _, h, _, _ => by cases h; exact .str _
  | .tup ds, _, _, h, n, q => by
    cases h with
    | @tup a vs _ fp ha b =>
      refine .tup ?_ (Owns.upd mp zp b n q)
      have ne : ∀ u, H a = some u → Mut (some u) ∨ a ≠ p := fun u e => by
        by_cases z : a = p
        · left; rw [← e, z]; exact mp.1
        · exact .inr z
      rcases ha with (e | ⟨w, e⟩) | e
      · rcases ne _ e with z | z
        · exact z.elim
        · exact .inl (.inl (upd_at e z))
      · rcases ne _ e with z | z
        · exact z.elim
        · exact .inl (.inr ⟨w, upd_at e z⟩)
      · exact .inr e
  | .lst f ds, _, _, h, n, q => by
    simp only [noVw, Bool.and_eq_true, decide_eq_true_eq] at n
    cases h with
    | @lst _ a vs _ f0 fp ha b =>
      have b' := Owns.upd (o := o) mp zp b n.2 fun z => q (List.mem_append_right _ z)
      cases ha with
      | fz h1 h2 => exact .lst (.fz (upd_at h1 fun e => zp (e ▸ h2)) h2) b'
      | lk h =>
        refine .lst (.lk (upd_at h fun e => ?_)) b'
        have := mp.1
        rw [← e, h] at this
        exact this
      | wr h => exact .lst (.wr h) b'
      | ow h => exact .lst (.ow (upd_at h fun e => q (List.mem_append_left _ (by rw [e]; exact List.mem_singleton.mpr rfl)))) b'
      | vw h => exact absurd rfl n.1
  | .obj f c ns ds, _, _, h, n, q => by
    simp only [noVw, Bool.and_eq_true, decide_eq_true_eq] at n
    cases h with
    | @obj _ _ a _ vs _ f0 fp ha b =>
      have b' := Owns.upd (o := o) mp zp b n.2 fun z => q (List.mem_append_right _ z)
      cases ha with
      | fz h1 h2 => exact .obj (.fz (upd_at h1 fun e => zp (e ▸ h2)) h2) b'
      | ow h => exact .obj (.ow (upd_at h fun e => q (List.mem_append_left _ (by rw [e]; exact List.mem_singleton.mpr rfl)))) b'
      | vw h => exact absurd rfl n.1
  | .dct f ks ds, _, _, h, n, q => by
    simp only [noVw, Bool.and_eq_true, decide_eq_true_eq] at n
    cases h with
    | @dct _ a _ vs _ f0 fp ha b =>
      have b' := Owns.upd (o := o) mp zp b n.2 fun z => q (List.mem_append_right _ z)
      cases ha with
      | fz h1 h2 => exact .dct (.fz (upd_at h1 fun e => zp (e ▸ h2)) h2) b'
      | ow h => exact .dct (.ow (upd_at h fun e => q (List.mem_append_left _ (by rw [e]; exact List.mem_singleton.mpr rfl)))) b'
      | vw h => exact absurd rfl n.1
theorem Owns.upd {p : Addr} {o : HO} (mp : MutAt H p) (zp : ¬ Fz p) : ∀ {ds : List D} {vs : List V} {fp : List Addr}, Owns K cl H Fz vs ds fp → noVws ds = true → p ∉ fp → Owns K cl (upd H p o) Fz vs ds fp
  | [], _, _, h, _, _ => by cases h; exact .nil
  | d :: ds, _, _, h, n, q => by
    simp only [noVws, Bool.and_eq_true] at n
    cases h with
    | cons a b => exact .cons (Own.upd mp zp a n.1 fun z => q (List.mem_append_left _ z)) (Owns.upd mp zp b n.2 fun z => q (List.mem_append_right _ z))
end
mutual
theorem Own.fp_nil : ∀ {d : D} {v : V} {fp : List Addr}, Own K cl H Fz v d fp → allFz d = true → fp = []
  | .non, _, _, h, _ => by cases h; rfl
  | .bl _, _, _, h, _ => by cases h; rfl
  | .int _, _, _, h, _ => by cases h; rfl
  | .str _, _, _, h, _ => by cases h; rfl
  | .tup ds, _, _, h, n => by cases h with | tup a b => exact Owns.fp_nil b n
  | .lst f ds, _, _, h, n => by
    simp only [allFz, Bool.and_eq_true, decide_eq_true_eq] at n
    obtain ⟨rfl, n⟩ := n
    cases h with | lst a b => rw [Owns.fp_nil b n]; cases a <;> rfl
  | .obj f c ns ds, _, _, h, n => by
    simp only [allFz, Bool.and_eq_true, decide_eq_true_eq] at n
    obtain ⟨rfl, n⟩ := n
    cases h with | obj a b => rw [Owns.fp_nil b n]; cases a <;> rfl
  | .dct f ks ds, _, _, h, n => by
    simp only [allFz, Bool.and_eq_true, decide_eq_true_eq] at n
    obtain ⟨rfl, n⟩ := n
    cases h with | dct a b => rw [Owns.fp_nil b n]; cases a <;> rfl
theorem Owns.fp_nil : ∀ {ds : List D} {vs : List V} {fp : List Addr}, Owns K cl H Fz vs ds fp → allFzs ds = true → fp = []
  | [], _, _, h, _ => by cases h; rfl
  | d :: ds, _, _, h, n => by
    simp only [allFzs, Bool.and_eq_true] at n
    cases h with | cons a b => rw [Own.fp_nil a n.1, Owns.fp_nil b n.2]; rfl
end
theorem Owns.length : ∀ {ds : List D} {vs : List V} {fp : List Addr}, Owns K cl H Fz vs ds fp → vs.length = ds.length
  | [], _, _, h => by cases h; rfl
  | d :: ds, _, _, h => by cases h with | cons a b => rw [List.length_cons, List.length_cons, b.length]
/-- a part of a footprint -/
def Sb (a b : List Addr) : Prop := ∃ r, (a ++ r).Perm b
theorem Sb.refl (a : List Addr) : Sb a a := ⟨[], by rw [List.append_nil]⟩
theorem Sb.nil (a : List Addr) : Sb [] a := ⟨a, List.Perm.refl _⟩
theorem Sb.of_perm {a b : List Addr} (h : a.Perm b) : Sb a b := ⟨[], by rw [List.append_nil]; exact h⟩
theorem Sb.trans {a b c : List Addr} : Sb a b → Sb b c → Sb a c
  | ⟨r, h⟩, ⟨t, k⟩ => ⟨r ++ t, by rw [← List.append_assoc]; exact (h.append_right t).trans k⟩
theorem Sb.left (a b : List Addr) : Sb a (a ++ b) := ⟨b, List.Perm.refl _⟩
theorem Sb.right (a b : List Addr) : Sb b (a ++ b) := ⟨a, List.perm_append_comm⟩
theorem Sb.mem {a b : List Addr} : Sb a b → ∀ p ∈ a, p ∈ b
  | ⟨r, h⟩, p, hp => h.subset (List.mem_append_left _ hp)
theorem Sb.nodup {a b : List Addr} : Sb a b → b.Nodup → a.Nodup
  | ⟨r, h⟩, n => (List.nodup_append.mp ((h.nodup_iff).mpr n)).1
theorem Sb.app {a b c e : List Addr} : Sb a b → Sb c e → Sb (a ++ c) (b ++ e)
  | ⟨r, h⟩, ⟨t, k⟩ => ⟨r ++ t, by
    have e1 : ((a ++ c) ++ (r ++ t)).Perm ((a ++ r) ++ (c ++ t)) := by
      rw [List.append_assoc, List.append_assoc]
      refine List.Perm.append_left a ?_
      rw [← List.append_assoc, ← List.append_assoc]
      exact (List.perm_append_comm).append_right t
    exact e1.trans (h.append k)⟩
theorem Owns.get : ∀ {ds : List D} {vs : List V} {fp : List Addr} {i : Nat} {d : D}, Owns K cl H Fz vs ds fp → ds[i]? = some d → ∃ v f, vs[i]? = some v ∧ Own K cl H Fz v d f ∧ Sb f fp
  | [], _, _, i, d, h, e => by simp at e
  | x :: ds, _, _, 0, d, h, e => by
    cases h with
    | cons a b =>
      simp only [List.getElem?_cons_zero, Option.some.injEq] at e
      subst e
      exact ⟨_, _, rfl, a, Sb.left _ _⟩
  | x :: ds, _, _, i + 1, d, h, e => by
    cases h with
    | cons a b =>
      obtain ⟨v, f, e1, o, s⟩ := Owns.get (i := i) b (by simpa using e)
      exact ⟨v, f, by simpa using e1, o, s.trans (Sb.right _ _)⟩
theorem Owns.append : ∀ {ds es : List D} {vs ws : List V} {f g : List Addr}, Owns K cl H Fz vs ds f → Owns K cl H Fz ws es g → Owns K cl H Fz (vs ++ ws) (ds ++ es) (f ++ g)
  | [], _, _, _, _, _, h, k => by cases h; exact k
  | x :: ds, _, _, _, _, _, h, k => by
    cases h with
    | cons a b => rw [List.append_assoc]; exact .cons a (Owns.append b k)
theorem Owns.take : ∀ {ds : List D} {vs : List V} {f : List Addr} (n : Nat), Owns K cl H Fz vs ds f → ∃ g, Owns K cl H Fz (vs.take n) (ds.take n) g ∧ Sb g f
  | _, _, f, 0, h => ⟨[], by rw [List.take_zero, List.take_zero]; exact .nil, Sb.nil _⟩
  | [], _, _, n + 1, h => by cases h; exact ⟨[], .nil, Sb.nil _⟩
  | x :: ds, _, _, n + 1, h => by
    cases h with
    | cons a b =>
      obtain ⟨g, o, s⟩ := Owns.take n b
      exact ⟨_, .cons a o, (Sb.refl _).app s⟩
theorem Owns.drop : ∀ {ds : List D} {vs : List V} {f : List Addr} (n : Nat), Owns K cl H Fz vs ds f → ∃ g, Owns K cl H Fz (vs.drop n) (ds.drop n) g ∧ Sb g f
  | _, _, f, 0, h => ⟨f, h, Sb.refl _⟩
  | [], _, _, n + 1, h => by cases h; exact ⟨[], .nil, Sb.nil _⟩
  | x :: ds, _, _, n + 1, h => by
    cases h with
    | cons a b =>
      obtain ⟨g, o, s⟩ := Owns.drop n b
      exact ⟨g, o, s.trans (Sb.right _ _)⟩
theorem Owns.reverse : ∀ {ds : List D} {vs : List V} {f : List Addr}, Owns K cl H Fz vs ds f → ∃ g, Owns K cl H Fz vs.reverse ds.reverse g ∧ g.Perm f
  | [], _, _, h => by cases h; exact ⟨[], .nil, List.Perm.refl _⟩
  | x :: ds, _, _, h => by
    cases h with
    | @cons v vs _ _ f1 f2 a b =>
      obtain ⟨g, o, s⟩ := Owns.reverse b
      refine ⟨g ++ (f1 ++ []), ?_, ?_⟩
      · rw [List.reverse_cons, List.reverse_cons]
        exact o.append (.cons a .nil)
      · rw [List.append_nil]
        exact (List.perm_append_comm).trans (s.append_left f1)
end
end Pu

set_option Elab.async false
set_option linter.all false
set_option maxRecDepth 100000
/-! Pu2: the state that an interpreter's state stands for. -/
namespace Pu
open PySem PySem.Spec PyProof.Rows L2

/-- what is fixed: the written part, the classes by number, the tables of code -/
structure Gb where
  K : PySem.W.Frag
  cl : Nat → Addr
  tabs : List Addr
  ec : Nat → Addr
def Tabs (tabs : List Addr) (H : Hp) : Prop := ∀ P ∈ tabs, GxR.TabG H P

section
variable (K : PySem.W.Frag) (cl : Nat → Addr)
inductive OwnS (H : Hp) (Fz : Addr → Prop) : L2.St → List (Option D) → List Addr → Prop
  | nil : OwnS H Fz [] [] []
  | skip {x σ ρ f} : OwnS H Fz σ ρ f → OwnS H Fz (x :: σ) (none :: ρ) f
  | put {v d σ ρ f1 f2} : Own K cl H Fz v d f1 → OwnS H Fz σ ρ f2 → OwnS H Fz (some v :: σ) (some d :: ρ) (f1 ++ f2)
end
section
variable {K : PySem.W.Frag} {cl : Nat → Addr} {H H' : Hp} {Fz Fz' : Addr → Prop} {σ : L2.St} {ρ : List (Option D)} {f : List Addr}
theorem OwnS.length (h : OwnS K cl H Fz σ ρ f) : σ.length = ρ.length := by
  induction h with
  | nil => rfl
  | skip _ ih => rw [List.length_cons, List.length_cons, ih]
  | put _ _ ih => rw [List.length_cons, List.length_cons, ih]
theorem OwnS.keep (k : Keep H H') (z : ∀ a, H a ≠ none → Fz a → Fz' a) (h : OwnS K cl H Fz σ ρ f) : OwnS K cl H' Fz' σ ρ f := by
  induction h with
  | nil => exact .nil
  | skip _ ih => exact .skip ih
  | put a _ ih => exact .put (a.keep k z) ih
theorem OwnS.mut (h : OwnS K cl H Fz σ ρ f) : ∀ p ∈ f, MutAt H p := by
  induction h with
  | nil => intro p hp; cases hp
  | skip _ ih => exact ih
  | put a _ ih =>
    intro p hp
    rcases List.mem_append.mp hp with hp | hp
    · exact a.mut p hp
    · exact ih p hp
theorem OwnS.get {i : Nat} {d : D} (h : OwnS K cl H Fz σ ρ f) (e : ρ[i]? = some (some d)) : ∃ v g, σ[i]? = some (some v) ∧ Own K cl H Fz v d g ∧ Sb g f := by
  induction h generalizing i with
  | nil => simp at e
  | skip _ ih =>
    cases i with
    | zero => simp at e
    | succ i => exact ih (by simpa using e)
  | put a _ ih =>
    cases i with
    | zero =>
      simp only [List.getElem?_cons_zero, Option.some.injEq] at e
      subst e
      exact ⟨_, _, rfl, a, Sb.left _ _⟩
    | succ i =>
      obtain ⟨v, g, e1, o, s⟩ := ih (i := i) (by simpa using e)
      exact ⟨v, g, by simpa using e1, o, s.trans (Sb.right _ _)⟩
theorem OwnS.set {i : Nat} {v : V} {d : D} {g : List Addr} (h : OwnS K cl H Fz σ ρ f) (hi : i < ρ.length) (o : Own K cl H Fz v d g) : ∃ f', OwnS K cl H Fz (σ.set i (some v)) (ρ.set i (some d)) f' ∧ Sb f' (g ++ f) := by
  induction h generalizing i with
  | nil => simp at hi
  | @skip x σ ρ f h ih =>
    cases i with
    | zero => exact ⟨_, .put o h, Sb.refl _⟩
    | succ i =>
      obtain ⟨f', q, s⟩ := ih (i := i) (by simpa using hi)
      exact ⟨f', .skip q, s⟩
  | @put v' d' σ ρ f1 f2 a h ih =>
    cases i with
    | zero => exact ⟨_, .put o h, (Sb.refl _).app (Sb.right _ _)⟩
    | succ i =>
      obtain ⟨f', q, s⟩ := ih (i := i) (by simpa using hi)
      refine ⟨_, .put a q, ((Sb.refl f1).app s).trans (Sb.of_perm ?_)⟩
      rw [← List.append_assoc, ← List.append_assoc]
      exact (List.perm_append_comm).append_right f2
/-- a slot forgotten -/
theorem OwnS.clear {i : Nat} {x : Option V} (h : OwnS K cl H Fz σ ρ f) : ∃ f', OwnS K cl H Fz (σ.set i x) (ρ.set i none) f' ∧ Sb f' f := by
  induction h generalizing i with
  | nil => exact ⟨[], .nil, Sb.refl _⟩
  | @skip y σ ρ f h ih =>
    cases i with
    | zero => exact ⟨_, .skip h, Sb.refl _⟩
    | succ i =>
      obtain ⟨f', q, s⟩ := ih (i := i)
      exact ⟨f', .skip q, s⟩
  | @put v' d' σ ρ f1 f2 a h ih =>
    cases i with
    | zero => exact ⟨_, .skip h, Sb.right _ _⟩
    | succ i =>
      obtain ⟨f', q, s⟩ := ih (i := i)
      exact ⟨_, .put a q, (Sb.refl f1).app s⟩
/-- a slot taken out -/
theorem OwnS.take {i : Nat} {d : D} {x : Option V} (h : OwnS K cl H Fz σ ρ f) (e : ρ[i]? = some (some d)) : ∃ v g f', σ[i]? = some (some v) ∧ Own K cl H Fz v d g ∧ OwnS K cl H Fz (σ.set i x) (ρ.set i none) f' ∧ (f' ++ g).Perm f := by
  induction h generalizing i with
  | nil => simp at e
  | @skip y σ ρ f h ih =>
    cases i with
    | zero => simp at e
    | succ i =>
      obtain ⟨v, g, f', e1, o, q, s⟩ := ih (i := i) (by simpa using e)
      exact ⟨v, g, f', by simpa using e1, o, .skip q, s⟩
  | @put v' d' σ ρ f1 f2 a h ih =>
    cases i with
    | zero =>
      simp only [List.getElem?_cons_zero, Option.some.injEq] at e
      subst e
      exact ⟨_, _, _, rfl, a, .skip h, List.perm_append_comm⟩
    | succ i =>
      obtain ⟨v, g, f', e1, o, q, s⟩ := ih (i := i) (by simpa using e)
      refine ⟨v, g, _, by simpa using e1, o, .put a q, ?_⟩
      rw [List.append_assoc]
      exact s.append_left f1
theorem OwnS.wipe {vs : List Nat} (h : OwnS K cl H Fz σ ρ f) : ∃ f', OwnS K cl H Fz (L2.wipe σ vs) (vs.foldr (fun i r => r.set i none) ρ) f' ∧ Sb f' f := by
  induction vs with
  | nil => exact ⟨f, h, Sb.refl _⟩
  | cons i vs ih =>
    obtain ⟨f', q, s⟩ := ih
    obtain ⟨f2, q2, s2⟩ := OwnS.clear (i := i) (x := none) q
    exact ⟨f2, q2, s2.trans s⟩
theorem Owns.split : ∀ {ds es : List D} {vs ws : List V} {f : List Addr}, Owns K cl H Fz (vs ++ ws) (ds ++ es) f → vs.length = ds.length → ∃ f1 f2, Owns K cl H Fz vs ds f1 ∧ Owns K cl H Fz ws es f2 ∧ f = f1 ++ f2
  | [], _, vs, _, f, h, e => by
    have z : vs = [] := List.eq_nil_of_length_eq_zero e
    subst z
    exact ⟨[], f, .nil, h, rfl⟩
  | d :: ds, _, [], _, f, h, e => by simp at e
  | d :: ds, _, v :: vs, _, f, h, e => by
    cases h with
    | cons a b =>
      obtain ⟨f1, f2, q1, q2, e2⟩ := Owns.split b (by simpa using e)
      exact ⟨_, f2, .cons a q1, q2, by rw [e2, List.append_assoc]⟩
end

/-- what may be held as settled -/
def Fzp (B : Hp) (F0 : Addr → Prop) (fp : List Addr) (a : Addr) : Prop := (F0 a ∨ B a = none) ∧ a ∉ fp

/-- the heap H bears the slots ρ (by the names' values σ) and the values td (at tv); what stood in B stands, and what is in Lk -/
structure Holds (G : Gb) (B : Hp) (F0 : Addr → Prop) (Lk : Hp) (σ : L2.St) (ρ : List (Option D)) (tv : List V) (td : List D) (H : Hp) : Prop where
  own : ∃ f1 f2, OwnS G.K G.cl H (Fzp B F0 (f1 ++ f2)) σ ρ f1 ∧ Owns G.K G.cl H (Fzp B F0 (f1 ++ f2)) tv td f2 ∧ (f1 ++ f2).Nodup ∧ ∀ p ∈ f1 ++ f2, B p = none
  kb : Keep B H
  kl : Keep Lk H
  tb : Tabs G.tabs H
section
variable {G : Gb} {B Lk H H' : Hp} {F0 : Addr → Prop} {σ : L2.St} {ρ : List (Option D)} {tv tv' : List V} {td td' : List D} {p : Addr} {v : V} {d : D}
theorem Tabs.new {tabs : List Addr} {o : HO} (h : Tabs tabs H) (hp : H p = none) : Tabs tabs (upd H p o) := fun P hP => by
  obtain ⟨ps, e, t⟩ := h P hP
  exact ⟨ps, by rw [upd_ne (ne_of_none e hp)]; exact e, t⟩
theorem Tabs.mut {tabs : List Addr} {o : HO} (h : Tabs tabs H) (hp : MutAt H p) : Tabs tabs (upd H p o) := fun P hP => by
  obtain ⟨ps, e, t⟩ := h P hP
  refine ⟨ps, ?_, t⟩
  rw [upd_ne]
  · exact e
  · intro z
    have := hp.1
    rw [← z, e] at this
    exact this
/-- the values on top turn into others that own no more -/
theorem Holds.re (h : Holds G B F0 Lk σ ρ tv td H) (k : Keep H H') (t : Tabs G.tabs H')
    (f : ∀ Fz f2, Owns G.K G.cl H Fz tv td f2 → ∃ g, Sb g f2 ∧ ∀ Fz' : Addr → Prop, (∀ a, H a ≠ none → Fz a → Fz' a) → (∀ p ∈ f2, p ∉ g → Fz' p) → Owns G.K G.cl H' Fz' tv' td' g) : Holds G B F0 Lk σ ρ tv' td' H' := by
  obtain ⟨⟨f1, f2, a, b, n, q⟩, kb, kl, tb⟩ := h
  obtain ⟨g, s, o⟩ := f _ f2 b
  have sub : Sb (f1 ++ g) (f1 ++ f2) := (Sb.refl f1).app s
  have mono : ∀ a, H a ≠ none → Fzp B F0 (f1 ++ f2) a → Fzp B F0 (f1 ++ g) a := fun a _ z => ⟨z.1, fun m => z.2 (sub.mem a m)⟩
  refine ⟨⟨f1, g, a.keep k mono, o _ mono fun p hp hn => ⟨.inr (q p (List.mem_append_right _ hp)), fun m => ?_⟩, sub.nodup n, fun p hp => q p (sub.mem p hp)⟩, kb.trans k, kl.trans k, t⟩
  rcases List.mem_append.mp m with m | m
  · exact (List.nodup_append.mp n).2.2 p m p hp rfl
  · exact hn m
/-- .. and a new node of theirs -/
theorem Holds.al {o : HO} (h : Holds G B F0 Lk σ ρ tv td H) (hp : H p = none)
    (f : ∀ Fz f2, Owns G.K G.cl H Fz tv td f2 → ∃ g, Sb g f2 ∧ ∀ Fz' : Addr → Prop, (∀ a, H a ≠ none → Fz a → Fz' a) → (∀ p ∈ f2, p ∉ g → Fz' p) → Owns G.K G.cl (upd H p o) Fz' tv' td' (p :: g)) : Holds G B F0 Lk σ ρ tv' td' (upd H p o) := by
  obtain ⟨⟨f1, f2, a, b, n, q⟩, kb, kl, tb⟩ := h
  obtain ⟨g, s, ow⟩ := f _ f2 b
  have k : Keep H (upd H p o) := Keep.new hp
  have sub : Sb (f1 ++ g) (f1 ++ f2) := (Sb.refl f1).app s
  have np : p ∉ f1 ++ f2 := fun m => by
    rcases List.mem_append.mp m with m | m
    · exact (a.mut p m).2 hp
    · exact (b.mut p m).2 hp
  have pm : (f1 ++ p :: g).Perm (p :: (f1 ++ g)) := List.perm_middle
  have mono : ∀ a, H a ≠ none → Fzp B F0 (f1 ++ f2) a → Fzp B F0 (f1 ++ p :: g) a := fun a ha z => ⟨z.1, fun m => by
    rcases List.mem_cons.mp (pm.subset m) with m | m
    · exact ha (m ▸ hp)
    · exact z.2 (sub.mem a m)⟩
  refine ⟨⟨f1, p :: g, a.keep k mono, ow _ mono fun r hr hn => ⟨.inr (q r (List.mem_append_right _ hr)), fun m => ?_⟩, ?_, fun r hr => ?_⟩, kb.trans k, kl.trans k, tb.new hp⟩
  · rcases List.mem_append.mp m with m | m
    · exact (List.nodup_append.mp n).2.2 r m r hr rfl
    · rcases List.mem_cons.mp m with m | m
      · exact np (m ▸ List.mem_append_right _ hr)
      · exact hn m
  · rw [pm.nodup_iff]
    exact List.nodup_cons.mpr ⟨fun m => np (sub.mem p m), sub.nodup n⟩
  · rcases List.mem_cons.mp (pm.subset hr) with m | m
    · rw [m]; exact kb.none hp
    · exact q r (sub.mem r m)
theorem Holds.keep (h : Holds G B F0 Lk σ ρ tv td H) (k : Keep H H') (t : Tabs G.tabs H') : Holds G B F0 Lk σ ρ tv td H' :=
  h.re k t fun Fz f2 b => ⟨f2, Sb.refl _, fun Fz' m _ => b.keep k m⟩
theorem Holds.pop (h : Holds G B F0 Lk σ ρ (v :: tv) (d :: td) H) : Holds G B F0 Lk σ ρ tv td H :=
  h.re (Keep.refl _) h.tb fun Fz f2 b => by
    cases b with
    | cons a b => exact ⟨_, Sb.right _ _, fun Fz' m _ => b.keep (Keep.refl _) m⟩
theorem Holds.popn {vs : List V} {ds : List D} (h : Holds G B F0 Lk σ ρ (vs ++ tv) (ds ++ td) H) (e : vs.length = ds.length) : Holds G B F0 Lk σ ρ tv td H :=
  h.re (Keep.refl _) h.tb fun Fz f2 b => by
    obtain ⟨g1, g2, q1, q2, rfl⟩ := b.split e
    exact ⟨_, Sb.right _ _, fun Fz' m _ => q2.keep (Keep.refl _) m⟩
/-- a value that needs no heap -/
theorem Holds.push (h : Holds G B F0 Lk σ ρ tv td H) (o : ∀ Fz, Own G.K G.cl H Fz v d []) : Holds G B F0 Lk σ ρ (v :: tv) (d :: td) H :=
  h.re (Keep.refl _) h.tb fun Fz f2 b => ⟨f2, Sb.refl _, fun Fz' m _ => .cons (o _) (b.keep (Keep.refl _) m)⟩
/-- the top one settled -/
theorem Holds.frz (h : Holds G B F0 Lk σ ρ (v :: tv) (d :: td) H) : Holds G B F0 Lk σ ρ (v :: tv) (fzD d :: td) H := by
  obtain ⟨⟨f1, f2, a, b, n, q⟩, kb, kl, tb⟩ := h
  cases b with
  | @cons _ _ _ _ g1 g2 b1 b2 =>
    have s : Sb (f1 ++ g2) (f1 ++ (g1 ++ g2)) := (Sb.refl f1).app (Sb.right _ _)
    have mono : ∀ a, Fzp B F0 (f1 ++ (g1 ++ g2)) a → Fzp B F0 (f1 ++ g2) a := fun a z => ⟨z.1, fun m => z.2 (s.mem a m)⟩
    refine ⟨⟨f1, [] ++ g2, a.keep (Keep.refl _) fun a _ => mono a, .cons (b1.freeze mono fun p hp => ⟨.inr (q p (List.mem_append_right _ (List.mem_append_left _ hp))), fun m => ?_⟩) (b2.keep (Keep.refl _) fun a _ => mono a), s.nodup n, fun p hp => q p (s.mem p hp)⟩, kb, kl, tb⟩
    have n2 := List.nodup_append.mp n
    rcases List.mem_append.mp m with m | m
    · exact n2.2.2 p m p (List.mem_append_left _ hp) rfl
    · exact (List.nodup_append.mp n2.2.1).2.2 p hp p m rfl
/-- the top one replaced by what it holds -/
theorem Holds.part {v' : V} {d' : D} (h : Holds G B F0 Lk σ ρ (v :: tv) (d :: td) H) (f : ∀ Fz f, Own G.K G.cl H Fz v d f → ∃ g, Own G.K G.cl H Fz v' d' g ∧ Sb g f) : Holds G B F0 Lk σ ρ (v' :: tv) (d' :: td) H :=
  h.re (Keep.refl _) h.tb fun Fz f2 b => by
    cases b with
    | @cons _ _ _ _ g1 g2 b1 b2 =>
      obtain ⟨g, o, s⟩ := f _ _ b1
      exact ⟨g ++ g2, s.app (Sb.refl _), fun Fz' m _ => .cons (o.keep (Keep.refl _) m) (b2.keep (Keep.refl _) m)⟩
/-- what the top one is -/
theorem Holds.top (h : Holds G B F0 Lk σ ρ (v :: tv) (d :: td) H) : ∃ Fz f, Own G.K G.cl H Fz v d f := by
  obtain ⟨⟨f1, f2, a, b, n, q⟩, kb, kl, tb⟩ := h
  cases b with
  | cons b1 b2 => exact ⟨_, _, b1⟩
theorem Holds.topn {vs : List V} {ds : List D} (h : Holds G B F0 Lk σ ρ (vs ++ tv) (ds ++ td) H) (e : vs.length = ds.length) : ∃ Fz f, Owns G.K G.cl H Fz vs ds f := by
  obtain ⟨⟨f1, f2, a, b, n, q⟩, kb, kl, tb⟩ := h
  obtain ⟨g1, g2, q1, q2, rfl⟩ := b.split e
  exact ⟨_, _, q1⟩
theorem Holds.var {i : Nat} (h : Holds G B F0 Lk σ ρ tv td H) (e : ρ[i]? = some (some d)) : ∃ v, σ[i]? = some (some v) ∧ Holds G B F0 Lk σ ρ (v :: tv) (vwD d :: td) H := by
  obtain ⟨⟨f1, f2, a, b, n, q⟩, kb, kl, tb⟩ := h
  obtain ⟨v, g, e1, o, s⟩ := a.get e
  exact ⟨v, e1, ⟨f1, [] ++ f2, a, .cons o.view b, n, q⟩, kb, kl, tb⟩
theorem Holds.newTup {vs : List V} {ds : List D} (h : Holds G B F0 Lk σ ρ (vs ++ tv) (ds ++ td) H) (e : vs.length = ds.length) (hp : H p = none) : Holds G B F0 Lk σ ρ (.ref p :: tv) (.tup ds :: td) (upd H p (.tup vs)) :=
  h.re (Keep.new hp) (h.tb.new hp) fun Fz f2 b => by
    obtain ⟨g1, g2, q1, q2, rfl⟩ := b.split e
    exact ⟨g1 ++ g2, Sb.refl _, fun Fz' m _ => .cons (.tup (SqT.of upd_same) (q1.keep (Keep.new hp) m)) (q2.keep (Keep.new hp) m)⟩
theorem Holds.newLst {vs : List V} {ds : List D} (h : Holds G B F0 Lk σ ρ (vs ++ tv) (ds ++ td) H) (e : vs.length = ds.length) (hp : H p = none) : Holds G B F0 Lk σ ρ (.ref p :: tv) (.lst .ow ds :: td) (upd H p (.lst vs)) :=
  h.al hp fun Fz f2 b => by
    obtain ⟨g1, g2, q1, q2, rfl⟩ := b.split e
    refine ⟨g1 ++ g2, Sb.refl _, fun Fz' m _ => ?_⟩
    exact Owns.cons (f1 := [p] ++ g1) (.lst (.ow upd_same) (q1.keep (Keep.new hp) m)) (q2.keep (Keep.new hp) m)
/-- the top one goes below others -/
theorem Holds.down {vs : List V} {ds : List D} (h : Holds G B F0 Lk σ ρ (v :: (vs ++ tv)) (d :: (ds ++ td)) H) (e : vs.length = ds.length) : Holds G B F0 Lk σ ρ (vs ++ v :: tv) (ds ++ d :: td) H :=
  h.re (Keep.refl _) h.tb fun Fz f2 b => by
    cases b with
    | @cons _ _ _ _ g0 _ b1 b2 =>
      obtain ⟨g1, g2, q1, q2, rfl⟩ := b2.split e
      refine ⟨g1 ++ (g0 ++ g2), Sb.of_perm ?_, fun Fz' m _ => (q1.keep (Keep.refl _) m).append (.cons (b1.keep (Keep.refl _) m) (q2.keep (Keep.refl _) m))⟩
      rw [← List.append_assoc, ← List.append_assoc]
      exact (List.perm_append_comm).append_right g2
theorem Holds.up {vs : List V} {ds : List D} (h : Holds G B F0 Lk σ ρ (vs ++ v :: tv) (ds ++ d :: td) H) (e : vs.length = ds.length) : Holds G B F0 Lk σ ρ (v :: (vs ++ tv)) (d :: (ds ++ td)) H :=
  h.re (Keep.refl _) h.tb fun Fz f2 b => by
    obtain ⟨g1, g2, q1, q2, rfl⟩ := b.split e
    cases q2 with
    | @cons _ _ _ _ g0 g3 b1 b2 =>
      refine ⟨g0 ++ (g1 ++ g3), Sb.of_perm ?_, fun Fz' m _ => .cons (b1.keep (Keep.refl _) m) ((q1.keep (Keep.refl _) m).append (b2.keep (Keep.refl _) m))⟩
      rw [← List.append_assoc, ← List.append_assoc]
      exact (List.perm_append_comm).append_right g3
/-- name = value -/
theorem Holds.set {i : Nat} (h : Holds G B F0 Lk σ ρ (v :: tv) (d :: td) H) (hi : i < ρ.length) : Holds G B F0 Lk (σ.set i (some v)) (ρ.set i (some d)) tv td H := by
  obtain ⟨⟨f1, f2, a, b, n, q⟩, kb, kl, tb⟩ := h
  cases b with
  | @cons _ _ _ _ g1 g2 b1 b2 =>
    obtain ⟨f', o, s⟩ := a.set hi b1
    have s2 : Sb (f' ++ g2) (f1 ++ (g1 ++ g2)) := (s.app (Sb.refl g2)).trans (Sb.of_perm (by
      rw [← List.append_assoc]
      exact (List.perm_append_comm).append_right g2))
    have mono : ∀ a, H a ≠ none → Fzp B F0 (f1 ++ (g1 ++ g2)) a → Fzp B F0 (f' ++ g2) a := fun a _ z => ⟨z.1, fun m => z.2 (s2.mem a m)⟩
    exact ⟨⟨f', g2, o.keep (Keep.refl _) mono, b2.keep (Keep.refl _) mono, s2.nodup n, fun p hp => q p (s2.mem p hp)⟩, kb, kl, tb⟩
theorem Holds.slen (h : Holds G B F0 Lk σ ρ tv td H) : σ.length = ρ.length := by
  obtain ⟨⟨f1, f2, a, _⟩, _⟩ := h
  exact a.length
/-- a comprehension's names forgotten -/
def wipeD (ρ : List (Option D)) (vs : List Nat) : List (Option D) := vs.foldr (fun i r => r.set i none) ρ
theorem Holds.wipe {vs : List Nat} (h : Holds G B F0 Lk σ ρ tv td H) : Holds G B F0 Lk (L2.wipe σ vs) (wipeD ρ vs) tv td H := by
  obtain ⟨⟨f1, f2, a, b, n, q⟩, kb, kl, tb⟩ := h
  obtain ⟨f', o, s⟩ := a.wipe (vs := vs)
  have s2 : Sb (f' ++ f2) (f1 ++ f2) := s.app (Sb.refl _)
  have mono : ∀ a, H a ≠ none → Fzp B F0 (f1 ++ f2) a → Fzp B F0 (f' ++ f2) a := fun a _ z => ⟨z.1, fun m => z.2 (s2.mem a m)⟩
  exact ⟨⟨f', f2, o.keep (Keep.refl _) mono, b.keep (Keep.refl _) mono, s2.nodup n, fun p hp => q p (s2.mem p hp)⟩, kb, kl, tb⟩
end
end Pu

set_option Elab.async false
set_option linter.all false
set_option maxRecDepth 100000
/-! Pu3: the interpreter's language and its meaning over data. -/
namespace Pu
open PySem PySem.Spec PyProof.Rows L2

structure Exn where
  c : Nat
  ns : List Str
  xs : List D
  ms : List D
inductive Out (α : Type) where
  | ok (a : α) | exc (x : Exn) | bad
def Out.bind {α β : Type} : Out α → (α → Out β) → Out β
  | .ok a, f => f a
  | .exc x, _ => .exc x
  | .bad, _ => .bad
@[simp] theorem Out.bind_ok {α β : Type} (a : α) (f : α → Out β) : Out.bind (.ok a) f = f a := id rfl
@[simp] theorem Out.bind_exc {α β : Type} (x : Exn) (f : α → Out β) : Out.bind (.exc x) f = .exc x := id rfl
@[simp] theorem Out.bind_bad {α β : Type} (f : α → Out β) : Out.bind (.bad : Out α) f = .bad := id rfl
/-- an exception here is beyond us -/
def Out.calm {α : Type} : Out α → Out α
  | .ok a => .ok a
  | _ => .bad
@[simp] theorem Out.calm_ok {α : Type} (a : α) : Out.calm (.ok a) = .ok a := id rfl
/-- what may have no answer -/
def Out.ofo {α : Type} : Option α → Out α
  | some a => .ok a
  | none => .bad
@[simp] theorem Out.ofo_some {α : Type} (a : α) : Out.ofo (some a) = .ok a := id rfl
@[simp] theorem Out.ofo_none {α : Type} : Out.ofo (none : Option α) = .bad := id rfl
def Out.chk {α : Type} (b : Bool) (o : Out α) : Out α := if b = true then o else .bad
@[simp] theorem Out.chk_true {α : Type} (o : Out α) : Out.chk true o = o := id rfl

inductive Bop | add | sub | mul | fdiv | mod | pow
  deriving DecidableEq
inductive Cop | eq | ne | lt | le | gt | ge | isIn | notIn | isNon | notNon
  deriving DecidableEq
/-- built-in functions of values -/
inductive Bi | len | int | str | tuple | list | sorted | repr | max | min | ord | join | split
  deriving DecidableEq
/-- a class to be asked for -/
inductive Bt | int | str | list | tuple | bool | dict
  deriving DecidableEq
def Bt.nm : Bt → String
  | .int => "int" | .str => "str" | .list => "list" | .tuple => "tuple" | .bool => "bool" | .dict => "dict"
inductive Ty | b (n : Bt) | c (k : Nat) | bs (ns : List Bt)
  deriving DecidableEq
inductive Tg | nm (i : Nat) | tp (is : List Nat)
  deriving DecidableEq

mutual
inductive Ex where
  | var (i : Nat)
  | non | bl (b : Bool) | int (i : Int) | str (s : Str)
  | gl (k : Nat)
  | bin (o : Bop) (a b : Ex)
  | neg (a : Ex)
  | not (a : Ex)
  | cmp (o : Cop) (a b : Ex)
  | chn (o1 o2 : Cop) (a b c : Ex)
  | and (a b : Ex)
  | or (a b : Ex)
  | ife (c a b : Ex)
  | tup (es : List Ex)
  | lst (es : List Ex)
  | idx (a i : Ex)
  | slc (a : Ex) (lo hi : List Ex)
  | rev (a : Ex)
  | bi (f : Bi) (es : List Ex)
  | isi (a : Ex) (t : Ty)
  | call (k : Nat) (es : List Ex)
  | mk (c : Nat) (k : Nat) (es : List Ex)
  | fld (a : Ex) (f : Str)
  | comp (own : List Nat) (elt : Ex) (tg : Tg) (it : It) (cond : List Ex)
  | gen (all : Bool) (own : List Nat) (elt : Ex) (tg : Tg) (it : It)
  | fst (es : List Ex)
  | stl (e : Ex) (es : List Ex)
inductive It where
  | of (e : Ex)
  | rng (es : List Ex)
  | enum (a : Ex)
  | zip (es : List Ex)
  | rvd (a : Ex)
end

/-! ### data as the model's own plain data -/
mutual
def toP : D → Option PyData
  | .non => some .none
  | .bl b => some (.bool b)
  | .int i => some (.int i)
  | .str s => some (.str s)
  | .tup xs => match toPs xs with | some ps => some (.tuple ps) | none => none
  | .lst _ xs => match toPs xs with | some ps => some (.list ps) | none => none
  | .obj _ _ _ _ => none
  | .dct _ _ _ => none
def toPs : List D → Option (List PyData)
  | [] => some []
  | x :: xs => match toP x, toPs xs with
    | some p, some ps => some (p :: ps)
    | _, _ => none
end
/-- plain and of a shape that may be compared -/
def plain (d : D) : Option PyData := match toP d with
  | some p => if SeqAt.shaped p = true then some p else none
  | none => none

def strsOf : List D → Option (List Str)
  | [] => some []
  | .str s :: xs => match strsOf xs with | some ss => some (s :: ss) | none => none
  | _ :: _ => none
def intsOf : List D → Option (List Int)
  | [] => some []
  | .int s :: xs => match intsOf xs with | some ss => some (s :: ss) | none => none
  | _ :: _ => none

def binD : Bop → D → D → Out D
  | .add, .int i, .int j => .ok (.int (i + j))
  | .add, .str x, .str y => .chk (decide (x.length + y.length ≤ sizeLine)) (.ok (.str (x ++ y)))
  | .add, .lst _ xs, .lst _ ys => .chk (decide (xs.length + ys.length ≤ sizeLine)) (.ok (.lst .ow (xs ++ ys)))
  | .add, .tup xs, .tup ys => .chk (decide (xs.length + ys.length ≤ sizeLine)) (.ok (.tup (xs ++ ys)))
  | .sub, .int i, .int j => .ok (.int (i - j))
  | .mul, .int i, .int j => .chk (decide (-(2 ^ 64) < i ∧ i < 2 ^ 64) || decide (-(2 ^ 64) < j ∧ j < 2 ^ 64)) (.ok (.int (i * j)))
  | .fdiv, .int i, .int j => .chk (decide (0 < j ∧ j < 1073741824)) (.ok (.int (i / j)))
  | .mod, .int i, .int j => .chk (decide (0 < j)) (.ok (.int (i % j)))
  | .pow, .int i, .int j => .chk (decide (0 ≤ j ∧ j ≤ 1000000 ∧ i.natAbs < 2 ^ 64)) (.ok (.int (i ^ j.toNat)))
  | _, _, _ => .bad
def negD : D → Out D
  | .int i => .ok (.int (-i))
  | _ => .bad
def seqOf : D → Option (List D)
  | .lst _ xs => some xs
  | .tup xs => some xs
  | _ => none
def isNonD : D → Bool
  | .non => true
  | _ => false
def cmpB : Cop → D → D → Option Bool
  | .eq, x, y => match plain x, plain y with
    | some p, some q => some (PyData.eqv p q)
    | _, _ => none
  | .ne, x, y => match plain x, plain y with
    | some p, some q => some (!PyData.eqv p q)
    | _, _ => none
  | .lt, .int i, .int j => some (decide (i < j))
  | .le, .int i, .int j => some (decide (i ≤ j))
  | .gt, .int i, .int j => some (decide (j < i))
  | .ge, .int i, .int j => some (decide (j ≤ i))
  | .isIn, .str x, .str y => match x.cps.toList with
    | [c] => some (decide (c ∈ y.cps.toList))
    | _ => none
  | .notIn, .str x, .str y => match x.cps.toList with
    | [c] => some (!decide (c ∈ y.cps.toList))
    | _ => none
  | .isIn, x, .lst f ys => match plain x, plain (.lst f ys) with
    | some p, some (.list qs) => some (qs.any fun z => PyData.eqv z p)
    | _, _ => none
  | .notIn, x, .lst f ys => match plain x, plain (.lst f ys) with
    | some p, some (.list qs) => some (!(qs.any fun z => PyData.eqv z p))
    | _, _ => none
  | .isIn, x, .tup ys => match plain x, plain (.tup ys) with
    | some p, some (.tuple qs) => some (qs.any fun z => PyData.eqv z p)
    | _, _ => none
  | .notIn, x, .tup ys => match plain x, plain (.tup ys) with
    | some p, some (.tuple qs) => some (!(qs.any fun z => PyData.eqv z p))
    | _, _ => none
  | .isNon, x, .non => some (isNonD x)
  | .notNon, x, .non => some (!isNonD x)
  | _, _, _ => none
/-- a value's truth -/
def truD : D → Option Bool
  | .non => some false
  | .bl b => some b
  | .int i => some (i != 0)
  | .str x => if (decide (x.length ≤ sizeLine)) = true then some ((x.length : Int) != 0) else none
  | .lst _ xs => some (!xs.isEmpty)
  | .tup xs => some (!xs.isEmpty)
  | _ => none
def boolD : D → Out Bool
  | .bl b => .ok b
  | _ => .bad
def idxD : D → D → Out D
  | .lst _ xs, .int i => match atI xs i with | some d => .ok d | none => .bad
  | .tup xs, .int i => match atI xs i with | some d => .ok d | none => .bad
  | .str x, .int i => .chk (decide (x.length ≤ sizeLine)) (match atI x.cps.toList i with | some c => .ok (.str ⟨#[c]⟩) | none => .bad)
  | _, _ => .bad
def cutD {α : Type} (xs : List α) (lo hi : Option Int) : List α := (xs.drop (HT.sIx xs.length 0 lo)).take (HT.sIx xs.length xs.length hi - HT.sIx xs.length 0 lo)
def slcD (x : D) (lo hi : Option Int) : Out D := match x with
  | .lst _ xs => .ok (.lst .ow (cutD xs lo hi))
  | .tup xs => .ok (.tup (cutD xs lo hi))
  | .str x => .chk (decide (x.length ≤ sizeLine)) (.ok (.str (cutS x lo hi)))
  | _ => .bad
def revD : D → Out D
  | .lst _ xs => .ok (.lst .ow xs.reverse)
  | _ => .bad
def reprD (d : D) : Out D := match toP d with
  | some p => .chk (p.showable && !p.hasDict && decide (p.depth ≤ 64) && decide (p.shown.length ≤ sizeLine)) (.ok (.str p.shown))
  | none => .bad
def biD : Bi → List D → Out D
  | .len, [.lst _ xs] => .ok (.int xs.length)
  | .len, [.tup xs] => .ok (.int xs.length)
  | .len, [.str x] => .chk (decide (x.length ≤ sizeLine)) (.ok (.int x.length))
  | .int, [.int i] => .ok (.int i)
  | .int, [.bl b] => .ok (.int (if b then 1 else 0))
  | .int, [.str x] => match PySem.intText? x with | some n => .chk (decide (x.length ≤ 640)) (.ok (.int n)) | none => .bad
  | .str, [.int i] => .chk (decide (i.natAbs.log2 < 1920)) (.ok (.str (Str.ofString (toString i))))
  | .tuple, [.lst _ xs] => .ok (.tup xs)
  | .tuple, [.tup xs] => .ok (.tup xs)
  | .list, [.lst _ xs] => .ok (.lst .ow xs)
  | .list, [.tup xs] => .ok (.lst .ow xs)
  | .repr, [.lst f xs] => reprD (.lst f xs)
  | .repr, [.tup xs] => reprD (.tup xs)
  | .sorted, [.lst _ xs] => match intsOf xs with
    | some is => .chk (decide (is.length < 64)) (.ok (.lst .ow ((is.mergeSort (fun a b => decide (a ≤ b))).map D.int)))
    | none => .bad
  | .max, [.int i, .int j] => .ok (.int (if j > i then j else i))
  | .min, [.int i, .int j] => .ok (.int (if j < i then j else i))
  | .join, [.str x, d] => match seqOf d with
    | some ys => match strsOf ys with
      | some ss => .chk (decide ((Txt.join x ss).length ≤ sizeLine)) (.ok (.str (Txt.join x ss)))
      | none => .bad
    | none => .bad
  | .split, [.str x, .str y] => .chk ((y.length != 0) && decide (x.length + 2 ≤ sizeLine)) (.ok (.lst .ow ((Txt.split x y).map D.str)))
  | _, _ => .bad
/-- the built-in class of a value -/
def btD : D → Option (Option Bt)
  | .non => some none
  | .bl _ => some (some .bool)
  | .int _ => some (some .int)
  | .str _ => some (some .str)
  | .tup _ => some (some .tuple)
  | .lst _ _ => some (some .list)
  | _ => none
def btIn : Option Bt → Bt → Bool
  | some .bool, .int => true
  | some a, b => decide (a = b)
  | none, _ => false
def tyD (t : Ty) (d : D) : Out Bool := match btD d with
  | some o => match t with
    | .b n => .ok (btIn o n)
    | .bs ns => .ok (ns.any (btIn o))
    | .c _ => .bad
  | none => .bad
def fldD (f : Str) : D → Out D
  | .obj _ _ ns xs => match (ns.zip xs).lookup f with | some d => .ok d | none => .bad
  | _ => .bad

def putAll : List Nat → List D → List (Option D) → Out (List (Option D))
  | [], [], ρ => .ok ρ
  | i :: is, d :: ds, ρ => .chk (decide (i < ρ.length)) (putAll is ds (ρ.set i (some d)))
  | _, _, _ => .bad
def bindTg : Tg → D → List (Option D) → Out (List (Option D))
  | .nm i, d, ρ => .chk (decide (i < ρ.length)) (.ok (ρ.set i (some d)))
  | .tp is, .tup ds, ρ => putAll is ds ρ
  | .tp _, _, _ => .bad
def compL : List D → (D → Out (Option D)) → Out (List D)
  | [], _ => .ok []
  | x :: xs, f => (f x).bind fun y => (compL xs f).bind fun ys => .ok (match y with | some y => y :: ys | none => ys)
/-- all (or any) of what f says -/
def genL (all : Bool) : List D → (D → Out Bool) → Out Bool
  | [], _ => .ok all
  | x :: xs, f => (f x).bind fun b => if b == all then genL all xs f else .ok (!all)
def intsFrom (lo : Int) : Nat → List D
  | 0 => []
  | n + 1 => .int lo :: intsFrom (lo + 1) n
def enumL : Nat → List D → List D
  | _, [] => []
  | i, x :: xs => .tup [.int (i : Nat), x] :: enumL (i + 1) xs
def zip2L : List D → List D → List D
  | x :: xs, y :: ys => .tup [x, y] :: zip2L xs ys
  | _, _ => []
def zip3L : List D → List D → List D → List D
  | x :: xs, y :: ys, z :: zs => .tup [x, y, z] :: zip3L xs ys zs
  | _, _, _ => []
def ofD : D → Out (List D)
  | .lst _ xs => .ok xs
  | .tup xs => .ok xs
  | .str x => .ok (x.cps.toList.map fun c => .str ⟨#[c]⟩)
  | _ => .bad
def listD : D → Out (List D)
  | .lst _ xs => .ok xs
  | .tup xs => .ok xs
  | _ => .bad
def zipD : List D → Out (List D)
  | [.lst _ xs, .lst _ ys] => .ok (zip2L xs ys)
  | [.tup xs, .tup ys] => .ok (zip2L xs ys)
  | _ => .bad
def rngD (i j : Int) : Out (List D) := .chk (decide (-(2 ^ 62) ≤ i ∧ i < 2 ^ 62 ∧ -(2 ^ 62) ≤ j ∧ j < 2 ^ 62)) (.ok (intsFrom i (j - i).toNat))
def rngA : List D → Out (List D)
  | [.int j] => rngD 0 j
  | [.int i, .int j] => rngD i j
  | _ => .bad
def optI : List D → Out (Option Int)
  | [] => .ok none
  | [.int i] => .ok (some i)
  | _ => .bad
def fmtD : D → Out Str
  | .int i => .chk (decide (i.natAbs.log2 < 1920)) (.ok (Str.ofString (toString i)))
  | .str x => .chk (decide (x.length ≤ sizeLine)) (.ok x)
  | _ => .bad
def fstD : List D → Str → Out D
  | [], acc => .ok (.str acc)
  | d :: ds, acc => (fmtD d).bind fun x => .chk (decide ((acc ++ x).length ≤ sizeLine)) (fstD ds (acc ++ x))
mutual
def anyFz : D → D
  | .non => .non | .bl b => .bl b | .int i => .int i | .str s => .str s
  | .tup xs => .tup (anyFzs xs) | .lst _ xs => .lst .fz (anyFzs xs) | .obj _ c ns xs => .obj .fz c ns (anyFzs xs) | .dct _ ks xs => .dct .fz ks (anyFzs xs)
def anyFzs : List D → List D
  | [] => []
  | x :: xs => anyFz x :: anyFzs xs
end
/-- what a call of a function that changes nothing gives -/
def callD (Φ : Nat → List D → Out (D × List D)) (k : Nat) (ds : List D) : Out D :=
  (Φ k (anyFzs ds)).bind fun r => if noVws ds = true then .ok r.1 else .ok (vaD r.1)
def mkD (Φ : Nat → List D → Out (D × List D)) (c k : Nat) (ds : List D) : Out D :=
  (Φ k (.obj .ow c [] [] :: anyFzs ds)).bind fun r => match r with
    | (.non, [o]) => if noVws ds = true then .ok o else .ok (vaD o)
    | _ => .bad
mutual
def ev (Φ : Nat → List D → Out (D × List D)) (gv : Nat → D) : Ex → List (Option D) → Out D
  | .var i, ρ => match ρ[i]? with
    | some (some d) => .ok (vwD d)
    | _ => .bad
  | .non, _ => .ok .non
  | .bl b, _ => .ok (.bl b)
  | .int i, _ => .ok (.int i)
  | .str s, _ => .ok (.str s)
  | .gl k, _ => .ok (gv k)
  | .bin o a b, ρ => (ev Φ gv a ρ).bind fun x => (ev Φ gv b ρ).bind fun y => binD o x y
  | .neg a, ρ => (ev Φ gv a ρ).bind negD
  | .not a, ρ => (ev Φ gv a ρ).bind fun x => (Out.ofo (truD x)).bind fun b => .ok (.bl (!b))
  | .cmp o a b, ρ => (ev Φ gv a ρ).bind fun x => (ev Φ gv b ρ).bind fun y => (Out.ofo (cmpB o x y)).bind fun t => .ok (.bl t)
  | .chn o1 o2 a b c, ρ => (ev Φ gv a ρ).bind fun x => (ev Φ gv b ρ).bind fun y => (Out.ofo (cmpB o1 x y)).bind fun t =>
      if t = true then (ev Φ gv c ρ).bind fun z => (Out.ofo (cmpB o2 y z)).bind fun t => .ok (.bl t) else .ok (.bl false)
  | .and a b, ρ => (ev Φ gv a ρ).bind fun x => (Out.ofo (truD x)).bind fun t => if t = true then ev Φ gv b ρ else .ok x
  | .or a b, ρ => (ev Φ gv a ρ).bind fun x => (Out.ofo (truD x)).bind fun t => if t = true then .ok x else ev Φ gv b ρ
  | .ife c a b, ρ => (ev Φ gv c ρ).bind fun x => (Out.ofo (truD x)).bind fun t => if t = true then ev Φ gv a ρ else ev Φ gv b ρ
  | .tup es, ρ => (evs Φ gv es ρ).bind fun ds => .chk (decide (ds.length ≤ sizeLine)) (.ok (.tup ds))
  | .lst es, ρ => (evs Φ gv es ρ).bind fun ds => .chk (decide (ds.length ≤ sizeLine)) (.ok (.lst .ow ds))
  | .idx a i, ρ => (ev Φ gv a ρ).bind fun x => (ev Φ gv i ρ).bind fun y => idxD x y
  | .slc a lo hi, ρ => (ev Φ gv a ρ).bind fun x => ((evs Φ gv lo ρ).bind optI).bind fun l => ((evs Φ gv hi ρ).bind optI).bind fun h => slcD x l h
  | .rev a, ρ => (ev Φ gv a ρ).bind revD
  | .bi f es, ρ => (evs Φ gv es ρ).bind fun ds => biD f ds
  | .isi a t, ρ => (ev Φ gv a ρ).bind fun x => (tyD t x).bind fun b => .ok (.bl b)
  | .call k es, ρ => (evs Φ gv es ρ).bind fun ds => callD Φ k ds
  | .mk c k es, ρ => (evs Φ gv es ρ).bind fun ds => mkD Φ c k ds
  | .fld a f, ρ => (ev Φ gv a ρ).bind fun x => fldD f x
  | .comp own elt tg it cond, ρ => (evIt Φ gv it ρ).bind fun xs => ((compL xs.1 fun x => (bindTg tg x (wipeD ρ own)).bind fun ρ' => (evc Φ gv cond ρ').bind fun b =>
      if b = true then (ev Φ gv elt ρ').bind fun y => .ok (some y) else .ok none).calm).bind fun ys => .chk (decide (ys.length ≤ sizeLine)) (.ok (.lst .ow ys))
  | .gen all own elt tg it, ρ => (evIt Φ gv it ρ).bind fun xs => ((genL all xs.1 fun x => (bindTg tg x (wipeD ρ own)).bind fun ρ' => (ev Φ gv elt ρ').bind boolD).calm).bind fun b => .ok (.bl b)
  | .fst es, ρ => (evs Φ gv es ρ).bind fun ds => fstD ds Str.empty
  | .stl e es, ρ => (ev Φ gv e ρ).bind fun x => (listD x).bind fun xs => (evs Φ gv es ρ).bind fun ys => .chk (decide ((xs ++ ys).length ≤ sizeLine)) (.ok (.lst .ow (xs ++ ys)))
def evs (Φ : Nat → List D → Out (D × List D)) (gv : Nat → D) : List Ex → List (Option D) → Out (List D)
  | [], _ => .ok []
  | e :: es, ρ => (ev Φ gv e ρ).bind fun x => (evs Φ gv es ρ).bind fun xs => .ok (x :: xs)
def evc (Φ : Nat → List D → Out (D × List D)) (gv : Nat → D) : List Ex → List (Option D) → Out Bool
  | [], _ => .ok true
  | c :: cs, ρ => (ev Φ gv c ρ).bind fun x => (Out.ofo (truD x)).bind fun b => if b = true then evc Φ gv cs ρ else .ok false
def evIt (Φ : Nat → List D → Out (D × List D)) (gv : Nat → D) : It → List (Option D) → Out (List D × Bool)
  | .of e, ρ => (ev Φ gv e ρ).bind fun x => (ofD (fzD x)).bind fun xs => .ok (xs, noVw x)
  | .rng es, ρ => (evs Φ gv es ρ).bind fun ds => (rngA ds).bind fun xs => .ok (xs, true)
  | .enum a, ρ => (ev Φ gv a ρ).bind fun x => (listD (fzD x)).bind fun xs => .ok (enumL 0 xs, noVw x)
  | .zip es, ρ => (evs Φ gv es ρ).bind fun ds => (zipD (fzDs ds)).bind fun xs => .ok (xs, noVws ds)
  | .rvd a, ρ => (ev Φ gv a ρ).bind fun x => (listD (fzD x)).bind fun xs => .ok (xs.reverse, noVw x)
end
end Pu

set_option Elab.async false
set_option linter.all false
set_option maxRecDepth 100000
set_option maxHeartbeats 1000000
/-! Pu4: what an expression's meaning says of the machine: the parts. -/
namespace Pu
open PySem PySem.Spec PyProof.Rows L2

/-! ### opening the top value -/
section
variable {G : Gb} {B Lk H H' : Hp} {F0 : Addr → Prop} {σ : L2.St} {ρ : List (Option D)} {tv tv' : List V} {td td' : List D} {p : Addr} {v : V} {d : D}
/-- the values on top turn into others; all else as it is -/
theorem Holds.ex (h : Holds G B F0 Lk σ ρ tv td H) {R : List V → Prop}
    (f : ∀ Fz f2, Owns G.K G.cl H Fz tv td f2 → ∃ tv', R tv' ∧ ∃ g, Sb g f2 ∧ Owns G.K G.cl H Fz tv' td' g) : ∃ tv', R tv' ∧ Holds G B F0 Lk σ ρ tv' td' H := by
  obtain ⟨⟨f1, f2, a, b, n, q⟩, kb, kl, tb⟩ := h
  obtain ⟨tv', r, g, s, o⟩ := f _ f2 b
  have sub : Sb (f1 ++ g) (f1 ++ f2) := (Sb.refl f1).app s
  have mono : ∀ a, H a ≠ none → Fzp B F0 (f1 ++ f2) a → Fzp B F0 (f1 ++ g) a := fun a _ z => ⟨z.1, fun m => z.2 (sub.mem a m)⟩
  exact ⟨tv', r, ⟨f1, g, a.keep (Keep.refl _) mono, o.keep (Keep.refl _) mono, sub.nodup n, fun p hp => q p (sub.mem p hp)⟩, kb, kl, tb⟩
theorem Holds.openL {f : Fl} {xs : List D} (h : Holds G B F0 Lk σ ρ (v :: tv) (.lst f xs :: td) H) : ∃ a vs, v = .ref a ∧ SqL G.K H a vs ∧ vs.length = xs.length ∧ Holds G B F0 Lk σ ρ (vs ++ tv) (xs ++ td) H := by
  obtain ⟨tv', ⟨a, vs, e1, e2, e3, rfl⟩, h'⟩ := h.ex (td' := xs ++ td) (R := fun tv' => ∃ a vs, v = .ref a ∧ SqL G.K H a vs ∧ vs.length = xs.length ∧ tv' = vs ++ tv) fun Fz f2 b => by
    cases b with
    | cons b1 b2 =>
      cases b1 with
      | lst n o => exact ⟨_, ⟨_, _, rfl, n.seq, o.length, rfl⟩, _, (Sb.right _ _).app (Sb.refl _), o.append b2⟩
  exact ⟨a, vs, e1, e2, e3, h'⟩
theorem Holds.openT {xs : List D} (h : Holds G B F0 Lk σ ρ (v :: tv) (.tup xs :: td) H) : ∃ a vs, v = .ref a ∧ SqT G.K H a vs ∧ vs.length = xs.length ∧ Holds G B F0 Lk σ ρ (vs ++ tv) (xs ++ td) H := by
  obtain ⟨tv', ⟨a, vs, e1, e2, e3, rfl⟩, h'⟩ := h.ex (td' := xs ++ td) (R := fun tv' => ∃ a vs, v = .ref a ∧ SqT G.K H a vs ∧ vs.length = xs.length ∧ tv' = vs ++ tv) fun Fz f2 b => by
    cases b with
    | cons b1 b2 =>
      cases b1 with
      | tup n o => exact ⟨_, ⟨_, _, rfl, n, o.length, rfl⟩, _, Sb.refl _, o.append b2⟩
  exact ⟨a, vs, e1, e2, e3, h'⟩
theorem Holds.openO {f : Fl} {c : Nat} {ns : List Str} {xs : List D} (h : Holds G B F0 Lk σ ρ (v :: tv) (.obj f c ns xs :: td) H) :
    ∃ a dx fvs, v = .ref a ∧ H a = some (.ins (G.cl c) dx fvs) ∧ ns = fvs.map (·.1) ∧ fvs.length = xs.length ∧ Holds G B F0 Lk σ ρ (fvs.map (·.2) ++ tv) (xs ++ td) H := by
  obtain ⟨tv', ⟨a, dx, fvs, e1, e2, e3, e4, rfl⟩, h'⟩ := h.ex (td' := xs ++ td) (R := fun tv' => ∃ a dx fvs, v = .ref a ∧ H a = some (.ins (G.cl c) dx fvs) ∧ ns = fvs.map (·.1) ∧ fvs.length = xs.length ∧ tv' = fvs.map (·.2) ++ tv) fun Fz f2 b => by
    cases b with
    | cons b1 b2 =>
      cases b1 with
      | obj n o =>
        obtain ⟨dx, fvs, q1, q2, q3⟩ := n.ins
        subst q3
        exact ⟨_, ⟨_, dx, fvs, rfl, q1, q2, by simpa using o.length, rfl⟩, _, (Sb.right _ _).app (Sb.refl _), o.append b2⟩
  exact ⟨a, dx, fvs, e1, e2, e3, e4, h'⟩
theorem Holds.pick {vs : List V} {xs : List D} {i : Nat} (h : Holds G B F0 Lk σ ρ (vs ++ tv) (xs ++ td) H) (e : vs.length = xs.length) (hx : xs[i]? = some d) : ∃ v, vs[i]? = some v ∧ Holds G B F0 Lk σ ρ (v :: tv) (d :: td) H := by
  obtain ⟨tv', ⟨v, e1, rfl⟩, h'⟩ := h.ex (td' := d :: td) (R := fun tv' => ∃ v, vs[i]? = some v ∧ tv' = v :: tv) fun Fz f2 b => by
    obtain ⟨g1, g2, q1, q2, rfl⟩ := b.split e
    obtain ⟨v, f, e1, o, s⟩ := q1.get hx
    exact ⟨_, ⟨v, e1, rfl⟩, f ++ g2, s.app (Sb.refl _), .cons o q2⟩
  exact ⟨v, e1, h'⟩
theorem Holds.cut {vs : List V} {xs : List D} (i k : Nat) (h : Holds G B F0 Lk σ ρ (vs ++ tv) (xs ++ td) H) (e : vs.length = xs.length) : Holds G B F0 Lk σ ρ ((vs.drop i).take k ++ tv) ((xs.drop i).take k ++ td) H :=
  h.re (Keep.refl _) h.tb fun Fz f2 b => by
    obtain ⟨g1, g2, q1, q2, rfl⟩ := b.split e
    obtain ⟨g3, o3, s3⟩ := q1.drop i
    obtain ⟨g4, o4, s4⟩ := o3.take k
    exact ⟨g4 ++ g2, (s4.trans s3).app (Sb.refl _), fun Fz' m _ => (o4.append q2).keep (Keep.refl _) m⟩
theorem Holds.revd {vs : List V} {xs : List D} (h : Holds G B F0 Lk σ ρ (vs ++ tv) (xs ++ td) H) (e : vs.length = xs.length) : Holds G B F0 Lk σ ρ (vs.reverse ++ tv) (xs.reverse ++ td) H :=
  h.re (Keep.refl _) h.tb fun Fz f2 b => by
    obtain ⟨g1, g2, q1, q2, rfl⟩ := b.split e
    obtain ⟨g3, o3, s3⟩ := q1.reverse
    exact ⟨g3 ++ g2, (Sb.of_perm s3).app (Sb.refl _), fun Fz' m _ => (o3.append q2).keep (Keep.refl _) m⟩
theorem Holds.asc {v1 v2 v3 : List V} {d1 d2 d3 : List D} (h : Holds G B F0 Lk σ ρ (v1 ++ (v2 ++ v3)) (d1 ++ (d2 ++ d3)) H) : Holds G B F0 Lk σ ρ ((v1 ++ v2) ++ v3) ((d1 ++ d2) ++ d3) H := by
  rw [List.append_assoc, List.append_assoc]; exact h
end
section
variable {K : PySem.W.Frag} {cl : Nat → Addr} {H : Hp} {Fz : Addr → Prop}
theorem Own.inv_non {v f} (h : Own K cl H Fz v .non f) : v = .non := by cases h; rfl
theorem Own.inv_int {v i f} (h : Own K cl H Fz v (.int i) f) : v = .int i := by cases h; rfl
theorem Own.inv_bl {v i f} (h : Own K cl H Fz v (.bl i) f) : v = .bl i := by cases h; rfl
theorem Own.inv_str {v i f} (h : Own K cl H Fz v (.str i) f) : v = .str i := by cases h; rfl
mutual
theorem Own.dp : ∀ {d : D} {v : V} {f : List Addr} {p : PyData}, Own K cl H Fz v d f → toP d = some p → Dp K H v p
  | .non, _, _, _, h, e => by cases h; simp only [toP, Option.some.injEq] at e; subst e; exact .non
  | .bl _, _, _, _, h, e => by cases h; simp only [toP, Option.some.injEq] at e; subst e; exact .bl _
  | .int _, _, _, _, h, e => by cases h; simp only [toP, Option.some.injEq] at e; subst e; exact .int _
  | .str _, _, _, _, h, e => by cases h; simp only [toP, Option.some.injEq] at e; subst e; exact .str _
  | .tup ds, _, _, _, h, e => by
    cases h with
    | tup a b =>
      simp only [toP] at e
      split at e
      · rename_i ps hp
        simp only [Option.some.injEq] at e
        subst e
        exact .tup a (Owns.dp b hp)
      · cases e
  | .lst f ds, _, _, _, h, e => by
    cases h with
    | lst a b =>
      simp only [toP] at e
      split at e
      · rename_i ps hp
        simp only [Option.some.injEq] at e
        subst e
        exact .lst a.seq (Owns.dp b hp)
      · cases e
  | .obj _ _ _ _, _, _, _, h, e => by simp [toP] at e
  | .dct _ _ _, _, _, _, h, e => by simp [toP] at e
theorem Owns.dp : ∀ {ds : List D} {vs : List V} {f : List Addr} {ps : List PyData}, Owns K cl H Fz vs ds f → toPs ds = some ps → DpAll K H vs ps
  | [], _, _, _, h, e => by cases h; simp only [toPs, Option.some.injEq] at e; subst e; exact .nil
  | d :: ds, _, _, _, h, e => by
    cases h with
    | cons a b =>
      simp only [toPs] at e
      split at e
      · rename_i p ps h1 h2
        simp only [Option.some.injEq] at e
        subst e
        exact .cons (Own.dp a h1) (Owns.dp b h2)
      · cases e
end
theorem plain_some {d : D} {p : PyData} (h : plain d = some p) : toP d = some p ∧ SeqAt.shaped p = true := by
  unfold plain at h
  split at h
  · rename_i q hq
    split at h
    · simp only [Option.some.injEq] at h
      subst h
      exact ⟨hq, by assumption⟩
    · cases h
  · cases h
end

/-! ### what is wished of an outcome -/
def Wish {α : Type} (o : Out α) (S : Exn → Prop) (R : α → Prop) : Prop := match o with
  | .ok a => R a
  | .exc x => S x
  | .bad => False
theorem Wish.mono {α : Type} {o : Out α} {S S' : Exn → Prop} {R R' : α → Prop} (h : Wish o S R) (hS : ∀ x, S x → S' x) (hR : ∀ a, o = .ok a → R a → R' a) : Wish o S' R' := by
  cases o with
  | ok a => exact hR a rfl h
  | exc x => exact hS x h
  | bad => exact h
theorem Wish.bind {α β : Type} {o : Out α} {f : α → Out β} {S : Exn → Prop} {R : β → Prop} (h : Wish (o.bind f) S R) : Wish o S fun a => Wish (f a) S R := by
  cases o with
  | ok a => exact h
  | exc x => exact h
  | bad => exact h
theorem Wish.chk {α : Type} {b : Bool} {o : Out α} {S : Exn → Prop} {R : α → Prop} (h : Wish (Out.chk b o) S R) : b = true ∧ Wish o S R := by
  unfold Out.chk at h
  split at h
  · exact ⟨by assumption, h⟩
  · exact h.elim
theorem Wish.ofo {α : Type} {o : Option α} {S : Exn → Prop} {R : α → Prop} (h : Wish (Out.ofo o) S R) : ∃ a, o = some a ∧ R a := by
  cases o with
  | some a => exact ⟨a, rfl, h⟩
  | none => exact h.elim
theorem Wish.ofob {α β : Type} {o : Option α} {f : α → Out β} {S : Exn → Prop} {R : β → Prop} (h : Wish ((Out.ofo o).bind f) S R) : ∃ a, o = some a ∧ Wish (f a) S R := by
  cases o with
  | some a => exact ⟨a, rfl, h⟩
  | none => exact h.elim
theorem Wish.calm {α : Type} {o : Out α} {S : Exn → Prop} {R : α → Prop} (h : Wish o.calm S R) : ∃ a, o = .ok a ∧ R a := by
  cases o with
  | ok a => exact ⟨a, rfl, h⟩
  | exc x => exact h.elim
  | bad => exact h.elim

/-- an exception as it lies -/
def ExR (G : Gb) (H : Hp) (x : Exn) (cls : Value) (dx : Option Addr) : Prop :=
  cls = .ref (G.ec x.c) ∧ ∃ fvs : List (Str × V), (fvs = [] → dx = none) ∧ (fvs ≠ [] → ∃ a, dx = some a ∧ H a = some (.xd fvs)) ∧ x.ns = fvs.map (·.1) ∧ ∀ Fz, Owns G.K G.cl H Fz (fvs.map (·.2)) x.xs []

/-- all that is fixed for a text -/
structure Cf where
  G : Gb
  P : Program
  w : World
  mg : Str → Option Value
  base : Heap
  Φ : Nat → List D → Out (D × List D)
  gv : Nat → D
  code : Option (Addr × Addr)
/-- the context of a def's body, or of a comprehension's block -/
structure CtxOk (C : Cf) (k : Nat) (N : List Str) (sc : Scope) (st : List Str) (X : Cx) (W : WX) : Prop where
  eP : X.prog = C.P
  eW : X.w = C.w
  eK : X.K = C.G.K
  eM : X.mg = C.mg
  eB : X.base = C.base
  eN : X.N = N
  nd : N.Nodup
  eS : X.env.scope = sc
  calm : X.calm = true
  room : Room k X.A
  gd : X.A.guards = some []
  takes : Takes X W
  hst : ∀ x ∈ st, L2.Loc sc x ∧ (X.fn x = true ∨ sc.names.lookup x = some NameKind.local)
  cod : ∀ c P, C.code = some (c, P) → X.env.code = .ref c ∧ GxR.TabB X.base X.mg c P ∧ P ∈ C.G.tabs

section
variable (C : Cf)
/-- an exception's way out of σ -/
def Off (W : WX) (σ : L2.St) (B : Hp) (F0 : Addr → Prop) (Lk : Hp) (ρ : List (Option D)) (tv : List V) (td : List D) (x : Exn) : Prop :=
  ∀ H', Holds C.G B F0 Lk σ ρ tv td H' → ∀ cls dx, ExR C.G H' x cls dx → W cls dx σ H'
def tE (e : Ex) (W : WX) : TE := fun σ H Q => ∃ B F0 Lk ρ tv td, Holds C.G B F0 Lk σ ρ tv td H ∧
  Wish (ev C.Φ C.gv e ρ) (Off C W σ B F0 Lk ρ tv td) fun d => ∀ v H', Holds C.G B F0 Lk σ ρ (v :: tv) (d :: td) H' → Q v H'
def tEs (es : List Ex) (W : WX) : TA := fun σ H Q => ∃ B F0 Lk ρ tv td, Holds C.G B F0 Lk σ ρ tv td H ∧
  Wish (evs C.Φ C.gv es ρ) (Off C W σ B F0 Lk ρ tv td) fun ds => ∀ vs H', vs.length = ds.length → Holds C.G B F0 Lk σ ρ (vs ++ tv) (ds ++ td) H' → Q vs H'
def tT (e : Ex) (W : WX) : TT := fun σ H Q => ∃ B F0 Lk ρ tv td, Holds C.G B F0 Lk σ ρ tv td H ∧
  Wish (((ev C.Φ C.gv e ρ).bind fun d => Out.ofo (truD d))) (Off C W σ B F0 Lk ρ tv td) fun b => ∀ H', Holds C.G B F0 Lk σ ρ tv td H' → Q b H'
end
section
variable {C : Cf} {W : WX} {σ : L2.St} {B Lk H H' : Hp} {F0 : Addr → Prop} {ρ : List (Option D)} {tv : List V} {td : List D} {v : V} {d : D} {x : Exn}
theorem Off.push (h : Off C W σ B F0 Lk ρ tv td x) : Off C W σ B F0 Lk ρ (v :: tv) (d :: td) x := fun H' hH => h H' hH.pop
theorem Off.pushn {vs : List V} {ds : List D} (e : vs.length = ds.length) (h : Off C W σ B F0 Lk ρ tv td x) : Off C W σ B F0 Lk ρ (vs ++ tv) (ds ++ td) x := fun H' hH => h H' (hH.popn e)
/-- one more step: the value of e comes, then what follows -/
theorem go1 {e : Ex} {α : Type} {f : D → Out α} {S : Exn → Prop} {R : α → Prop} {Q : VK} (h : Holds C.G B F0 Lk σ ρ tv td H) (hS : ∀ x, S x → Off C W σ B F0 Lk ρ tv td x) (w : Wish ((ev C.Φ C.gv e ρ).bind f) S R)
    (q : ∀ d v H', ev C.Φ C.gv e ρ = .ok d → Holds C.G B F0 Lk σ ρ (v :: tv) (d :: td) H' → Wish (f d) S R → Q v H') : tE C e W σ H Q :=
  ⟨B, F0, Lk, ρ, tv, td, h, w.bind.mono hS fun d hd hw v H' h' => q d v H' hd h' hw⟩
theorem gos {es : List Ex} {α : Type} {f : List D → Out α} {S : Exn → Prop} {R : α → Prop} {Q : List V → Hp → Prop} (h : Holds C.G B F0 Lk σ ρ tv td H) (hS : ∀ x, S x → Off C W σ B F0 Lk ρ tv td x) (w : Wish ((evs C.Φ C.gv es ρ).bind f) S R)
    (q : ∀ ds vs H', evs C.Φ C.gv es ρ = .ok ds → vs.length = ds.length → Holds C.G B F0 Lk σ ρ (vs ++ tv) (ds ++ td) H' → Wish (f ds) S R → Q vs H') : tEs C es W σ H Q :=
  ⟨B, F0, Lk, ρ, tv, td, h, w.bind.mono hS fun d hd hw v H' hl h' => q d v H' hd hl h' hw⟩
theorem goT {e : Ex} {α : Type} {f : Bool → Out α} {S : Exn → Prop} {R : α → Prop} {Q : Bool → Hp → Prop} (h : Holds C.G B F0 Lk σ ρ tv td H) (hS : ∀ x, S x → Off C W σ B F0 Lk ρ tv td x) (w : Wish ((((ev C.Φ C.gv e ρ).bind fun d => Out.ofo (truD d))).bind f) S R)
    (q : ∀ b H', ((ev C.Φ C.gv e ρ).bind fun d => Out.ofo (truD d)) = .ok b → Holds C.G B F0 Lk σ ρ tv td H' → Wish (f b) S R → Q b H') : tT C e W σ H Q :=
  ⟨B, F0, Lk, ρ, tv, td, h, w.bind.mono hS fun d hd hw H' h' => q d H' hd h' hw⟩
end
theorem Out.bind_assoc {α β γ : Type} (o : Out α) (f : α → Out β) (g : β → Out γ) : (o.bind f).bind g = o.bind fun a => (f a).bind g := by
  cases o <;> rfl
theorem PE.imp {X : Cx} {e : Expr} {t t' : TE} (h : PE X e t) (k : ∀ σ H Q, t' σ H Q → t σ H Q) : PE X e t' := ⟨fun pins s σ H Q I q => h.run pins s σ H Q I (k _ _ _ q)⟩
theorem PT.imp {X : Cx} {e : Expr} {t t' : TT} (h : PT X e t) (k : ∀ σ H Q, t' σ H Q → t σ H Q) : PT X e t' := ⟨fun pins s σ H Q I q => h.run pins s σ H Q I (k _ _ _ q)⟩
theorem PA.imp {X : Cx} {e : List Expr} {t t' : TA} (h : PA X e t) (k : ∀ σ H Q, t' σ H Q → t σ H Q) : PA X e t' := ⟨fun pos pins s σ H Q I q => h.run pos pins s σ H Q I (k _ _ _ q)⟩

/-- an expression's meaning is ie, in every such context -/
def SE (C : Cf) (k : Nat) (N : List Str) (sc : Scope) (st : List Str) (e : Expr) (ie : Ex) : Prop := ∀ X W, CtxOk C k N sc st X W → PE X e (tE C ie W)
def STt (C : Cf) (k : Nat) (N : List Str) (sc : Scope) (st : List Str) (e : Expr) (ie : Ex) : Prop := ∀ X W, CtxOk C k N sc st X W → PT X e (tT C ie W)
def SEs (C : Cf) (k : Nat) (N : List Str) (sc : Scope) (st : List Str) (e : List Expr) (ie : List Ex) : Prop := ∀ X W, CtxOk C k N sc st X W → PA X e (tEs C ie W)

section
variable {C : Cf} {k : Nat} {N : List Str} {sc : Scope} {st : List Str} {a b c e : Expr} {ia ib ic ie : Ex} {pos : Pos}
theorem s_non {j} : SE C k N sc st (.Constant .none j pos) .non := fun X W hX => PE.imp pe_non fun σ H Q ⟨B, F0, Lk, ρ, tv, td, h, w⟩ => w _ _ (h.push fun _ => .non)
theorem s_bl {b j} : SE C k N sc st (.Constant (.bool b) j pos) (.bl b) := fun X W hX => PE.imp pe_bl fun σ H Q ⟨B, F0, Lk, ρ, tv, td, h, w⟩ => w _ _ (h.push fun _ => .bl _)
theorem s_int {i j} : SE C k N sc st (.Constant (.int i) j pos) (.int i) := fun X W hX => PE.imp pe_int fun σ H Q ⟨B, F0, Lk, ρ, tv, td, h, w⟩ => w _ _ (h.push fun _ => .int _)
theorem s_str {x j} : SE C k N sc st (.Constant (.str x) j pos) (.str x) := fun X W hX => PE.imp pe_str fun σ H Q ⟨B, F0, Lk, ρ, tv, td, h, w⟩ => w _ _ (h.push fun _ => .str _)
theorem s_var {x : Str} {i : Nat} (hi : N[i]? = some x) (hv : Vis sc x) (h1 : (x == ("__debug__" : Str)) = false) (h2 : (x == ("__classdict__" : Str)) = false) : SE C k N sc st (.Name x pos) (.var i) := fun X W hX =>
  PE.imp (pe_var (i := i) (by rw [hX.eN]; exact hi) (by rw [hX.eS]; exact hv) h1 h2) fun σ H Q ⟨B, F0, Lk, ρ, tv, td, h, w⟩ => by
    simp only [ev] at w
    split at w
    · rename_i d e
      obtain ⟨v, e1, h'⟩ := h.var e
      exact ⟨v, e1, w v H h'⟩
    · exact w.elim
theorem s_gl {x : Str} {j : Nat} {v : V} {u : Value} (hg : sc.names.lookup x = some .globalImplicit) (hm : C.mg x = some u) (r : RelV v u) (ho : ∀ H Fz, Own C.G.K C.G.cl H Fz v (C.gv j) []) (h1 : (x == ("__debug__" : Str)) = false) : SE C k N sc st (.Name x pos) (.gl j) := fun X W hX =>
  PE.imp (pe_glob (v := v) (by unfold Gl Env.kindOf; rw [hX.eS]; exact hg) (by rw [hX.eM]; exact hm) r h1) fun σ H Q ⟨B, F0, Lk, ρ, tv, td, h, w⟩ => w _ _ (h.push fun Fz => ho _ _)

/-- two operands, then a rule -/
theorem bin2 {W : WX} {r : R2} {f : D → D → Out D} {o : Ex} {Q : VK} {σ : L2.St} {H : Hp} (he : ∀ ρ, ev C.Φ C.gv o ρ = (ev C.Φ C.gv ia ρ).bind fun x => (ev C.Φ C.gv ib ρ).bind fun y => f x y)
    (hr : ∀ B F0 Lk ρ tv td x y v u H' (S : Exn → Prop), Holds C.G B F0 Lk σ ρ (u :: v :: tv) (y :: x :: td) H' → Wish (f x y) S (fun d => ∀ v H', Holds C.G B F0 Lk σ ρ (v :: tv) (d :: td) H' → Q v H') → r v u H' Q)
    (h : tE C o W σ H Q) : tOp r (tE C ia W) (tE C ib W) σ H Q := by
  obtain ⟨B, F0, Lk, ρ, tv, td, h, w⟩ := h
  rw [he] at w
  exact go1 h (fun _ z => z) w fun x v H1 _ h1 w1 => go1 h1 (fun _ z => z.push) w1 fun y u H2 _ h2 w2 => hr B F0 Lk ρ tv td x y v u H2 _ h2 w2
end
end Pu

set_option Elab.async false
set_option linter.all false
set_option maxRecDepth 100000
set_option maxHeartbeats 1000000
/-! Pu5: simple expressions. -/
namespace Pu
open PySem PySem.Spec PyProof.Rows L2

/-! ### rules by values that the layer lacks -/
section
variable {X : Cx}
def rCatL (K : PySem.W.Frag) : R2 := fun x y H Q => ∃ a b xs ys, x = .ref a ∧ y = .ref b ∧ SqL K H a xs ∧ SqL K H b ys ∧ xs.length + ys.length ≤ sizeLine ∧ ∀ p, H p = none → Q (.ref p) (upd H p (.lst (xs ++ ys)))
theorem op_catL : OpR X (binaryOp .Add) (rCatL X.K) := by
  intro pins s σ H x y v u Q I rx ry h
  obtain ⟨a, b, xs, ys, rfl, rfl, hA, hB, hz, q⟩ := h
  cases rx
  cases ry
  obtain ⟨its, r, ⟨⟨c1, d1, t1, s1⟩, n, ho, hc, hdn, hd⟩, _⟩ := I.list hA
  obtain ⟨its2, r2, ⟨⟨c2, d2, t2, s2⟩, n2, ho2, hc2, hdn2, hd2⟩, _⟩ := I.list hB
  simp only at hc hd hc2 hd2
  subst hc hd hc2 hd2
  have l1 := r.length
  have l2 := r2.length
  refine concat_meets ⟨_, ho, rfl⟩ ⟨_, ho2, rfl⟩ noFill_list_add seq_list_add PySem.F.slot_list_add PySem.F.entry_list_add (PySem.F.args_list_add_2 _ _)
    (list_addW a b its.toArray its2.toArray n n2 d1 d2 s1 s2 (by simp only [List.size_toArray]; omega)) ⟨ho, ho2, ?_⟩
  have ea : its.toArray ++ its2.toArray = (its ++ its2).toArray := by simp
  rw [ea]
  exact ⟨.ref _, _, I.lnew (t' := s.toks) (r.append r2) (by rw [List.length_append]; omega), rfl, q _ I.fresh⟩
def rInT (K : PySem.W.Frag) : R2 := fun x y H Q => ∃ d ds, Dp K H x d ∧ Dp K H y (.tuple ds) ∧ SeqAt.shaped d = true ∧ SeqAt.shaped (.tuple ds) = true ∧ Q (.bl (ds.any fun z => PyData.eqv z d)) H
def rNiT (K : PySem.W.Frag) : R2 := fun x y H Q => ∃ d ds, Dp K H x d ∧ Dp K H y (.tuple ds) ∧ SeqAt.shaped d = true ∧ SeqAt.shaped (.tuple ds) = true ∧ Q (.bl (!ds.any fun z => PyData.eqv z d)) H
theorem op_inT (hu : X.A.units + 65 < cLine) : OpR X (compareOp .In) (rInT X.K) := by
  intro pins s σ H x y v u Q I rx ry ⟨d, ds, hd, he, sd, se, q⟩
  obtain ⟨as, r1⟩ := hd.reads I d x v rx
  obtain ⟨bs, r2⟩ := he.reads I (.tuple ds) y u ry
  exact SeqAt.in_tuple_reads r2 r1 (SeqAt.canLay_of_shaped se) (SeqAt.canLay_of_shaped sd) (room_in_shaped sd hu) ⟨.bl _, H, I, rfl, q⟩
theorem op_niT (hu : X.A.units + 65 < cLine) : OpR X (compareOp .NotIn) (rNiT X.K) := by
  intro pins s σ H x y v u Q I rx ry ⟨d, ds, hd, he, sd, se, q⟩
  obtain ⟨as, r1⟩ := hd.reads I d x v rx
  obtain ⟨bs, r2⟩ := he.reads I (.tuple ds) y u ry
  exact SeqAt.notIn_tuple_reads r2 r1 (SeqAt.canLay_of_shaped se) (SeqAt.canLay_of_shaped sd) (room_in_shaped sd hu) ⟨.bl _, H, I, rfl, q⟩
end
theorem Room.u65 {k : Nat} {A : Around} (r : Room k A) : A.units + 65 < cLine := by have := r.un; omega

/-! ### syntax -/
def nst : Expr → Bool
  | .Starred _ _ => false
  | _ => true
theorem star_cons {e : Expr} (h : nst e = true) (es : List Expr) (env : Env) : starEach (e :: es) env = (false, eval e env) :: starEach es env := by
  cases e <;> first | rfl | cases h
theorem star_any {pos : Pos} {env : Env} : ∀ {es : List Expr}, es.all nst = true → (backTo pos (starEach es env)).any (·.1) = false
  | [], _ => rfl
  | e :: es, h => by
    rw [List.all_cons, Bool.and_eq_true] at h
    rw [star_cons h.1]
    show (false || (backTo pos (starEach es env)).any (·.1)) = false
    rw [star_any h.2]; rfl
/-- the test of it is its value's truth -/
def tst : Expr → Bool
  | .UnaryOp .Not _ _ => false
  | .BoolOp _ _ _ => false
  | .IfExp _ _ _ _ => false
  | .Compare _ _ _ _ => false
  | _ => true
theorem tst_eq {e : Expr} (h : tst e = true) (env : Env) (whole : Sem Value) : isTrue e env whole = (do let v ← whole; standAt e.pos; holding [v] (truthy v)) := by
  cases e with
  | UnaryOp op a p => cases op <;> first | rfl | cases h
  | BoolOp _ _ _ => cases h
  | IfExp _ _ _ _ => cases h
  | Compare _ _ _ _ => cases h
  | _ => rfl
/-- a subscript's index, no slice -/
def nsl : Expr → Bool
  | .Slice _ _ _ _ => false
  | _ => true
theorem nsl_eq {e : Expr} (h : nsl e = true) : PlainIx e := by
  intro o i
  cases e <;> first | rfl | cases h

section
variable {C : Cf} {k : Nat} {N : List Str} {sc : Scope} {st : List Str} {a b c e : Expr} {ia ib ic ie : Ex} {pos : Pos}
theorem tru_of {B Lk H : Hp} {F0 : Addr → Prop} {σ : L2.St} {ρ : List (Option D)} {tv : List V} {td : List D} {v : V} {d : D} {t : Bool} (h : Holds C.G B F0 Lk σ ρ (v :: tv) (d :: td) H) (e : truD d = some t) : TruV C.G.K v H t := by
  obtain ⟨Fz, f, o⟩ := h.top
  cases d with
  | non => rw [o.inv_non]; simp only [truD, Option.some.injEq] at e; exact e.symm
  | bl i => rw [o.inv_bl]; simp only [truD, Option.some.injEq] at e; exact e.symm
  | int i => rw [o.inv_int]; simp only [truD, Option.some.injEq] at e; exact e.symm
  | str x =>
    rw [o.inv_str]
    simp only [truD] at e
    split at e
    · rename_i hz
      simp only [Option.some.injEq] at e
      exact ⟨of_decide_eq_true hz, e.symm⟩
    · cases e
  | lst f xs =>
    obtain ⟨a, vs, rfl, hs, hl, _⟩ := h.openL
    simp only [truD, Option.some.injEq] at e
    refine .inl ⟨vs, hs, ?_⟩
    rw [← e]
    cases xs <;> cases vs <;> first | rfl | cases hl
  | tup xs =>
    obtain ⟨a, vs, rfl, hs, hl, _⟩ := h.openT
    simp only [truD, Option.some.injEq] at e
    refine .inr (.inl ⟨vs, hs, ?_⟩)
    rw [← e]
    cases xs <;> cases vs <;> first | rfl | cases hl
  | obj _ _ _ _ => cases e
  | dct _ _ _ => cases e
theorem st_plain (h : SE C k N sc st e ie) (ht : tst e = true) : STt C k N sc st e ie := fun X W hX =>
  PT.imp (pt_truth (h X W hX) fun whole => tst_eq ht _ whole) fun σ H Q ⟨B, F0, Lk, ρ, tv, td, h, w⟩ =>
    go1 h (fun _ z => z) w fun d v H' _ h' w' => by
      obtain ⟨t, ht, w2⟩ := w'.ofo
      rw [hX.eK]
      exact ⟨t, tru_of h' ht, w2 H' h'.pop⟩
theorem st_not (h : STt C k N sc st a ia) : STt C k N sc st (.UnaryOp .Not a pos) (.not ia) := fun X W hX =>
  PT.imp (pt_not (h X W hX)) fun σ H Q ⟨B, F0, Lk, ρ, tv, td, h, w⟩ => by
    have w2 : Wish (((ev C.Φ C.gv ia ρ).bind fun d => Out.ofo (truD d)).bind fun b => Out.ok (!b)) (Off C W σ B F0 Lk ρ tv td) (fun b => ∀ H', Holds C.G B F0 Lk σ ρ tv td H' → Q b H') := by
      rw [Out.bind_assoc]
      simp only [ev, Out.bind_assoc] at w
      exact w
    exact goT h (fun _ z => z) w2 fun b H' _ h' w' => w' H' h'
theorem s_not (h : SE C k N sc st a ia) : SE C k N sc st (.UnaryOp .Not a pos) (.not ia) := fun X W hX =>
  PE.imp (pe_notT (h X W hX)) fun σ H Q ⟨B, F0, Lk, ρ, tv, td, h, w⟩ => by
    simp only [ev] at w
    refine go1 h (fun _ z => z) w fun d v H' _ h' w' => ?_
    obtain ⟨t, ht, w2⟩ := w'.ofob
    rw [hX.eK]
    exact ⟨t, tru_of h' ht, w2 _ _ (h'.pop.push fun _ => .bl _)⟩
theorem s_bool1 {op : BoolOp} (h : SE C k N sc st a ia) : SE C k N sc st (.BoolOp op [a] pos) ia := fun X W hX => pe_one (h X W hX)
theorem s_and {rest : List Expr} (ha : SE C k N sc st a ia) (hb : SE C k N sc st (.BoolOp .And (b :: rest) pos) ib) : SE C k N sc st (.BoolOp .And (a :: b :: rest) pos) (.and ia ib) := fun X W hX =>
  PE.imp (pe_andT (ha X W hX) (hb X W hX)) fun σ H Q ⟨B, F0, Lk, ρ, tv, td, h, w⟩ => by
    simp only [ev] at w
    refine go1 h (fun _ z => z) w fun d v H' _ h' w' => ?_
    obtain ⟨t, ht, w2⟩ := w'.ofob
    rw [hX.eK]
    refine ⟨t, tru_of h' ht, ?_⟩
    cases t with
    | true => exact ⟨B, F0, Lk, ρ, tv, td, h'.pop, w2⟩
    | false => exact w2 _ _ h'
theorem s_or {rest : List Expr} (ha : SE C k N sc st a ia) (hb : SE C k N sc st (.BoolOp .Or (b :: rest) pos) ib) : SE C k N sc st (.BoolOp .Or (a :: b :: rest) pos) (.or ia ib) := fun X W hX =>
  PE.imp (pe_orT (ha X W hX) (hb X W hX)) fun σ H Q ⟨B, F0, Lk, ρ, tv, td, h, w⟩ => by
    simp only [ev] at w
    refine go1 h (fun _ z => z) w fun d v H' _ h' w' => ?_
    obtain ⟨t, ht, w2⟩ := w'.ofob
    rw [hX.eK]
    refine ⟨t, tru_of h' ht, ?_⟩
    cases t with
    | false => exact ⟨B, F0, Lk, ρ, tv, td, h'.pop, w2⟩
    | true => exact w2 _ _ h'
/-- as tests: a whole that is no matter -/
def SW (C : Cf) (k : Nat) (N : List Str) (sc : Scope) (st : List Str) (e : Expr) (ie : Ex) : Prop := ∀ X W, CtxOk C k N sc st X W → PW X e (tT C ie W)
theorem PW.imp {X : Cx} {e : Expr} {t t' : TT} (h : PW X e t) (k : ∀ σ H Q, t' σ H Q → t σ H Q) : PW X e t' := ⟨fun wh pins s σ H Q I q => h.run wh pins s σ H Q I (k _ _ _ q)⟩
theorem sw_and1 (h : STt C k N sc st a ia) : SW C k N sc st (.BoolOp .And [a] pos) ia := fun X W hX => pw_and1 (h X W hX)
theorem sw_or1 (h : STt C k N sc st a ia) : SW C k N sc st (.BoolOp .Or [a] pos) ia := fun X W hX => pw_or1 (h X W hX)
theorem sw_and {rest : List Expr} (ha : STt C k N sc st a ia) (hb : SW C k N sc st (.BoolOp .And (b :: rest) pos) ib) : SW C k N sc st (.BoolOp .And (a :: b :: rest) pos) (.and ia ib) := fun X W hX =>
  PW.imp (pw_and (ha X W hX) (hb X W hX)) fun σ H Q ⟨B, F0, Lk, ρ, tv, td, h, w⟩ => by
    have w2 : Wish (((ev C.Φ C.gv ia ρ).bind fun d => Out.ofo (truD d)).bind fun t => if t = true then (ev C.Φ C.gv ib ρ).bind (fun d => Out.ofo (truD d)) else .ok false) (Off C W σ B F0 Lk ρ tv td) (fun b => ∀ H', Holds C.G B F0 Lk σ ρ tv td H' → Q b H') := by
      refine Eq.mp ?_ w
      simp only [ev, Out.bind_assoc]
      congr 2
      funext x
      cases hx : truD x with
      | some t => cases t with
        | true => rfl
        | false => simp only [Out.ofo_some, Out.bind_ok, Bool.false_eq_true, if_false, hx]
      | none => rfl
    refine goT h (fun _ z => z) w2 fun t H' _ h' w' => ?_
    cases t with
    | true => exact ⟨B, F0, Lk, ρ, tv, td, h', w'⟩
    | false => exact w' H' h'
theorem sw_or {rest : List Expr} (ha : STt C k N sc st a ia) (hb : SW C k N sc st (.BoolOp .Or (b :: rest) pos) ib) : SW C k N sc st (.BoolOp .Or (a :: b :: rest) pos) (.or ia ib) := fun X W hX =>
  PW.imp (pw_or (ha X W hX) (hb X W hX)) fun σ H Q ⟨B, F0, Lk, ρ, tv, td, h, w⟩ => by
    have w2 : Wish (((ev C.Φ C.gv ia ρ).bind fun d => Out.ofo (truD d)).bind fun t => if t = true then .ok true else (ev C.Φ C.gv ib ρ).bind (fun d => Out.ofo (truD d))) (Off C W σ B F0 Lk ρ tv td) (fun b => ∀ H', Holds C.G B F0 Lk σ ρ tv td H' → Q b H') := by
      refine Eq.mp ?_ w
      simp only [ev, Out.bind_assoc]
      congr 2
      funext x
      cases hx : truD x with
      | some t => cases t with
        | false => rfl
        | true => simp only [Out.ofo_some, Out.bind_ok, if_true, hx]
      | none => rfl
    refine goT h (fun _ z => z) w2 fun t H' _ h' w' => ?_
    cases t with
    | false => exact ⟨B, F0, Lk, ρ, tv, td, h', w'⟩
    | true => exact w' H' h'
theorem sw_pt (h : SW C k N sc st e ie) : STt C k N sc st e ie := fun X W hX => (h X W hX).pt
theorem s_ife (hc : STt C k N sc st c ic) (ha : SE C k N sc st a ia) (hb : SE C k N sc st b ib) : SE C k N sc st (.IfExp c a b pos) (.ife ic ia ib) := fun X W hX =>
  PE.imp (pe_ifExp (hc X W hX) (ha X W hX) (hb X W hX)) fun σ H Q ⟨B, F0, Lk, ρ, tv, td, h, w⟩ => by
    simp only [ev] at w
    rw [← Out.bind_assoc] at w
    refine goT h (fun _ z => z) w fun t H' _ h' w' => ?_
    cases t with
    | true => exact ⟨B, F0, Lk, ρ, tv, td, h', w'⟩
    | false => exact ⟨B, F0, Lk, ρ, tv, td, h', w'⟩

/-! ### operators -/
theorem s_bin {op : Operator} {o : Bop} {r : R2} (hr : ∀ X, X.K = C.G.K → OpR X (binaryOp op) r) (ha : SE C k N sc st a ia) (hb : SE C k N sc st b ib)
    (hf : ∀ B F0 Lk σ ρ tv td x y v u H' (S : Exn → Prop) (Q : VK), Holds C.G B F0 Lk σ ρ (u :: v :: tv) (y :: x :: td) H' → Wish (binD o x y) S (fun d => ∀ v H', Holds C.G B F0 Lk σ ρ (v :: tv) (d :: td) H' → Q v H') → r v u H' Q) : SE C k N sc st (.BinOp a op b pos) (.bin o ia ib) := fun X W hX =>
  PE.imp (pe_op (hr X hX.eK) (ha X W hX) (hb X W hX)) fun σ H Q h => bin2 (o := .bin o ia ib) (f := binD o) (fun ρ => by simp only [ev]) (fun B F0 Lk ρ tv td x y v u H' S h' w => hf B F0 Lk σ ρ tv td x y v u H' S Q h' w) h
/-- two ints on top -/
theorem two {B Lk H : Hp} {F0 : Addr → Prop} {σ : L2.St} {ρ : List (Option D)} {tv : List V} {td : List D} {v u : V} {x y : D} (h : Holds C.G B F0 Lk σ ρ (u :: v :: tv) (y :: x :: td) H) : (∃ Fz f, Own C.G.K C.G.cl H Fz v x f) ∧ ∃ Fz f, Own C.G.K C.G.cl H Fz u y f := ⟨h.pop.top, h.top⟩
theorem s_sub (ha : SE C k N sc st a ia) (hb : SE C k N sc st b ib) : SE C k N sc st (.BinOp a .Sub b pos) (.bin .sub ia ib) :=
  s_bin (fun X _ => op_sub) ha hb fun B F0 Lk σ ρ tv td x y v u H' S Q h w => by
    obtain ⟨⟨_, _, o1⟩, _, _, o2⟩ := two h
    cases x <;> cases y <;> first | exact w.elim | skip
    rw [o1.inv_int, o2.inv_int]
    exact ⟨_, _, rfl, rfl, w _ _ (h.pop.pop.push fun _ => .int _)⟩
theorem s_mul (ha : SE C k N sc st a ia) (hb : SE C k N sc st b ib) : SE C k N sc st (.BinOp a .Mult b pos) (.bin .mul ia ib) :=
  s_bin (fun X _ => op_mul) ha hb fun B F0 Lk σ ρ tv td x y v u H' S Q h w => by
    obtain ⟨⟨_, _, o1⟩, _, _, o2⟩ := two h
    cases x <;> cases y <;> first | exact w.elim | skip
    rw [o1.inv_int, o2.inv_int]
    obtain ⟨hc, w⟩ := Wish.chk w
    rw [Bool.or_eq_true, decide_eq_true_eq, decide_eq_true_eq] at hc
    exact ⟨_, _, rfl, rfl, hc, w _ _ (h.pop.pop.push fun _ => .int _)⟩
theorem s_fdiv (ha : SE C k N sc st a ia) (hb : SE C k N sc st b ib) : SE C k N sc st (.BinOp a .FloorDiv b pos) (.bin .fdiv ia ib) :=
  s_bin (fun X _ => op_fdiv) ha hb fun B F0 Lk σ ρ tv td x y v u H' S Q h w => by
    obtain ⟨⟨_, _, o1⟩, _, _, o2⟩ := two h
    cases x <;> cases y <;> first | exact w.elim | skip
    rw [o1.inv_int, o2.inv_int]
    obtain ⟨hc, w⟩ := Wish.chk w
    exact ⟨_, _, rfl, rfl, (by have z := of_decide_eq_true hc; exact z), w _ _ (h.pop.pop.push fun _ => .int _)⟩
theorem s_mod (ha : SE C k N sc st a ia) (hb : SE C k N sc st b ib) : SE C k N sc st (.BinOp a .Mod b pos) (.bin .mod ia ib) :=
  s_bin (fun X _ => op_mod) ha hb fun B F0 Lk σ ρ tv td x y v u H' S Q h w => by
    obtain ⟨⟨_, _, o1⟩, _, _, o2⟩ := two h
    cases x <;> cases y <;> first | exact w.elim | skip
    rw [o1.inv_int, o2.inv_int]
    obtain ⟨hc, w⟩ := Wish.chk w
    exact ⟨_, _, rfl, rfl, (by have z := of_decide_eq_true hc; exact z), w _ _ (h.pop.pop.push fun _ => .int _)⟩
theorem s_pow (ha : SE C k N sc st a ia) (hb : SE C k N sc st b ib) : SE C k N sc st (.BinOp a .Pow b pos) (.bin .pow ia ib) :=
  s_bin (fun X _ => op_pow) ha hb fun B F0 Lk σ ρ tv td x y v u H' S Q h w => by
    obtain ⟨⟨_, _, o1⟩, _, _, o2⟩ := two h
    cases x <;> cases y <;> first | exact w.elim | skip
    rw [o1.inv_int, o2.inv_int]
    obtain ⟨hc, w⟩ := Wish.chk w
    exact ⟨_, _, rfl, rfl, (by have z := of_decide_eq_true hc; exact z), w _ _ (h.pop.pop.push fun _ => .int _)⟩
theorem s_add (ha : SE C k N sc st a ia) (hb : SE C k N sc st b ib) : SE C k N sc st (.BinOp a .Add b pos) (.bin .add ia ib) :=
  s_bin (r := fun x y H Q => rI0 (fun i j => .int (i + j)) x y H Q ∨ (∃ i j, x = .str i ∧ y = .str j ∧ i.length + j.length ≤ sizeLine ∧ Q (.str (i ++ j)) H) ∨ rCatL C.G.K x y H Q ∨ rCatA C.G.K x y H Q)
    (fun X e => by rw [← e]; exact op_add.or (op_add_str.or (op_catL.or op_catA))) ha hb fun B F0 Lk σ ρ tv td x y v u H' S Q h w => by
    obtain ⟨⟨_, _, o1⟩, _, _, o2⟩ := two h
    cases x <;> cases y <;> first | exact w.elim | skip
    · rw [o1.inv_int, o2.inv_int]
      exact .inl ⟨_, _, rfl, rfl, w _ _ (h.pop.pop.push fun _ => .int _)⟩
    · rw [o1.inv_str, o2.inv_str]
      obtain ⟨hc, w⟩ := Wish.chk w
      exact .inr (.inl ⟨_, _, rfl, rfl, of_decide_eq_true hc, w _ _ (h.pop.pop.push fun _ => .str _)⟩)
    · rename_i xs ys
      obtain ⟨hc, w⟩ := Wish.chk w
      have hc := of_decide_eq_true hc
      obtain ⟨b, us, rfl, s2, l2, h2⟩ := h.openT
      obtain ⟨a, vs, rfl, s1, l1, h1⟩ := (h2.up l2).openT
      refine .inr (.inr (.inr ⟨a, b, vs, us, rfl, rfl, s1, s2, by omega, fun e => ?_, fun _ e => ?_, fun _ _ p hp => ?_⟩))
      · have e' : xs = [] := List.eq_nil_of_length_eq_zero (by rw [← l1, e]; rfl)
        subst e'
        rw [List.nil_append] at w
        refine w _ _ ?_
        have := h.up (vs := [V.ref b]) (ds := [D.tup ys]) rfl
        exact this.pop
      · have e' : ys = [] := List.eq_nil_of_length_eq_zero (by rw [← l2, e]; rfl)
        subst e'
        rw [List.append_nil] at w
        exact w _ _ h.pop
      · exact w _ _ (Holds.newTup (vs := vs ++ us) (ds := xs ++ ys) h1.asc (by rw [List.length_append, List.length_append, l1, l2]) hp)
    · rename_i f xs g ys
      obtain ⟨hc, w⟩ := Wish.chk w
      have hc := of_decide_eq_true hc
      obtain ⟨b, us, rfl, s2, l2, h2⟩ := h.openL
      obtain ⟨a, vs, rfl, s1, l1, h1⟩ := (h2.up l2).openL
      refine .inr (.inr (.inl ⟨a, b, vs, us, rfl, rfl, s1, s2, by omega, fun p hp => ?_⟩))
      exact w _ _ (Holds.newLst (vs := vs ++ us) (ds := xs ++ ys) h1.asc (by rw [List.length_append, List.length_append, l1, l2]) hp)
theorem s_neg (ha : SE C k N sc st a ia) : SE C k N sc st (.UnaryOp .USub a pos) (.neg ia) := fun X W hX =>
  PE.imp (pe_un un_neg (ha X W hX)) fun σ H Q ⟨B, F0, Lk, ρ, tv, td, h, w⟩ => by
    simp only [ev] at w
    refine go1 h (fun _ z => z) w fun d v H' _ h' w' => ?_
    obtain ⟨_, _, o1⟩ := h'.top
    cases d <;> first | exact w'.elim | skip
    rw [o1.inv_int]
    exact ⟨_, rfl, w' _ _ (h'.pop.push fun _ => .int _)⟩

/-! ### comparisons -/
theorem dp2 {B Lk H : Hp} {F0 : Addr → Prop} {σ : L2.St} {ρ : List (Option D)} {tv : List V} {td : List D} {v : V} {d : D} {p : PyData} (h : Holds C.G B F0 Lk σ ρ (v :: tv) (d :: td) H) (e : plain d = some p) : Dp C.G.K H v p ∧ SeqAt.shaped p = true := by
  obtain ⟨_, _, o⟩ := h.top
  obtain ⟨e1, e2⟩ := plain_some e
  exact ⟨o.dp e1, e2⟩
/-- a comparison's rule, as a value and as a test -/
structure CmpR (C : Cf) (k : Nat) (op : CmpOp) (o : Cop) where
  r : R2
  ok : ∀ (X : Cx), X.K = C.G.K → L2.Room k X.A → OpR X (compareOp op) r
  run : ∀ B F0 Lk σ ρ tv td x y v u H (t : Bool) (Q : VK), Holds C.G B F0 Lk σ ρ (u :: v :: tv) (y :: x :: td) H → cmpB o x y = some t → Q (.bl t) H → r v u H Q
theorem s_cmp {op : CmpOp} {o : Cop} (R : CmpR C k op o) (ha : SE C k N sc st a ia) (hb : SE C k N sc st b ib) (hm : behindInMarks op b = false) : SE C k N sc st (.Compare a [op] [b] pos) (.cmp o ia ib) := fun X W hX =>
  PE.imp (pe_cmpR (R.ok X hX.eK hX.room) (ha X W hX) (hb X W hX) hm) fun σ H Q h => bin2 (o := .cmp o ia ib) (f := fun x y => (Out.ofo (cmpB o x y)).bind fun t => .ok (.bl t)) (fun ρ => by simp only [ev]) (fun B F0 Lk ρ tv td x y v u H' S h' w => by
    obtain ⟨t, ht, w2⟩ := w.ofob
    exact R.run B F0 Lk σ ρ tv td x y v u H' t Q h' ht (w2 _ _ (h'.pop.pop.push fun _ => .bl _))) h
theorem st_cmp {op : CmpOp} {o : Cop} (R : CmpR C k op o) (ha : SE C k N sc st a ia) (hb : SE C k N sc st b ib) (hm : behindInMarks op b = false) : STt C k N sc st (.Compare a [op] [b] pos) (.cmp o ia ib) := fun X W hX =>
  PT.imp (pt_cmpR (R.ok X hX.eK hX.room) (ha X W hX) (hb X W hX) hm) fun σ H Q ⟨B, F0, Lk, ρ, tv, td, h, w⟩ => by
    simp only [ev, Out.bind_assoc, Out.bind_ok, truD, Out.ofo_some] at w
    refine go1 h (fun _ z => z) w fun x v H1 _ h1 w1 => go1 h1 (fun _ z => z.push) w1 fun y u H2 _ h2 w2 => ?_
    obtain ⟨t, ht, w3⟩ := w2.ofob
    exact R.run B F0 Lk σ ρ tv td x y v u H2 t _ h2 ht ⟨t, rfl, w3 _ h2.pop.pop⟩
theorem s_chn {op op' : CmpOp} {o o' : Cop} (R : CmpR C k op o) (R' : CmpR C k op' o') (ha : SE C k N sc st a ia) (hb : SE C k N sc st b ib) (hc : SE C k N sc st c ic) (hm : lastMarks [op, op'] [b, c] = false) :
    SE C k N sc st (.Compare a [op, op'] [b, c] pos) (.chn o o' ia ib ic) := fun X W hX =>
  PE.imp (pe_chain (R.ok X hX.eK hX.room) (R'.ok X hX.eK hX.room) (ha X W hX) (hb X W hX) (hc X W hX) hm) fun σ H Q ⟨B, F0, Lk, ρ, tv, td, h, w⟩ => by
    simp only [ev] at w
    refine go1 h (fun _ z => z) w fun x v H1 _ h1 w1 => go1 h1 (fun _ z => z.push) w1 fun y u H2 _ h2 w2 => ?_
    obtain ⟨t, ht, w3⟩ := w2.ofob
    refine R.run B F0 Lk σ ρ tv td x y v u H2 t _ h2 ht ⟨t, rfl, ?_⟩
    cases t with
    | false => exact iteF (w3 _ _ (h2.pop.pop.push fun _ => .bl _))
    | true =>
      refine iteT ?_
      exact go1 h2 (fun _ z => z.push.push) w3 fun z w' H3 _ h3 w4 => by
        obtain ⟨t, ht, w5⟩ := w4.ofob
        refine R'.run B F0 Lk σ ρ (v :: tv) (x :: td) y z u w' H3 t _ h3 ht (w5 _ _ (h3.pop.pop.pop.push fun _ => .bl _))
theorem st_chn {op op' : CmpOp} {o o' : Cop} (R : CmpR C k op o) (R' : CmpR C k op' o') (ha : SE C k N sc st a ia) (hb : SE C k N sc st b ib) (hc : SE C k N sc st c ic) (hm : lastMarks [op, op'] [b, c] = false) :
    STt C k N sc st (.Compare a [op, op'] [b, c] pos) (.chn o o' ia ib ic) := fun X W hX =>
  PT.imp (pt_chain (R.ok X hX.eK hX.room) (R'.ok X hX.eK hX.room) (ha X W hX) (hb X W hX) (hc X W hX) hm) fun σ H Q ⟨B, F0, Lk, ρ, tv, td, h, w⟩ => by
    simp only [ev, Out.bind_assoc] at w
    refine go1 h (fun _ z => z) w fun x v H1 _ h1 w1 => go1 h1 (fun _ z => z.push) w1 fun y u H2 _ h2 w2 => ?_
    obtain ⟨t, ht, w3⟩ := w2.ofob
    refine R.run B F0 Lk σ ρ tv td x y v u H2 t _ h2 ht ⟨t, rfl, ?_⟩
    cases t with
    | false => exact iteF ⟨false, rfl, w3 _ h2.pop.pop⟩
    | true =>
      refine iteT ?_
      simp only [if_true, Out.bind_assoc, Out.bind_ok, truD, Out.ofo_some] at w3
      exact go1 h2 (fun _ z => z.push.push) w3 fun z w' H3 _ h3 w4 => by
        obtain ⟨t, ht, w5⟩ := w4.ofob
        exact R'.run B F0 Lk σ ρ (v :: tv) (x :: td) y z u w' H3 t _ h3 ht ⟨t, rfl, w5 _ h3.pop.pop.pop⟩
def R_eq : CmpR C k .Eq .eq where
  r := rEqD C.G.K
  ok := fun X e hr => by rw [← e]; exact op_eqD hr.units
  run := fun B F0 Lk σ ρ tv td x y v u H t Q h w q => by
    simp only [cmpB] at w
    split at w
    · rename_i p p' hp hq
      obtain ⟨d2, s2⟩ := dp2 h hq
      obtain ⟨d1, s1⟩ := dp2 h.pop hp
      simp only [Option.some.injEq] at w
      exact ⟨p, p', d1, d2, s1, s2, by subst w; exact q⟩
    · cases w
def R_ne : CmpR C k .NotEq .ne where
  r := rNeD C.G.K
  ok := fun X e hr => by rw [← e]; exact op_neD hr.units
  run := fun B F0 Lk σ ρ tv td x y v u H t Q h w q => by
    simp only [cmpB] at w
    split at w
    · rename_i p p' hp hq
      obtain ⟨d2, s2⟩ := dp2 h hq
      obtain ⟨d1, s1⟩ := dp2 h.pop hp
      simp only [Option.some.injEq] at w
      exact ⟨p, p', d1, d2, s1, s2, by subst w; exact q⟩
    · cases w
def R_lt : CmpR C k .Lt .lt where
  r := rI0 fun i j => .bl (decide (i < j))
  ok := fun X e hr => op_lt
  run := fun B F0 Lk σ ρ tv td x y v u H t Q h w q => by
    obtain ⟨⟨_, _, o1⟩, _, _, o2⟩ := two h
    cases x <;> cases y <;> first | (cases w; done) | skip
    rw [o1.inv_int, o2.inv_int]
    simp only [cmpB, Option.some.injEq] at w
    exact ⟨_, _, rfl, rfl, by subst w; exact q⟩
def R_le : CmpR C k .LtE .le where
  r := rI0 fun i j => .bl (decide (i ≤ j))
  ok := fun X e hr => op_le
  run := fun B F0 Lk σ ρ tv td x y v u H t Q h w q => by
    obtain ⟨⟨_, _, o1⟩, _, _, o2⟩ := two h
    cases x <;> cases y <;> first | (cases w; done) | skip
    rw [o1.inv_int, o2.inv_int]
    simp only [cmpB, Option.some.injEq] at w
    exact ⟨_, _, rfl, rfl, by subst w; exact q⟩
def R_gt : CmpR C k .Gt .gt where
  r := rI0 fun i j => .bl (decide (j < i))
  ok := fun X e hr => op_gt
  run := fun B F0 Lk σ ρ tv td x y v u H t Q h w q => by
    obtain ⟨⟨_, _, o1⟩, _, _, o2⟩ := two h
    cases x <;> cases y <;> first | (cases w; done) | skip
    rw [o1.inv_int, o2.inv_int]
    simp only [cmpB, Option.some.injEq] at w
    exact ⟨_, _, rfl, rfl, by subst w; exact q⟩
def R_ge : CmpR C k .GtE .ge where
  r := rI0 fun i j => .bl (decide (j ≤ i))
  ok := fun X e hr => op_ge
  run := fun B F0 Lk σ ρ tv td x y v u H t Q h w q => by
    obtain ⟨⟨_, _, o1⟩, _, _, o2⟩ := two h
    cases x <;> cases y <;> first | (cases w; done) | skip
    rw [o1.inv_int, o2.inv_int]
    simp only [cmpB, Option.some.injEq] at w
    exact ⟨_, _, rfl, rfl, by subst w; exact q⟩
theorem str_one {x : Str} {c : Nat} (h : x.cps.toList = [c]) : x = ⟨#[c]⟩ := by
  obtain ⟨z⟩ := x
  have e : z = #[c] := by
    have := congrArg List.toArray h
    simpa using this
  rw [e]
def rInAll (K : PySem.W.Frag) : R2 := fun x y H Q => (∃ (c : Nat) (z : Str), x = .str ⟨#[c]⟩ ∧ y = .str z ∧ Q (.bl (decide (c ∈ z.cps.toList))) H) ∨ rInD K x y H Q ∨ rInT K x y H Q
def rNiAll (K : PySem.W.Frag) : R2 := fun x y H Q => (∃ (c : Nat) (z : Str), x = .str ⟨#[c]⟩ ∧ y = .str z ∧ Q (.bl (!decide (c ∈ z.cps.toList))) H) ∨ rNotInD K x y H Q ∨ rNiT K x y H Q
theorem toP_lst {f : Fl} {ys : List D} {p : PyData} (h : toP (.lst f ys) = some p) : ∃ qs, p = .list qs := by
  simp only [toP] at h
  split at h
  · simp only [Option.some.injEq] at h; exact ⟨_, h.symm⟩
  · cases h
def R_in : CmpR C k .In .isIn where
  r := rInAll C.G.K
  ok := fun X e hr => by rw [← e]; exact op_in_sign.or ((op_inD (Pu.Room.u65 hr)).or (op_inT (Pu.Room.u65 hr)))
  run := fun B F0 Lk σ ρ tv td x y v u H t Q h w q => by
    cases y with
    | str z =>
      cases x <;> first | (cases w; done) | skip
      rename_i x
      simp only [cmpB] at w
      split at w
      · rename_i c hc
        obtain ⟨⟨_, _, o1⟩, _, _, o2⟩ := two h
        rw [o1.inv_str, o2.inv_str, str_one hc]
        simp only [Option.some.injEq] at w
        exact .inl ⟨c, z, rfl, rfl, by subst w; exact q⟩
      · cases w
    | lst f ys =>
      have w : (match plain x, plain (.lst f ys) with
        | some p, some (.list qs) => some (qs.any fun z => PyData.eqv z p)
        | _, _ => none) = some t := by
        cases x <;> exact w
      split at w
      · rename_i p qs hp hq
        obtain ⟨d2, s2⟩ := dp2 h hq
        obtain ⟨d1, s1⟩ := dp2 h.pop hp
        simp only [Option.some.injEq] at w
        exact .inr (.inl ⟨p, qs, d1, d2, s1, s2, by subst w; exact q⟩)
      · cases w
    | tup ys =>
      have w : (match plain x, plain (.tup ys) with
        | some p, some (.tuple qs) => some (qs.any fun z => PyData.eqv z p)
        | _, _ => none) = some t := by
        cases x <;> exact w
      split at w
      · rename_i p qs hp hq
        obtain ⟨d2, s2⟩ := dp2 h hq
        obtain ⟨d1, s1⟩ := dp2 h.pop hp
        simp only [Option.some.injEq] at w
        exact .inr (.inr ⟨p, qs, d1, d2, s1, s2, by subst w; exact q⟩)
      · cases w
    | _ => cases x <;> cases w
def R_ni : CmpR C k .NotIn .notIn where
  r := rNiAll C.G.K
  ok := fun X e hr => by rw [← e]; exact op_notIn_sign.or ((op_notInD (Pu.Room.u65 hr)).or (op_niT (Pu.Room.u65 hr)))
  run := fun B F0 Lk σ ρ tv td x y v u H t Q h w q => by
    cases y with
    | str z =>
      cases x <;> first | (cases w; done) | skip
      rename_i x
      simp only [cmpB] at w
      split at w
      · rename_i c hc
        obtain ⟨⟨_, _, o1⟩, _, _, o2⟩ := two h
        rw [o1.inv_str, o2.inv_str, str_one hc]
        simp only [Option.some.injEq] at w
        exact .inl ⟨c, z, rfl, rfl, by subst w; exact q⟩
      · cases w
    | lst f ys =>
      have w : (match plain x, plain (.lst f ys) with
        | some p, some (.list qs) => some (!(qs.any fun z => PyData.eqv z p))
        | _, _ => none) = some t := by
        cases x <;> exact w
      split at w
      · rename_i p qs hp hq
        obtain ⟨d2, s2⟩ := dp2 h hq
        obtain ⟨d1, s1⟩ := dp2 h.pop hp
        simp only [Option.some.injEq] at w
        exact .inr (.inl ⟨p, qs, d1, d2, s1, s2, by subst w; exact q⟩)
      · cases w
    | tup ys =>
      have w : (match plain x, plain (.tup ys) with
        | some p, some (.tuple qs) => some (!(qs.any fun z => PyData.eqv z p))
        | _, _ => none) = some t := by
        cases x <;> exact w
      split at w
      · rename_i p qs hp hq
        obtain ⟨d2, s2⟩ := dp2 h hq
        obtain ⟨d1, s1⟩ := dp2 h.pop hp
        simp only [Option.some.injEq] at w
        exact .inr (.inr ⟨p, qs, d1, d2, s1, s2, by subst w; exact q⟩)
      · cases w
    | _ => cases x <;> cases w
theorem own_non {K : PySem.W.Frag} {cl : Nat → Addr} {H : Hp} {Fz : Addr → Prop} {v : V} {d : D} {f : List Addr} (o : Own K cl H Fz v d f) : decide (v = .non) = isNonD d := by
  cases o <;> rfl
def R_isN : CmpR C k .Is .isNon where
  r := fun x y H Q => y = .non ∧ Q (.bl (decide (x = .non))) H
  ok := fun X e hr => op_isN
  run := fun B F0 Lk σ ρ tv td x y v u H t Q h w q => by
    obtain ⟨⟨_, _, o1⟩, _, _, o2⟩ := two h
    cases y <;> first | (cases x <;> cases w; done) | skip
    rw [o2.inv_non, own_non o1]
    have w : some (isNonD x) = some t := by cases x <;> exact w
    simp only [Option.some.injEq] at w
    exact ⟨rfl, by subst w; exact q⟩
def R_noN : CmpR C k .IsNot .notNon where
  r := fun x y H Q => y = .non ∧ Q (.bl (!decide (x = .non))) H
  ok := fun X e hr => op_notN
  run := fun B F0 Lk σ ρ tv td x y v u H t Q h w q => by
    obtain ⟨⟨_, _, o1⟩, _, _, o2⟩ := two h
    cases y <;> first | (cases x <;> cases w; done) | skip
    rw [o2.inv_non, own_non o1]
    have w : some (!isNonD x) = some t := by cases x <;> exact w
    simp only [Option.some.injEq] at w
    exact ⟨rfl, by subst w; exact q⟩
end
end Pu

set_option Elab.async false
set_option linter.all false
set_option maxRecDepth 100000
set_option maxHeartbeats 1000000
/-! Pu6: displays, places, slices, built-ins, fields. -/
namespace Pu
open PySem PySem.Spec PyProof.Rows L2
section
variable {C : Cf} {k : Nat} {N : List Str} {sc : Scope} {st : List Str} {a b c e : Expr} {es : List Expr} {ia ib ic ie : Ex} {ies : List Ex} {pos : Pos}

/-! ### argument lists -/
theorem ss_nil : SEs C k N sc st [] [] := fun X W hX => PA.imp pa_nil fun σ H Q ⟨B, F0, Lk, ρ, tv, td, h, w⟩ => w [] H rfl h
theorem ss_cons (hn : nst e = true) (h1 : SE C k N sc st e ie) (h2 : SEs C k N sc st es ies) : SEs C k N sc st (e :: es) (ie :: ies) := fun X W hX =>
  PA.imp (pa_cons (h1 X W hX) (h2 X W hX) (star_cons hn es X.env)) fun σ H Q ⟨B, F0, Lk, ρ, tv, td, h, w⟩ => by
    simp only [evs] at w
    refine go1 h (fun _ z => z) w fun x v H1 _ h1 w1 => gos h1 (fun _ z => z.push) w1 fun ds vs H2 _ hl h2 w2 => ?_
    refine w2 (v :: vs) H2 (by rw [List.length_cons, List.length_cons, hl]) ?_
    exact h2.up hl
theorem s_tup {x1} (h : SEs C k N sc st es ies) : SE C k N sc st (.Tuple es x1 pos) (.tup ies) := fun X W hX =>
  PE.imp (pe_tup (h X W hX)) fun σ H Q ⟨B, F0, Lk, ρ, tv, td, h, w⟩ => by
    simp only [ev] at w
    refine gos h (fun _ z => z) w fun ds vs H1 _ hl h1 w1 => ?_
    obtain ⟨hz, w2⟩ := w1.chk
    exact ⟨by rw [hl]; exact of_decide_eq_true hz, fun p hp => w2 _ _ (h1.newTup hl hp)⟩
theorem s_lst (h : SEs C k N sc st es ies) : SE C k N sc st (.List es pos) (.lst ies) := fun X W hX =>
  PE.imp (pe_lst (h X W hX)) fun σ H Q ⟨B, F0, Lk, ρ, tv, td, h, w⟩ => by
    simp only [ev] at w
    refine gos h (fun _ z => z) w fun ds vs H1 _ hl h1 w1 => ?_
    obtain ⟨hz, w2⟩ := w1.chk
    exact ⟨by rw [hl]; exact of_decide_eq_true hz, fun p hp => w2 _ _ (h1.newLst hl hp)⟩

/-! ### places and slices -/
theorem atI_at {α β : Type} {xs : List α} {ys : List β} {i : Int} {d : α} (e : ys.length = xs.length) (h : atI xs i = some d) : ∃ j : Nat, xs[j]? = some d ∧ ∀ v, ys[j]? = some v → atI ys i = some v := by
  unfold atI at h
  cases q : ixN xs.length i with
  | none => rw [q] at h; cases h
  | some j =>
    rw [q] at h
    refine ⟨j, h, fun v hv => ?_⟩
    unfold atI
    rw [e, q]
    exact hv
theorem s_idx (hn : nsl b = true) (ha : SE C k N sc st a ia) (hb : SE C k N sc st b ib) : SE C k N sc st (.Subscript a b pos) (.idx ia ib) := fun X W hX =>
  PE.imp (pe_ix (r := rIx C.G.K) (by rw [← hX.eK]; exact ix_seq) (ha X W hX) (hb X W hX) (nsl_eq hn)) fun σ H Q h => bin2 (o := .idx ia ib) (f := idxD) (fun ρ => by simp only [ev]) (fun B F0 Lk ρ tv td x y v u H' S h' w => by
    obtain ⟨⟨_, _, o1⟩, _, _, o2⟩ := two h'
    cases x <;> cases y <;> first | exact w.elim | skip
    · rename_i z i
      rw [o1.inv_str, o2.inv_int]
      obtain ⟨hz, w2⟩ := Wish.chk w
      cases q : atI z.cps.toList i with
      | none => rw [q] at w2; exact w2.elim
      | some c =>
        rw [q] at w2
        exact .inr (.inr ⟨z, i, c, rfl, rfl, of_decide_eq_true hz, q, w2 _ _ (h'.pop.pop.push fun _ => .str _)⟩)
    · rename_i xs i
      rw [o2.inv_int]
      obtain ⟨p, vs, rfl, hs, hl, h2⟩ := h'.pop.openT
      simp only [idxD] at w
      cases q : atI xs i with
      | none => rw [q] at w; exact w.elim
      | some d =>
        rw [q] at w
        obtain ⟨j, hj, hv⟩ := atI_at hl q
        obtain ⟨v1, e1, h3⟩ := h2.pick hl hj
        exact .inr (.inl ⟨p, vs, i, v1, rfl, rfl, hs, hv v1 e1, w _ _ h3⟩)
    · rename_i f xs i
      rw [o2.inv_int]
      obtain ⟨p, vs, rfl, hs, hl, h2⟩ := h'.pop.openL
      simp only [idxD] at w
      cases q : atI xs i with
      | none => rw [q] at w; exact w.elim
      | some d =>
        rw [q] at w
        obtain ⟨j, hj, hv⟩ := atI_at hl q
        obtain ⟨v1, e1, h3⟩ := h2.pick hl hj
        exact .inl ⟨p, vs, i, v1, rfl, rfl, hs, hv v1 e1, w _ _ h3⟩) h
/-- an optional part -/
def tO (C : Cf) (os : List Ex) (W : WX) : TO := fun σ H Q => ∃ B F0 Lk ρ tv td, Holds C.G B F0 Lk σ ρ tv td H ∧
  Wish ((evs C.Φ C.gv os ρ).bind optI) (Off C W σ B F0 Lk ρ tv td) fun o => ∀ H', Holds C.G B F0 Lk σ ρ tv td H' → Q o H'
def SO (C : Cf) (k : Nat) (N : List Str) (sc : Scope) (st : List Str) (e : Option Expr) (os : List Ex) : Prop := ∀ X W, CtxOk C k N sc st X W → PO X e (tO C os W)
theorem PO.imp {X : Cx} {e : Option Expr} {t t' : TO} (h : PO X e t) (k : ∀ σ H Q, t' σ H Q → t σ H Q) : PO X e t' := ⟨fun pins s σ H Q I q => h.run pins s σ H Q I (k _ _ _ q)⟩
theorem so_none : SO C k N sc st none [] := fun X W hX => PO.imp po_none fun σ H Q ⟨B, F0, Lk, ρ, tv, td, h, w⟩ => w H h
theorem so_some (h : SE C k N sc st e ie) : SO C k N sc st (some e) [ie] := fun X W hX => PO.imp (po_some (h X W hX)) fun σ H Q ⟨B, F0, Lk, ρ, tv, td, h, w⟩ => by
  have w2 : Wish ((ev C.Φ C.gv ie ρ).bind fun x => optI [x]) (Off C W σ B F0 Lk ρ tv td) fun o => ∀ H', Holds C.G B F0 Lk σ ρ tv td H' → Q o H' := by
    simp only [evs, Out.bind_assoc, Out.bind_ok] at w
    exact w
  refine go1 h (fun _ z => z) w2 fun x v H1 _ h1 w1 => ?_
  obtain ⟨_, _, o1⟩ := h1.top
  cases x <;> first | exact w1.elim | skip
  rw [o1.inv_int]
  exact ⟨_, rfl, w1 _ h1.pop⟩
theorem goO {os : List Ex} {α : Type} {B Lk H : Hp} {F0 : Addr → Prop} {σ : L2.St} {ρ : List (Option D)} {tv : List V} {td : List D} {W : WX} {f : Option Int → Out α} {S : Exn → Prop} {R : α → Prop} {Q : Option Int → Hp → Prop} (h : Holds C.G B F0 Lk σ ρ tv td H) (hS : ∀ x, S x → Off C W σ B F0 Lk ρ tv td x)
    (w : Wish (((evs C.Φ C.gv os ρ).bind optI).bind f) S R) (q : ∀ o H', Holds C.G B F0 Lk σ ρ tv td H' → Wish (f o) S R → Q o H') : tO C os W σ H Q :=
  ⟨B, F0, Lk, ρ, tv, td, h, w.bind.mono hS fun d hd hw H' h' => q d H' h' hw⟩
theorem cutV_len {vs : List V} {xs : List D} (e : vs.length = xs.length) (lo hi : Option Int) : cutV vs lo hi = (vs.drop (HT.sIx xs.length 0 lo)).take (HT.sIx xs.length xs.length hi - HT.sIx xs.length 0 lo) := by
  unfold cutV; rw [e]
theorem sIx_all {α : Type} {xs : List α} {lo hi : Option Int} (h : HT.sIx xs.length 0 lo = 0 ∧ HT.sIx xs.length xs.length hi = xs.length) : cutD xs lo hi = xs := by
  unfold cutD
  rw [h.1, h.2, List.drop_zero, Nat.sub_zero, List.take_length]
theorem s_slc {lo hi : Option Expr} {ilo ihi : List Ex} {p2 : Pos} (ha : SE C k N sc st a ia) (hl : SO C k N sc st lo ilo) (hh : SO C k N sc st hi ihi) : SE C k N sc st (.Subscript a (.Slice lo hi none p2) pos) (.slc ia ilo ihi) := fun X W hX =>
  PE.imp (pe_slice (r := fun x lo hi H Q => rSlL C.G.K x lo hi H Q ∨ rSlA C.G.K x lo hi H Q ∨ rSlS x lo hi H Q) (by rw [← hX.eK]; exact sl_list.or (sl_tupA.or sl_str)) (ha X W hX) (hl X W hX) (hh X W hX)) fun σ H Q ⟨B, F0, Lk, ρ, tv, td, h, w⟩ => by
    simp only [ev] at w
    refine go1 h (fun _ z => z) w fun x v H1 hx h1 w1 => goO h1 (fun _ z => z.push) w1 fun l H2 h2 w2 => goO h2 (fun _ z => z.push) w2 fun u H3 h3 w3 => ?_
    clear hx
    obtain ⟨_, _, o1⟩ := h3.top
    cases x <;> first | exact w3.elim | skip
    · rename_i z
      rw [o1.inv_str]
      obtain ⟨hz, w4⟩ := Wish.chk w3
      exact .inr (.inr ⟨z, rfl, of_decide_eq_true hz, w4 _ _ (h3.pop.push fun _ => .str _)⟩)
    · rename_i xs
      have h3' := h3
      obtain ⟨p, vs, rfl, hs, hl, h4⟩ := h3.openT
      refine .inr (.inl ⟨p, vs, rfl, hs, fun q => ?_, fun q r hr => ?_⟩)
      · rw [hl] at q
        have w3 : ∀ v H', Holds C.G B F0 Lk σ ρ (v :: tv) (D.tup (cutD xs l u) :: td) H' → Q v H' := w3
        rw [sIx_all q] at w3
        exact w3 _ _ h3'
      · rw [cutV_len hl]
        exact w3 _ _ ((h4.cut _ _ hl).newTup (by rw [List.length_take, List.length_take, List.length_drop, List.length_drop, hl]) hr)
    · rename_i f xs
      obtain ⟨p, vs, rfl, hs, hl, h4⟩ := h3.openL
      refine .inl ⟨p, vs, rfl, hs, fun r hr => ?_⟩
      rw [cutV_len hl]
      exact w3 _ _ ((h4.cut _ _ hl).newLst (by rw [List.length_take, List.length_take, List.length_drop, List.length_drop, hl]) hr)
theorem s_rev {kk : Nat} {p1 p2 p3 : Pos} (ha : SE C k N sc st a ia) : SE C k N sc st (.Subscript a (.Slice none none (some (.UnaryOp .USub (.Constant (.int 1) kk p1) p2)) p3) pos) (.rev ia) := fun X W hX =>
  PE.imp (pe_revL (ha X W hX)) fun σ H Q ⟨B, F0, Lk, ρ, tv, td, h, w⟩ => by
    simp only [ev] at w
    refine go1 h (fun _ z => z) w fun x v H1 _ h1 w1 => ?_
    cases x <;> first | exact w1.elim | skip
    obtain ⟨p, vs, rfl, hs, hl, h4⟩ := h1.openL
    rw [hX.eK]
    exact ⟨p, vs, rfl, hs, fun r hr => w1 _ _ ((h4.revd hl).newLst (by rw [List.length_reverse, List.length_reverse, hl]) hr)⟩

/-! ### built-ins -/
/-- a built-in's rule -/
structure BiR (C : Cf) (f : Bi) (fv : Value) (u : Value) where
  r : List V → Hp → VK → Prop
  ok : ∀ X : Cx, X.K = C.G.K → X.calm = true → CallR X fv r
  run : ∀ B F0 Lk σ ρ tv td vs ds H (S : Exn → Prop) (Q : VK), vs.length = ds.length → Holds C.G B F0 Lk σ ρ (vs ++ tv) (ds ++ td) H → Wish (biD f ds) S (fun d => ∀ v H', Holds C.G B F0 Lk σ ρ (v :: tv) (d :: td) H' → Q v H') → r vs H Q
theorem bi_tail {W : WX} {f : Bi} {r : List V → Hp → VK → Prop} (R : ∀ B F0 Lk σ ρ tv td vs ds H (S : Exn → Prop) (Q : VK), vs.length = ds.length → Holds C.G B F0 Lk σ ρ (vs ++ tv) (ds ++ td) H → Wish (biD f ds) S (fun d => ∀ v H', Holds C.G B F0 Lk σ ρ (v :: tv) (d :: td) H' → Q v H') → r vs H Q)
    {σ : L2.St} {H : Hp} {Q : VK} (h : tE C (.bi f ies) W σ H Q) : tCB r (tEs C ies W) σ H Q := by
  obtain ⟨B, F0, Lk, ρ, tv, td, h, w⟩ := h
  simp only [ev] at w
  exact gos h (fun _ z => z) w fun ds vs H1 _ hl h1 w1 => R B F0 Lk σ ρ tv td vs ds H1 _ Q hl h1 w1
theorem s_biB {f : Bi} {x : Str} {id : String} {p : Pos} {u : Value} (R : BiR C f (.builtin id) u) (hg : sc.names.lookup x = some .globalImplicit) (hm : C.mg x = none) (hv : bootBuiltins x = some (.builtin id)) (hn : (e :: es).all nst = true) (h1 : x ≠ "__name__") (h2 : (x == ("__debug__" : Str)) = false)
    (h : SEs C k N sc st (e :: es) ies) : SE C k N sc st (.Call (.Name x p) (e :: es) [] pos) (.bi f ies) := fun X W hX => by
  rw [List.all_cons, Bool.and_eq_true] at hn
  exact PE.imp (pe_callB (R.ok X hX.eK hX.calm) (by unfold Gl Env.kindOf; rw [hX.eS]; exact hg) (by rw [hX.eM]; exact hm) hv (h X W hX) h1 h2 (star_cons hn.1 es X.env) (star_any hn.2)) fun σ H Q h => bi_tail R.run h
theorem s_biT {f : Bi} {x : Str} {T : String} {p : Pos} {u : Value} (R : BiR C f (.type T) u) (hg : sc.names.lookup x = some .globalImplicit) (hm : C.mg x = none) (hv : bootBuiltins x = some (.type T)) (hn : (e :: es).all nst = true) (h1 : x ≠ "__name__") (h2 : (x == ("__debug__" : Str)) = false)
    (h : SEs C k N sc st (e :: es) ies) : SE C k N sc st (.Call (.Name x p) (e :: es) [] pos) (.bi f ies) := fun X W hX => by
  rw [List.all_cons, Bool.and_eq_true] at hn
  exact PE.imp (pe_callTy (R.ok X hX.eK hX.calm) (by unfold Gl Env.kindOf; rw [hX.eS]; exact hg) (by rw [hX.eM]; exact hm) hv (h X W hX) h1 h2 (star_cons hn.1 es X.env) (star_any hn.2)) fun σ H Q h => bi_tail R.run h
theorem one_v {vs : List V} {ds : List D} {d : D} (e : vs.length = ds.length) (h : ds = [d]) : ∃ v, vs = [v] := by
  subst h
  match vs, e with
  | [v], _ => exact ⟨v, rfl⟩
def B_len : BiR C .len (.builtin "len") .none where
  r := fun xs H Q => (∃ p ys, xs = [.ref p] ∧ (SqL C.G.K H p ys ∨ SqT C.G.K H p ys) ∧ Q (.int ys.length) H) ∨ ∃ z, xs = [.str z] ∧ z.length ≤ sizeLine ∧ Q (.int z.length) H
  ok := fun X e hc => by rw [← e]; exact call_len_seq.or call_len_str
  run := fun B F0 Lk σ ρ tv td vs ds H S Q hl h w => by
    unfold biD at w
    split at w <;> first | (exact w.elim) | (rename_i z; cases z; done) | skip
    · obtain ⟨v, rfl⟩ := one_v hl rfl
      obtain ⟨p, ys, rfl, hs, hl2, h2⟩ := Holds.openL h
      exact .inl ⟨p, ys, rfl, .inl hs, by rw [hl2]; exact w _ _ ((h2.popn hl2).push fun _ => .int _)⟩
    · obtain ⟨v, rfl⟩ := one_v hl rfl
      obtain ⟨p, ys, rfl, hs, hl2, h2⟩ := Holds.openT h
      exact .inl ⟨p, ys, rfl, .inr hs, by rw [hl2]; exact w _ _ ((h2.popn hl2).push fun _ => .int _)⟩
    · obtain ⟨v, rfl⟩ := one_v hl rfl
      obtain ⟨_, _, o⟩ := Holds.top h
      obtain ⟨hz, w⟩ := Wish.chk w
      rw [o.inv_str]
      exact .inr ⟨_, rfl, of_decide_eq_true hz, w _ _ ((Holds.pop h).push fun _ => .int _)⟩
def B_int : BiR C .int (.type "int") .none where
  r := fun xs H Q => ((∃ i, xs = [.int i] ∧ Q (.int i) H) ∨ ∃ k, xs = [.bl k] ∧ Q (.int (if k then 1 else 0)) H) ∨ ∃ a n, xs = [.str a] ∧ PySem.intText? a = some n ∧ a.length ≤ 640 ∧ Q (.int n) H
  ok := fun X e hc => call_int1.or call_int_str
  run := fun B F0 Lk σ ρ tv td vs ds H S Q hl h w => by
    unfold biD at w
    split at w <;> first | (exact w.elim) | (rename_i z; cases z; done) | skip
    · obtain ⟨v, rfl⟩ := one_v hl rfl
      obtain ⟨_, _, o⟩ := Holds.top h
      rw [o.inv_int]
      exact .inl (.inl ⟨_, rfl, w _ _ ((Holds.pop h).push fun _ => .int _)⟩)
    · obtain ⟨v, rfl⟩ := one_v hl rfl
      obtain ⟨_, _, o⟩ := Holds.top h
      rw [o.inv_bl]
      exact .inl (.inr ⟨_, rfl, w _ _ ((Holds.pop h).push fun _ => .int _)⟩)
    · obtain ⟨v, rfl⟩ := one_v hl rfl
      obtain ⟨_, _, o⟩ := Holds.top h
      rw [o.inv_str]
      split at w
      · rename_i n hn
        obtain ⟨hz, w⟩ := Wish.chk w
        exact .inr ⟨_, n, rfl, hn, of_decide_eq_true hz, w _ _ ((Holds.pop h).push fun _ => .int _)⟩
      · exact w.elim
def B_str : BiR C .str (.type "str") .none where
  r := fun xs H Q => ∃ i, xs = [.int i] ∧ i.natAbs.log2 < 1920 ∧ Q (.str (toString i)) H
  ok := fun X e hc => call_str_int
  run := fun B F0 Lk σ ρ tv td vs ds H S Q hl h w => by
    unfold biD at w
    split at w <;> first | (exact w.elim) | (rename_i z; cases z; done) | skip
    obtain ⟨v, rfl⟩ := one_v hl rfl
    obtain ⟨_, _, o⟩ := Holds.top h
    obtain ⟨hz, w⟩ := Wish.chk w
    rw [o.inv_int]
    exact ⟨_, rfl, of_decide_eq_true hz, w _ _ ((Holds.pop h).push fun _ => .str _)⟩
def B_tuple : BiR C .tuple (.type "tuple") .none where
  r := fun xs H Q => ∃ p ys, xs = [.ref p] ∧ ((SqL C.G.K H p ys ∧ ∀ l, H l = none → Q (.ref l) (upd H l (.tup ys))) ∨ (SqT C.G.K H p ys ∧ Q (.ref p) H))
  ok := fun X e hc => by rw [← e]; exact call_tuple_of
  run := fun B F0 Lk σ ρ tv td vs ds H S Q hl h w => by
    unfold biD at w
    split at w <;> first | (exact w.elim) | (rename_i z; cases z; done) | skip
    · obtain ⟨v, rfl⟩ := one_v hl rfl
      obtain ⟨p, ys, rfl, hs, hl2, h2⟩ := Holds.openL h
      exact ⟨p, ys, rfl, .inl ⟨hs, fun l hp => w _ _ (h2.newTup hl2 hp)⟩⟩
    · obtain ⟨v, rfl⟩ := one_v hl rfl
      obtain ⟨p, ys, rfl, hs, hl2, h2⟩ := Holds.openT h
      exact ⟨p, ys, rfl, .inr ⟨hs, w _ _ h⟩⟩
def B_list : BiR C .list (.type "list") .none where
  r := fun xs H Q => ∃ p ys, xs = [.ref p] ∧ (SqL C.G.K H p ys ∨ SqT C.G.K H p ys) ∧ ∀ l, H l = none → Q (.ref l) (upd H l (.lst ys))
  ok := fun X e hc => by rw [← e]; exact call_list_of
  run := fun B F0 Lk σ ρ tv td vs ds H S Q hl h w => by
    unfold biD at w
    split at w <;> first | (exact w.elim) | (rename_i z; cases z; done) | skip
    · obtain ⟨v, rfl⟩ := one_v hl rfl
      obtain ⟨p, ys, rfl, hs, hl2, h2⟩ := Holds.openL h
      exact ⟨p, ys, rfl, .inl hs, fun l hp => w _ _ (h2.newLst hl2 hp)⟩
    · obtain ⟨v, rfl⟩ := one_v hl rfl
      obtain ⟨p, ys, rfl, hs, hl2, h2⟩ := Holds.openT h
      exact ⟨p, ys, rfl, .inr hs, fun l hp => w _ _ (h2.newLst hl2 hp)⟩

/-! ### isinstance -/
theorem sq_ty {K : PySem.W.Frag} {H : Hp} {a : Addr} {vs : List V} (h : SqL K H a vs) : TyX K H (.ref a) (.type "list") := by
  rcases h with (h | ⟨o, h⟩) | ⟨o, its, n, h, hc, _⟩
  · exact .base (.lst h)
  · exact .base (.frz h)
  · exact .kList h hc
theorem st_ty {K : PySem.W.Frag} {H : Hp} {a : Addr} {vs : List V} (h : SqT K H a vs) : TyX K H (.ref a) (.type "tuple") := by
  rcases h with (h | ⟨o, h⟩) | ⟨o, its, n, h, hc, _⟩
  · exact .base (.tup h)
  · exact .fTuple h
  · exact .kTuple h hc
def btNm : Option Bt → String
  | none => "NoneType"
  | some b => b.nm
theorem ty_of {B Lk H : Hp} {F0 : Addr → Prop} {σ : L2.St} {ρ : List (Option D)} {tv : List V} {td : List D} {v : V} {d : D} {o : Option Bt} (h : Holds C.G B F0 Lk σ ρ (v :: tv) (d :: td) H) (e : btD d = some o) : TyX C.G.K H v (.type (btNm o)) := by
  obtain ⟨_, _, ow⟩ := h.top
  cases d with
  | non => cases e; rw [ow.inv_non]; exact .base .non
  | bl _ => cases e; rw [ow.inv_bl]; exact .base (.bl _)
  | int _ => cases e; rw [ow.inv_int]; exact .base (.int _)
  | str _ => cases e; rw [ow.inv_str]; exact .base (.str _)
  | tup _ => cases e; obtain ⟨p, vs, rfl, hs, _⟩ := h.openT; exact st_ty hs
  | lst _ _ => cases e; obtain ⟨p, vs, rfl, hs, _⟩ := h.openL; exact sq_ty hs
  | _ => cases e
theorem kit_bt (K : PySem.W.Frag) (o : Option Bt) (b : Bt) : PySem.W.kitOne K (.type (btNm o)) (.type b.nm) = some (btIn o b) := by
  refine kit_ty ?_
  rcases o with _ | o
  · cases b <;> decide +kernel
  · cases o <;> cases b <;> decide +kernel
theorem kit_bts (K : PySem.W.Frag) (o : Option Bt) : ∀ bs : List Bt, PySem.W.kitAny K (.type (btNm o)) (bs.map fun b => Value.type b.nm) = some (bs.any (btIn o))
  | [] => kitAny_nil
  | b :: bs => by
    rw [List.map_cons, List.any_cons]
    refine kitAny_cons (kit_bt K o b) (fun e => ?_) fun e => ?_
    · rw [e, Bool.false_or]; exact kit_bts K o bs
    · rw [e]; rfl
theorem boot_bt (b : Bt) : bootBuiltins (Str.ofString b.nm) = some (.type b.nm) := by cases b <;> decide +kernel
/-- isinstance(e, T) -/
theorem s_isi {b : Bt} {p p2 : Pos} (hn : nst e = true) (hg : sc.names.lookup (Str.ofString "isinstance") = some .globalImplicit) (hm : C.mg (Str.ofString "isinstance") = none) (hg2 : sc.names.lookup (Str.ofString b.nm) = some .globalImplicit) (hm2 : C.mg (Str.ofString b.nm) = none)
    (h : SE C k N sc st e ie) : SE C k N sc st (.Call (.Name (Str.ofString "isinstance") p) [e, .Name (Str.ofString b.nm) p2] [] pos) (.isi ie (.b b)) := fun X W hX => by
  have hB : PE X (.Name (Str.ofString b.nm) p2) (tC (.ty b.nm)) := pe_bltn (u := .type b.nm) (by unfold Gl Env.kindOf; rw [hX.eS]; exact hg2) (by rw [hX.eM]; exact hm2) (boot_bt b) rfl (by cases b <;> decide) (by cases b <;> decide)
  refine PE.imp (pe_callB (r := rIsi C.G.K) (by rw [← hX.eK]; exact call_isi) (by unfold Gl Env.kindOf; rw [hX.eS]; exact hg) (by rw [hX.eM]; exact hm) (by decide +kernel) (pa_cons (h X W hX) (pa_cons hB pa_nil) (star_cons hn _ _)) (by decide) (by decide) (star_cons hn _ _) rfl) fun σ H Q ⟨B, F0, Lk, ρ, tv, td, h, w⟩ => ?_
  simp only [ev] at w
  refine go1 h (fun _ z => z) w fun x v H1 _ h1 w1 => ?_
  simp only [tyD] at w1
  cases hb : btD x with
  | none => rw [hb] at w1; exact w1.elim
  | some o =>
    rw [hb] at w1
    exact ⟨v, .ty b.nm, _, _, _, rfl, .ty _, ty_of h1 hb, kit_bt C.G.K o b, w1 _ _ (h1.pop.push fun _ => .bl _)⟩
/-! ### sorted, repr, max, min, starred lists -/
theorem ints_of {K : PySem.W.Frag} {cl : Nat → Addr} {H : Hp} {Fz : Addr → Prop} : ∀ {xs : List D} {vs : List V} {f : List Addr} {is : List Int}, Owns K cl H Fz vs xs f → intsOf xs = some is → vs = is.map V.int
  | [], _, _, _, h, e => by cases h; simp only [intsOf, Option.some.injEq] at e; subst e; rfl
  | d :: ds, _, _, is, h, e => by
    cases h with
    | cons a b =>
      cases d <;> first | (simp [intsOf] at e; done) | skip
      simp only [intsOf] at e
      split at e
      · rename_i ss hs
        cases e
        rw [List.map_cons, a.inv_int, ints_of b hs]
      · cases e
theorem sort_eq {xs ys : List Int} (p : ys.Perm xs) (s : ys.Pairwise (· ≤ ·)) : ys = xs.mergeSort (fun a b => decide (a ≤ b)) := by
  have s2 : (xs.mergeSort (fun a b => decide (a ≤ b))).Pairwise (fun a b => decide (a ≤ b) = true) := List.pairwise_mergeSort (fun a b c h1 h2 => by simp only [decide_eq_true_eq] at *; omega) (fun a b => by simp only [Bool.or_eq_true, decide_eq_true_eq]; omega) xs
  exact List.Perm.eq_of_pairwise (le := (· ≤ ·)) (fun a b _ _ h1 h2 => Int.le_antisymm h1 h2) s (s2.imp fun h => of_decide_eq_true h) (p.trans (List.mergeSort_perm _ _).symm)
theorem Holds.ints {B Lk H : Hp} {F0 : Addr → Prop} {σ : L2.St} {ρ : List (Option D)} {tv : List V} {td : List D} (h : Holds C.G B F0 Lk σ ρ tv td H) : ∀ is : List Int, Holds C.G B F0 Lk σ ρ (is.map V.int ++ tv) (is.map D.int ++ td) H
  | [] => h
  | i :: is => Holds.push (h.ints is) fun _ => .int i
def B_sorted : BiR C .sorted (.builtin "sorted") .none where
  r := rSorted C.G.K
  ok := fun X e hc => by rw [← e]; exact cr_sorted
  run := fun B F0 Lk σ ρ tv td vs ds H S Q hl h w => by
    unfold biD at w
    split at w <;> first | (exact w.elim) | (rename_i z; cases z; done) | skip
    obtain ⟨v, rfl⟩ := one_v hl rfl
    obtain ⟨p, ys, rfl, hs, hl2, h2⟩ := Holds.openL h
    split at w
    · rename_i is hi
      obtain ⟨hz, w⟩ := Wish.chk w
      obtain ⟨_, _, ow⟩ := Holds.topn h2 hl2
      have e := ints_of ow hi
      subst e
      refine ⟨p, is, rfl, hs, of_decide_eq_true hz, fun ns q pm st hq => ?_⟩
      rw [sort_eq pm st]
      exact w _ _ (Holds.newLst ((Holds.popn h2 hl2).ints _) (by rw [List.length_map, List.length_map]) hq)
    · exact w.elim
def B_max : BiR C .max (.builtin "max") .none where
  r := fun xs H Q => ∃ i j, xs = [.int i, .int j] ∧ Q (.int (if j > i then j else i)) H
  ok := fun X e hc => call_max2 hc
  run := fun B F0 Lk σ ρ tv td vs ds H S Q hl h w => by
    unfold biD at w
    split at w <;> first | (exact w.elim) | (rename_i z; cases z; done) | skip
    match vs, hl with
    | [v, u], _ =>
      obtain ⟨_, _, o1⟩ := Holds.top h
      obtain ⟨_, _, o2⟩ := Holds.top (Holds.pop h)
      rw [o1.inv_int, o2.inv_int]
      exact ⟨_, _, rfl, w _ _ ((Holds.pop (Holds.pop h)).push fun _ => .int _)⟩
def B_min : BiR C .min (.builtin "min") .none where
  r := fun xs H Q => ∃ i j, xs = [.int i, .int j] ∧ Q (.int (if j < i then j else i)) H
  ok := fun X e hc => call_min2 hc
  run := fun B F0 Lk σ ρ tv td vs ds H S Q hl h w => by
    unfold biD at w
    split at w <;> first | (exact w.elim) | (rename_i z; cases z; done) | skip
    match vs, hl with
    | [v, u], _ =>
      obtain ⟨_, _, o1⟩ := Holds.top h
      obtain ⟨_, _, o2⟩ := Holds.top (Holds.pop h)
      rw [o1.inv_int, o2.inv_int]
      exact ⟨_, _, rfl, w _ _ ((Holds.pop (Holds.pop h)).push fun _ => .int _)⟩
def rRepr (K : PySem.W.Frag) : List V → Hp → VK → Prop := fun vs H Q => ∃ a p, vs = [.ref a] ∧ Dp K H (.ref a) p ∧ p.showable = true ∧ p.hasDict = false ∧ p.depth ≤ 64 ∧ p.shown.length ≤ sizeLine ∧ Q (.str p.shown) H
theorem call_repr {X : Cx} (hg : X.A.guards = some []) (hr : L2.Room k X.A) : CallR X (.builtin "repr") (rRepr X.K) := by
  intro pins s σ H vs us Q I r h
  obtain ⟨a, p, rfl, hd, h1, h2, h3, h4, q⟩ := h
  obtain ⟨u, rfl, ru⟩ := Vals.one r
  obtain rfl : u = Value.ref a := ru
  obtain ⟨as, rd⟩ := Dp.reads I p (.ref a) (.ref a) hd rfl
  have un := hr.un
  exact PySem.repr_of_reads' rd h1 (fun z => by rw [h2] at z; cases z) hg (by omega) (fun _ _ e => e) (fun h' t tk hk => ⟨.str _, H, I.kept hk, ⟨t, rfl⟩, q⟩) h4
theorem s_repr {p : Pos} (hn : nst e = true) (hg : sc.names.lookup (Str.ofString "repr") = some .globalImplicit) (hm : C.mg (Str.ofString "repr") = none) (h : SE C k N sc st e ie) : SE C k N sc st (.Call (.Name (Str.ofString "repr") p) [e] [] pos) (.bi .repr [ie]) := fun X W hX => by
  refine PE.imp (pe_callB (r := rRepr C.G.K) (by rw [← hX.eK]; exact call_repr hX.gd hX.room) (by unfold Gl Env.kindOf; rw [hX.eS]; exact hg) (by rw [hX.eM]; exact hm) (by decide +kernel) (ss_cons hn h ss_nil X W hX) (by decide) (by decide) (star_cons hn _ _) rfl) fun σ H Q hq => bi_tail (fun B F0 Lk σ ρ tv td vs ds H S Q hl h w => ?_) hq
  unfold biD at w
  split at w <;> first | (exact w.elim) | (rename_i z; cases z; done) | skip
  all_goals
    unfold reprD at w
    obtain ⟨v, rfl⟩ := one_v hl rfl
    obtain ⟨_, _, ow⟩ := Holds.top h
    split at w
    · rename_i q hq
      obtain ⟨hz, w⟩ := Wish.chk w
      simp only [Bool.and_eq_true, decide_eq_true_eq, Bool.not_eq_true'] at hz
      obtain ⟨a, rfl⟩ : ∃ a, v = .ref a := by first | exact (Holds.openL h).imp fun a z => z.choose_spec.1 | exact (Holds.openT h).imp fun a z => z.choose_spec.1
      exact ⟨_, _, rfl, ow.dp hq, hz.1.1.1, hz.1.1.2, hz.1.2, hz.2, w _ _ ((Holds.pop h).push fun _ => .str _)⟩
    · exact w.elim
/-- [*e, ..] -/
theorem s_stl {p2 : Pos} (ha : SE C k N sc st e ie) (hs : SEs C k N sc st es ies) : SE C k N sc st (.List (.Starred e p2 :: es) pos) (.stl ie ies) := fun X W hX =>
  PE.imp (pe_lst (StX.pa_star (ha X W hX) (hs X W hX))) fun σ H Q ⟨B, F0, Lk, ρ, tv, td, h, w⟩ => by
    simp only [ev] at w
    refine go1 h (fun _ z => z) w fun x v H1 hx h1 w1 => ?_
    clear hx
    have fin : ∀ {p : Addr} {us : List V} {xs : List D}, us.length = xs.length → Holds C.G B F0 Lk σ ρ (us ++ tv) (xs ++ td) H1 → Wish ((evs C.Φ C.gv ies ρ).bind fun ys => .chk (decide ((xs ++ ys).length ≤ sizeLine)) (.ok (.lst .ow (xs ++ ys)))) (Off C W σ B F0 Lk ρ tv td) (fun d => ∀ v H', Holds C.G B F0 Lk σ ρ (v :: tv) (d :: td) H' → Q v H') →
        tEs C ies W σ H1 fun ws H2 => (us ++ ws).length ≤ sizeLine ∧ ∀ q, H2 q = none → Q (.ref q) (L2.upd H2 q (.lst (us ++ ws))) := fun {p us xs} hl h2 w2 => by
      refine gos h2 (fun _ z => z.pushn hl) w2 fun ys ws H2 _ hl2 h3 w3 => ?_
      obtain ⟨hz, w4⟩ := w3.chk
      have el : (us ++ ws).length = (xs ++ ys).length := by rw [List.length_append, List.length_append, hl, hl2]
      refine ⟨by rw [el]; exact of_decide_eq_true hz, fun q hq => ?_⟩
      have h4 : Holds C.G B F0 Lk σ ρ ((us ++ ws) ++ tv) ((xs ++ ys) ++ td) H2 := h3.re (Keep.refl _) h3.tb fun Fz f2 b => by
        obtain ⟨g1, g2, q1, q2, rfl⟩ := b.split hl2
        obtain ⟨g3, g4, q3, q4, rfl⟩ := q2.split hl
        refine ⟨(g3 ++ g1) ++ g4, Sb.of_perm ?_, fun Fz' m _ => ((q3.keep (Keep.refl _) m).append (q1.keep (Keep.refl _) m)).append (q4.keep (Keep.refl _) m)⟩
        rw [← List.append_assoc]
        exact (List.perm_append_comm).append_right g4
      exact w4 _ _ (Holds.newLst h4 el hq)
    cases x <;> first | exact w1.elim | skip
    · obtain ⟨p, us, rfl, hs, hl, h2⟩ := h1.openT
      rw [hX.eK]
      exact ⟨p, us, rfl, .inl hs, fin (p := p) hl h2 w1⟩
    · obtain ⟨p, us, rfl, hs, hl, h2⟩ := h1.openL
      rw [hX.eK]
      exact ⟨p, us, rfl, .inr hs, fin (p := p) hl h2 w1⟩
end
end Pu

set_option Elab.async false
set_option linter.all false
set_option maxRecDepth 100000
set_option maxHeartbeats 1000000
/-! Pu7: calls of the text's own functions, new objects, fields. -/
namespace Pu
open PySem PySem.Spec PyProof.Rows L2

def noH : Hp := fun _ => none
theorem Keep.noH (H : Hp) : Keep noH H := fun _ _ e => by cases e

/-- the def at f keeps the promise sp, by level kl, where no guard runs -/
structure FnG (C : Cf) (kl : Nat) (f : Addr) (fd : FuncData) (ps : List Str) (sp : Sp) : Prop where
  len : ∀ vs H Q E, sp vs H Q E → vs.length = ps.length
  run : ∀ (A : Around) (outer : List Env) (s : Shared) (H : Hp) (us : List Value) (vs : List V) (Q : VK) (E : XK), L2.Room kl A → A.guards = some [] → Env0 C.P C.w C.G.K C.mg C.base A outer s H →
    BindsTo s fd ⟨us, []⟩ (ps.zip us) → Vals vs us → sp vs H Q E → codeAny (model C.P C.w) A (.call (.ref f) ⟨us, []⟩) (CR (L2.CX C.P C.w) outer C.P C.w H s Q E) s

/-- the values at the places is -/
def sel {α : Type} (is : List Nat) (vs : List α) : List α := is.filterMap fun i => vs[i]?
/-- the settled arguments: all but the places is -/
def argsOk (is : List Nat) (ds : List D) : Bool := (List.range ds.length).all fun i => decide (i ∈ is) || (match ds[i]? with | some d => allFz d | none => true)
/-- THE PROMISE of function j: what the interpreter says of it -/
def spF (C : Cf) (j np : Nat) (is : List Nat) : Sp := fun vs H Q E => vs.length = np ∧ ∃ B F0 ds, vs.length = ds.length ∧ argsOk is ds = true ∧ noVws ds = true ∧ Holds C.G B F0 noH [] [] vs ds H ∧
  Wish (C.Φ j ds) (fun x => ∀ H', Holds C.G B F0 noH [] [] (sel is vs) x.ms H' → ∀ cls dx, ExR C.G H' x cls dx → E cls dx H')
    (fun r => ∀ v H', Holds C.G B F0 noH [] [] (v :: sel is vs) (r.1 :: r.2) H' → noVw r.1 = true → Q v H')

section
variable {C : Cf} {k kl : Nat} {N : List Str} {sc : Scope} {st : List Str} {X : Cx} {W : WX} {f : Addr} {fd : FuncData} {ps : List Str} {sp : Sp}
theorem run_G {pins : List (Addr × Obj)} {σ : L2.St} {H : Hp} {s : Shared} {Q : VK} {us : List Value} {vs : List V} (hX : CtxOk C k N sc st X W) (F : FnG C kl f fd ps sp) (hk : kl ≤ k) (hb : Binds C.G.K fd ps [])
    (I : Inv X pins σ H s) (r : Vals vs us) (h : sp vs H Q (WE W σ)) : wpAny (model X.prog X.w) X.A (call (.ref f) us) (EP X pins σ Q) X.xe s := by
  have hl : us.length = ps.length := r.length.symm.trans (F.len _ _ _ _ h)
  have KI : C.G.K.In s.heap := hX.eK ▸ I.kIn
  have b := hb s us KI (by simpa using hl)
  simp only [List.append_nil] at b
  have E0 := I.env0
  rw [hX.eP, hX.eW, hX.eK, hX.eM, hX.eB] at E0
  have c := F.run X.A X.stack s H us vs Q (WE W σ) (hX.room.mono hk) hX.gd E0 b r h
  rw [hX.eP, hX.eW]
  refine wpAny_call (codeAny_mono c fun r s' hq => ?_)
  rcases r with e | fl
  · have p := passAt hX.takes σ
    rw [hX.eP, hX.eW] at p
    exact p pins H s e s' I hq
  · cases fl with
    | ret u =>
      have q2 : CE X.stack X.prog X.w H s Q u s' := by rw [hX.eP, hX.eW]; exact hq
      exact I.after q2
    | next => exact hq.elim
    | brk => exact hq.elim
    | cont => exact hq.elim
/-- f(e, ..) by values -/
def tCallG (sp : Sp) (W : WX) (t : TA) : TE := fun σ H Q => t σ H fun vs H1 => sp vs H1 Q (WE W σ)
theorem pe_callG {x : Str} {p pos : Pos} {e : Expr} {es : List Expr} {t : TA} (hX : CtxOk C k N sc st X W) (F : FnG C kl f fd ps sp) (hk : kl ≤ k) (hb : Binds C.G.K fd ps []) (hg : sc.names.lookup x = some .globalImplicit) (hm : C.mg x = some (.ref f)) (hkp : PySem.W.keepIn C.G.K (.ref f) = true)
    (hd : (x == ("__debug__" : Str)) = false) (hn : (e :: es).all nst = true) (ha : PA X (e :: es) t) : PE X (.Call (.Name x p) (e :: es) [] pos) (tCallG sp W t) := by
  rw [List.all_cons, Bool.and_eq_true] at hn
  refine ⟨fun pins s σ H Q I h => wpAny_Call_Name_kw (ld_glob I (by unfold Gl Env.kindOf; rw [hX.eS]; exact hg) (by rw [hX.eM]; exact hm) ?_ hd)⟩
  exact PySem.W.callWith_K (h₀ := X.base) I.ok.mod.kin (by rw [hX.eK]; exact hkp) (thn (ha.run pos pins s σ H _ I h) fun us s1 ⟨vs, H1, I1, r, q⟩ => ⟨I1.kIn, run_G hX F hk hb I1 r q⟩) (star_cons hn.1 es X.env) (star_any hn.2)
theorem pe_callG0 {x : Str} {p pos : Pos} (hX : CtxOk C k N sc st X W) (F : FnG C kl f fd ps sp) (hk : kl ≤ k) (hb : Binds C.G.K fd ps []) (hg : sc.names.lookup x = some .globalImplicit) (hm : C.mg x = some (.ref f)) (hkp : PySem.W.keepIn C.G.K (.ref f) = true)
    (hd : (x == ("__debug__" : Str)) = false) : PE X (.Call (.Name x p) [] [] pos) (tCallG sp W tNil) := by
  refine ⟨fun pins s σ H Q I h => wpAny_Call_Name_kw (ld_glob I (by unfold Gl Env.kindOf; rw [hX.eS]; exact hg) (by rw [hX.eM]; exact hm) ?_ hd)⟩
  exact PySem.W.callWith_K0 I.kIn (by rw [hX.eK]; exact hkp) (run_G (us := []) hX F hk hb I .nil h)
end

/-! ### what a pure call asks and gives -/
mutual
theorem anyFz_all : ∀ d : D, allFz (anyFz d) = true
  | .non => rfl | .bl _ => rfl | .int _ => rfl | .str _ => rfl
  | .tup xs => by simp only [anyFz, allFz]; exact anyFzs_all xs
  | .lst f xs => by simp only [anyFz, allFz, Bool.and_eq_true, decide_eq_true_eq]; exact ⟨trivial, anyFzs_all xs⟩
  | .obj f c ns xs => by simp only [anyFz, allFz, Bool.and_eq_true, decide_eq_true_eq]; exact ⟨trivial, anyFzs_all xs⟩
  | .dct f ks xs => by simp only [anyFz, allFz, Bool.and_eq_true, decide_eq_true_eq]; exact ⟨trivial, anyFzs_all xs⟩
theorem anyFzs_all : ∀ ds : List D, allFzs (anyFzs ds) = true
  | [] => rfl
  | d :: ds => by simp only [anyFzs, allFzs, Bool.and_eq_true]; exact ⟨anyFz_all d, anyFzs_all ds⟩
end
mutual
theorem anyFz_fzD : ∀ d : D, noVw d = true → anyFz d = fzD d
  | .non, _ => rfl | .bl _, _ => rfl | .int _, _ => rfl | .str _, _ => rfl
  | .tup xs, h => by simp only [anyFz, fzD, noVw] at *; rw [anyFzs_fzDs xs h]
  | .lst f xs, h => by
    simp only [anyFz, fzD, noVw, Bool.and_eq_true, decide_eq_true_eq] at *
    rw [anyFzs_fzDs xs h.2]
    cases f <;> first | rfl | exact absurd rfl h.1
  | .obj f c ns xs, h => by
    simp only [anyFz, fzD, noVw, Bool.and_eq_true, decide_eq_true_eq] at *
    rw [anyFzs_fzDs xs h.2]
    cases f <;> first | rfl | exact absurd rfl h.1
  | .dct f ks xs, h => by
    simp only [anyFz, fzD, noVw, Bool.and_eq_true, decide_eq_true_eq] at *
    rw [anyFzs_fzDs xs h.2]
    cases f <;> first | rfl | exact absurd rfl h.1
theorem anyFzs_fzDs : ∀ ds : List D, noVws ds = true → anyFzs ds = fzDs ds
  | [], _ => rfl
  | d :: ds, h => by
    simp only [anyFzs, fzDs, noVws, Bool.and_eq_true] at *
    rw [anyFz_fzD d h.1, anyFzs_fzDs ds h.2]
end
theorem anyFzs_len : ∀ ds : List D, (anyFzs ds).length = ds.length
  | [] => rfl
  | d :: ds => by simp only [anyFzs, List.length_cons, anyFzs_len ds]
section
variable {K : PySem.W.Frag} {cl : Nat → Addr} {H : Hp} {Fz : Addr → Prop}
mutual
/-- another sees all of it as settled, who holds all that stands as settled -/
theorem Own.any : ∀ {d : D} {v : V} {f : List Addr}, Own K cl H Fz v d f → Own K cl H (fun a => H a ≠ none) v (anyFz d) []
  | .non, _, _, h => by cases h; exact .non
  | .bl _, _, _, h => by cases h; exact .bl _
  | .int _, _, _, h => by cases h; exact .int _
  | .str _, _, _, h => by cases h; exact .str _
  | .tup ds, _, _, h => by cases h with | tup a b => exact .tup a (Owns.any b)
  | .lst f ds, _, _, h => by
    cases h with
    | lst a b =>
      have b' := Owns.any b
      rcases a.seq with (e | ⟨o, e⟩) | e
      · exact .lst (.fz e (by rw [e]; exact fun z => by cases z)) b'
      · exact .lst (.lk e) b'
      · exact .lst (.wr (.inr e)) b'
  | .obj f c ns ds, _, _, h => by
    cases h with
    | obj a b =>
      have b' := Owns.any b
      obtain ⟨dx, fvs, e, rfl, rfl⟩ := a.ins
      exact .obj (.fz e (by rw [e]; exact fun z => by cases z)) b'
  | .dct f ks ds, _, _, h => by
    cases h with
    | dct a b =>
      have b' := Owns.any b
      obtain ⟨kvs, e, rfl, rfl⟩ := a.dk
      exact .dct (.fz e (by rw [e]; exact fun z => by cases z)) b'
theorem Owns.any : ∀ {ds : List D} {vs : List V} {f : List Addr}, Owns K cl H Fz vs ds f → Owns K cl H (fun a => H a ≠ none) vs (anyFzs ds) []
  | [], _, _, h => by cases h; exact .nil
  | d :: ds, _, _, h => by cases h with | cons a b => exact .cons (Own.any a) (Owns.any b)
end
end
section
variable {G : Gb} {B Lk H H' : Hp} {F0 : Addr → Prop} {σ : L2.St} {ρ : List (Option D)} {tv : List V} {td : List D} {vs : List V} {ds : List D} {v : V} {d : D}
/-- many on top settled -/
theorem Holds.frzn (h : Holds G B F0 Lk σ ρ (vs ++ tv) (ds ++ td) H) (e : vs.length = ds.length) : Holds G B F0 Lk σ ρ (vs ++ tv) (fzDs ds ++ td) H := by
  obtain ⟨⟨f1, f2, a, b, n, q⟩, kb, kl, tb⟩ := h
  obtain ⟨g1, g2, b1, b2, rfl⟩ := b.split e
  have s : Sb (f1 ++ g2) (f1 ++ (g1 ++ g2)) := (Sb.refl f1).app (Sb.right _ _)
  have mono : ∀ a, Fzp B F0 (f1 ++ (g1 ++ g2)) a → Fzp B F0 (f1 ++ g2) a := fun a z => ⟨z.1, fun m => z.2 (s.mem a m)⟩
  refine ⟨⟨f1, [] ++ g2, a.keep (Keep.refl _) fun a _ => mono a, (b1.freeze mono fun p hp => ⟨.inr (q p (List.mem_append_right _ (List.mem_append_left _ hp))), fun m => ?_⟩).append (b2.keep (Keep.refl _) fun a _ => mono a), s.nodup n, fun p hp => q p (s.mem p hp)⟩, kb, kl, tb⟩
  have n2 := List.nodup_append.mp n
  rcases List.mem_append.mp m with m | m
  · exact n2.2.2 p m p (List.mem_append_left _ hp) rfl
  · exact (List.nodup_append.mp n2.2.1).2.2 p hp p m rfl
/-- into a callee: all that stands is the ground -/
theorem Holds.into (h : Holds G B F0 Lk σ ρ (vs ++ tv) (ds ++ td) H) (e : vs.length = ds.length) : Holds G H (fun a => H a ≠ none) noH [] [] vs (anyFzs ds) H := by
  obtain ⟨⟨f1, f2, a, b, n, q⟩, kb, kl, tb⟩ := h
  obtain ⟨g1, g2, b1, b2, rfl⟩ := b.split e
  refine ⟨⟨[], [], .nil, ?_, List.nodup_nil, fun p hp => absurd hp List.not_mem_nil⟩, Keep.refl _, Keep.noH _, tb⟩
  exact (Owns.any b1).keep (Keep.refl _) fun a ha z => ⟨.inl z, List.not_mem_nil⟩
/-- .. where all arguments are settled here too -/
theorem Holds.into2 (h : Holds G B F0 Lk σ ρ (vs ++ tv) (ds ++ td) H) (e : vs.length = ds.length) (hf : allFzs ds = true) :
    ∃ F1 : Addr → Prop, Holds G H F1 noH [] [] vs ds H ∧ ∀ H' v d, Holds G H F1 noH [] [] [v] [d] H' → Holds G B F0 Lk σ ρ (v :: tv) (d :: td) H' := by
  obtain ⟨⟨f1, f2, a, b, n, q⟩, kb, kl, tb⟩ := h
  obtain ⟨g1, g2, b1, b2, rfl⟩ := b.split e
  have z := b1.fp_nil hf
  subst z
  refine ⟨fun a => Fzp B F0 (f1 ++ ([] ++ g2)) a ∧ H a ≠ none, ⟨⟨[], [], .nil, b1.keep (Keep.refl _) fun a ha z => ⟨.inl ⟨z, ha⟩, List.not_mem_nil⟩, List.nodup_nil, fun p hp => absurd hp List.not_mem_nil⟩, Keep.refl _, Keep.noH _, tb⟩, ?_⟩
  intro H' v d h'
  obtain ⟨⟨e1, e2, a', b', n', q'⟩, kb', kl', tb'⟩ := h'
  have z1 : e1 = [] := by cases a'; rfl
  subst z1
  rw [List.nil_append] at *
  -- what is new is apart from what stood
  have new : ∀ p ∈ e2, p ∉ f1 ++ g2 := fun p hp hm => by
    have hn := q' p hp
    rcases List.mem_append.mp hm with m | m
    · exact (a.mut p m).2 hn
    · exact (b2.mut p m).2 hn
  have pm : (f1 ++ (e2 ++ g2)).Perm (e2 ++ (f1 ++ g2)) := by
    rw [← List.append_assoc, ← List.append_assoc]
    exact (List.perm_append_comm).append_right g2
  have mono : ∀ a, H a ≠ none → Fzp B F0 (f1 ++ g2) a → Fzp B F0 (f1 ++ (e2 ++ g2)) a := fun a ha z => ⟨z.1, fun m => by
    rcases List.mem_append.mp (pm.subset m) with m | m
    · exact ha (q' a m)
    · exact z.2 m⟩
  have mono2 : ∀ a, H' a ≠ none → Fzp H (fun a => Fzp B F0 (f1 ++ g2) a ∧ H a ≠ none) e2 a → Fzp B F0 (f1 ++ (e2 ++ g2)) a := fun a _ z => by
    rcases z with ⟨z | z, zn⟩
    · exact ⟨z.1.1, fun m => by
        rcases List.mem_append.mp (pm.subset m) with m | m
        · exact zn m
        · exact z.1.2 m⟩
    · refine ⟨.inr (kb.none z), fun m => ?_⟩
      rcases List.mem_append.mp (pm.subset m) with m | m
      · exact zn m
      · rcases List.mem_append.mp m with m | m
        · exact (OwnS.mut (by assumption) a m).2 z
        · exact (b2.mut a m).2 z
  have b'' : Own G.K G.cl H' (Fzp H (fun a => Fzp B F0 (f1 ++ g2) a ∧ H a ≠ none) e2) v d e2 := by
    cases b' with
    | cons x y => cases y; simpa only [List.append_nil, List.nil_append] using x
  refine ⟨⟨f1, e2 ++ g2, OwnS.keep kb' mono (by assumption), .cons (b''.keep (Keep.refl _) mono2) (b2.keep kb' mono), ?_, fun p hp => ?_⟩, kb.trans kb', kl.trans kb', tb'⟩
  · rw [pm.nodup_iff]
    exact List.nodup_append.mpr ⟨by simpa using n', n, fun p hp r hr e => new p hp (e ▸ hr)⟩
  · rcases List.mem_append.mp (pm.subset hp) with m | m
    · exact kb.none (q' p m)
    · exact q p m
/-- back from a callee that saw all as settled -/
theorem Holds.back (h : Holds G B F0 Lk σ ρ tv td H) (h' : Holds G H (fun a => H a ≠ none) noH [] [] [v] [d] H') : Holds G B F0 Lk σ ρ (v :: tv) (vaD d :: td) H' := by
  obtain ⟨⟨f1, g2, a, b2, n, q⟩, kb, kl, tb⟩ := h
  obtain ⟨⟨e1, e2, a', b', n', q'⟩, kb', kl', tb'⟩ := h'
  have z1 : e1 = [] := by cases a'; rfl
  subst z1
  rw [List.nil_append] at *
  have new : ∀ p ∈ e2, p ∉ f1 ++ g2 := fun p hp hm => by
    have hn := q' p hp
    rcases List.mem_append.mp hm with m | m
    · exact (a.mut p m).2 hn
    · exact (b2.mut p m).2 hn
  have pm : (f1 ++ (e2 ++ g2)).Perm (e2 ++ (f1 ++ g2)) := by
    rw [← List.append_assoc, ← List.append_assoc]
    exact (List.perm_append_comm).append_right g2
  have mono : ∀ a, H a ≠ none → Fzp B F0 (f1 ++ g2) a → Fzp B F0 (f1 ++ (e2 ++ g2)) a := fun a ha z => ⟨z.1, fun m => by
    rcases List.mem_append.mp (pm.subset m) with m | m
    · exact ha (q' a m)
    · exact z.2 m⟩
  have b'' : Own G.K G.cl H' (Fzp H (fun a => H a ≠ none) e2) v d e2 := by
    cases b' with
    | cons x y => cases y; simpa only [List.append_nil, List.nil_append] using x
  refine ⟨⟨f1, e2 ++ g2, a.keep kb' mono, .cons b''.va (b2.keep kb' mono), ?_, fun p hp => ?_⟩, kb.trans kb', kl.trans kb', tb'⟩
  · rw [pm.nodup_iff]
    exact List.nodup_append.mpr ⟨by simpa using n', n, fun p hp r hr e => new p hp (e ▸ hr)⟩
  · rcases List.mem_append.mp (pm.subset hp) with m | m
    · exact kb.none (q' p m)
    · exact q p m
end
theorem Holds.ex1 {G : Gb} {B Lk H : Hp} {F0 : Addr → Prop} {v : V} {vs : List V} {d : D} {ms : List D} (h : Holds G B F0 Lk [] [] (v :: sel [] vs) (d :: ms) H) : Holds G B F0 Lk [] [] [v] [d] H := by
  have e : ms = [] := by
    obtain ⟨⟨f1, f2, a, b, _⟩, _⟩ := h
    have := b.length
    cases ms with
    | nil => rfl
    | cons _ _ => simp [sel] at this
  subst e
  exact h
theorem argsOk_all {ds : List D} (h : allFzs ds = true) : argsOk [] ds = true := by
  unfold argsOk
  rw [List.all_eq_true]
  intro i _
  rw [Bool.or_eq_true]
  right
  split
  · rename_i d e
    rw [allFzs_eq, List.all_eq_true] at h
    exact h d (List.mem_of_getElem? e)
  · rfl
section
variable {C : Cf} {k kl : Nat} {N : List Str} {sc : Scope} {st : List Str} {f : Addr} {fd : FuncData} {ps : List Str} {ies : List Ex}
/-- the reading of a pure call -/
theorem call_tail {W : WX} {j np : Nat} {σ : L2.St} {H : Hp} {Q : VK} (hnp : ∀ ds, (∃ ρ, evs C.Φ C.gv ies ρ = .ok ds) → ds.length = np) (h : tE C (.call j ies) W σ H Q) : tCallG (spF C j np []) W (tEs C ies W) σ H Q := by
  obtain ⟨B, F0, Lk, ρ, tv, td, h, w⟩ := h
  simp only [ev] at w
  refine gos h (fun _ z => z) w fun ds vs H1 he hl h1 w1 => ?_
  have w1 := w1
  unfold callD at w1
  have w2 := w1.bind
  by_cases hv : noVws ds = true
  · have hfz := fzDs_allFzs ds hv
    rw [anyFzs_fzDs ds hv] at w2
    obtain ⟨F1, i1, i2⟩ := (h1.frzn hl).into2 (by rw [hl, fzDs_eq, List.length_map]) hfz
    refine ⟨by rw [hl]; exact hnp ds ⟨ρ, he⟩, H1, F1, fzDs ds, by rw [hl, fzDs_eq, List.length_map], argsOk_all hfz, allFzs_noVws _ hfz, i1, w2.mono (fun x hx H' h' cls dx er => ?_) fun r hr hw v H' h' _ => ?_⟩
    · exact hx H' ((h1.popn hl).keep h'.kb h'.tb) cls dx er
    · rw [if_pos hv] at hw
      refine hw v H' (i2 H' v r.1 ?_)
      exact Holds.ex1 h'
  · have hfz := anyFzs_all ds
    refine ⟨by rw [hl]; exact hnp ds ⟨ρ, he⟩, H1, _, anyFzs ds, by rw [hl, anyFzs_len], argsOk_all hfz, allFzs_noVws _ hfz, h1.into hl, w2.mono (fun x hx H' h' cls dx er => ?_) fun r hr hw v H' h' _ => ?_⟩
    · exact hx H' ((h1.popn hl).keep h'.kb h'.tb) cls dx er
    · rw [if_neg hv] at hw
      exact hw v H' ((h1.popn hl).back (Holds.ex1 h'))
end
end Pu

set_option Elab.async false
set_option linter.all false
set_option maxRecDepth 100000
set_option maxHeartbeats 1000000
/-! Pu8: calls, new objects, fields as expressions. -/
namespace Pu
open PySem PySem.Spec PyProof.Rows L2
section
variable {G : Gb} {B Lk H H' : Hp} {F0 : Addr → Prop} {σ : L2.St} {ρ : List (Option D)} {tv : List V} {td : List D} {vs : List V} {ds : List D} {v : V} {d : D}
/-- a callee over the ground Bc, which may hold more than what stood -/
theorem Holds.into3 (h : Holds G B F0 Lk σ ρ (vs ++ tv) (ds ++ td) H) (e : vs.length = ds.length) (hf : allFzs ds = true) :
    ∃ F1 : Addr → Prop, (∀ a, F1 a → H a ≠ none) ∧ Owns G.K G.cl H F1 vs ds [] ∧ ∀ Bc H' tv' td', Keep H Bc → Holds G Bc F1 noH [] [] tv' td' H' → Holds G B F0 Lk σ ρ (tv' ++ tv) (td' ++ td) H' := by
  obtain ⟨⟨f1, f2, a, b, n, q⟩, kb, kl, tb⟩ := h
  obtain ⟨g1, g2, b1, b2, rfl⟩ := b.split e
  have z := b1.fp_nil hf
  subst z
  refine ⟨fun a => Fzp B F0 (f1 ++ ([] ++ g2)) a ∧ H a ≠ none, fun a z => z.2, b1.keep (Keep.refl _) fun a ha z => ⟨z, ha⟩, ?_⟩
  intro Bc H' tv' td' kc h'
  obtain ⟨⟨e1, e2, a', b', n', q'⟩, kb', kl', tb'⟩ := h'
  have z1 : e1 = [] := by cases a'; rfl
  subst z1
  simp only [List.nil_append] at *
  have kH := kc.trans kb'
  have new : ∀ p ∈ e2, p ∉ f1 ++ g2 := fun p hp hm => by
    have hn := kc.none (q' p hp)
    rcases List.mem_append.mp hm with m | m
    · exact (a.mut p m).2 hn
    · exact (b2.mut p m).2 hn
  have pm : (f1 ++ (e2 ++ g2)).Perm (e2 ++ (f1 ++ g2)) := by
    rw [← List.append_assoc, ← List.append_assoc]
    exact (List.perm_append_comm).append_right g2
  have mono : ∀ a, H a ≠ none → Fzp B F0 (f1 ++ g2) a → Fzp B F0 (f1 ++ (e2 ++ g2)) a := fun a ha z => ⟨z.1, fun m => by
    rcases List.mem_append.mp (pm.subset m) with m | m
    · exact ha (kc.none (q' a m))
    · exact z.2 m⟩
  have mono2 : ∀ x, H' x ≠ none → Fzp Bc (fun a => Fzp B F0 (f1 ++ g2) a ∧ H a ≠ none) e2 x → Fzp B F0 (f1 ++ (e2 ++ g2)) x := fun x _ z => by
    rcases z with ⟨z | z, zn⟩
    · exact ⟨z.1.1, fun m => by
        rcases List.mem_append.mp (pm.subset m) with m | m
        · exact zn m
        · exact z.1.2 m⟩
    · refine ⟨.inr (kb.none (kc.none z)), fun m => ?_⟩
      rcases List.mem_append.mp (pm.subset m) with m | m
      · exact zn m
      · rcases List.mem_append.mp m with m | m
        · exact (a.mut x m).2 (kc.none z)
        · exact (b2.mut x m).2 (kc.none z)
  refine ⟨⟨f1, e2 ++ g2, a.keep kH mono, (b'.keep (Keep.refl _) mono2).append (b2.keep kH mono), ?_, fun p hp => ?_⟩, kb.trans kH, kl.trans kH, tb'⟩
  · rw [pm.nodup_iff]
    exact List.nodup_append.mpr ⟨n', n, fun p hp r hr e => new p hp (e ▸ hr)⟩
  · rcases List.mem_append.mp (pm.subset hp) with m | m
    · exact kb.none (kc.none (q' p m))
    · exact q p m
/-- .. where all that stands is settled for the callee -/
theorem Holds.into4 (h : Holds G B F0 Lk σ ρ (vs ++ tv) (ds ++ td) H) (e : vs.length = ds.length) :
    Owns G.K G.cl H (fun a => H a ≠ none) vs (anyFzs ds) [] ∧ ∀ Bc H' tv' td', Keep H Bc → Holds G Bc (fun a => H a ≠ none) noH [] [] tv' td' H' → Holds G B F0 Lk σ ρ (tv' ++ tv) (vaDs td' ++ td) H' := by
  refine ⟨?_, ?_⟩
  · obtain ⟨⟨f1, f2, a, b, n, q⟩, kb, kl, tb⟩ := h
    obtain ⟨g1, g2, b1, b2, rfl⟩ := b.split e
    exact Owns.any b1
  · have h0 := h.popn e
    obtain ⟨⟨f1, g2, a, b2, n, q⟩, kb, kl, tb⟩ := h0
    intro Bc H' tv' td' kc h'
    obtain ⟨⟨e1, e2, a', b', n', q'⟩, kb', kl', tb'⟩ := h'
    have z1 : e1 = [] := by cases a'; rfl
    subst z1
    simp only [List.nil_append] at *
    have kH := kc.trans kb'
    have new : ∀ p ∈ e2, p ∉ f1 ++ g2 := fun p hp hm => by
      have hn := kc.none (q' p hp)
      rcases List.mem_append.mp hm with m | m
      · exact (a.mut p m).2 hn
      · exact (b2.mut p m).2 hn
    have pm : (f1 ++ (e2 ++ g2)).Perm (e2 ++ (f1 ++ g2)) := by
      rw [← List.append_assoc, ← List.append_assoc]
      exact (List.perm_append_comm).append_right g2
    have mono : ∀ a, H a ≠ none → Fzp B F0 (f1 ++ g2) a → Fzp B F0 (f1 ++ (e2 ++ g2)) a := fun a ha z => ⟨z.1, fun m => by
      rcases List.mem_append.mp (pm.subset m) with m | m
      · exact ha (kc.none (q' a m))
      · exact z.2 m⟩
    refine ⟨⟨f1, e2 ++ g2, a.keep kH mono, (Owns.va (Fz' := Fzp B F0 (f1 ++ (e2 ++ g2))) b').append (b2.keep kH mono), ?_, fun p hp => ?_⟩, kb.trans kH, kl.trans kH, tb'⟩
    · rw [pm.nodup_iff]
      exact List.nodup_append.mpr ⟨n', n, fun p hp r hr e => new p hp (e ▸ hr)⟩
    · rcases List.mem_append.mp (pm.subset hp) with m | m
      · exact kb.none (kc.none (q' p m))
      · exact q p m
end
section
variable {C : Cf} {k kl : Nat} {N : List Str} {sc : Scope} {st : List Str} {f : Addr} {fd : FuncData} {ps : List Str} {a e : Expr} {es : List Expr} {ia ie : Ex} {ies : List Ex} {pos : Pos}
theorem evs_len {Φ : Nat → List D → Out (D × List D)} {gv : Nat → D} : ∀ {ies : List Ex} {ρ : List (Option D)} {ds : List D}, evs Φ gv ies ρ = .ok ds → ds.length = ies.length
  | [], _, _, h => by simp only [evs, Out.ok.injEq] at h; subst h; rfl
  | i :: ies, ρ, ds, h => by
    simp only [evs] at h
    cases h1 : ev Φ gv i ρ with
    | ok x =>
      rw [h1, Out.bind_ok] at h
      cases h2 : evs Φ gv ies ρ with
      | ok xs =>
        rw [h2, Out.bind_ok, Out.ok.injEq] at h
        subst h
        rw [List.length_cons, List.length_cons, evs_len h2]
      | exc _ => rw [h2] at h; cases h
      | bad => rw [h2] at h; cases h
    | exc _ => rw [h1] at h; cases h
    | bad => rw [h1] at h; cases h
theorem s_call {x : Str} {p : Pos} {j : Nat} (F : FnG C kl f fd ps (spF C j ies.length [])) (hk : kl ≤ k) (hb : Binds C.G.K fd ps []) (hg : sc.names.lookup x = some .globalImplicit) (hm : C.mg x = some (.ref f)) (hkp : PySem.W.keepIn C.G.K (.ref f) = true)
    (hd : (x == ("__debug__" : Str)) = false) (hn : (e :: es).all nst = true) (h : SEs C k N sc st (e :: es) ies) : SE C k N sc st (.Call (.Name x p) (e :: es) [] pos) (.call j ies) := fun X W hX =>
  PE.imp (pe_callG hX F hk hb hg hm hkp hd hn (h X W hX)) fun σ H Q h => call_tail (fun ds ⟨ρ, q⟩ => evs_len q) h
theorem s_call0 {x : Str} {p : Pos} {j : Nat} (F : FnG C kl f fd ps (spF C j 0 [])) (hk : kl ≤ k) (hb : Binds C.G.K fd ps []) (hg : sc.names.lookup x = some .globalImplicit) (hm : C.mg x = some (.ref f)) (hkp : PySem.W.keepIn C.G.K (.ref f) = true)
    (hd : (x == ("__debug__" : Str)) = false) : SE C k N sc st (.Call (.Name x p) [] [] pos) (.call j []) := fun X W hX =>
  PE.imp (pe_callG0 hX F hk hb hg hm hkp hd) fun σ H Q h => by
    have q := call_tail (np := 0) (fun ds ⟨ρ, q⟩ => by simpa using evs_len q) h
    obtain ⟨B, F0, Lk, ρ, tv, td, h0, w⟩ := q
    exact w [] H rfl h0
theorem lkp_zip {fl : Str} {d : D} : ∀ (fvs : List (Str × V)) (ns : List Str) (xs : List D), fvs.map (·.1) = ns → ns.length = xs.length → (ns.zip xs).lookup fl = some d → ∃ i : Nat, xs[i]? = some d ∧ ∀ v, (fvs.map (·.2))[i]? = some v → fvs.lookup fl = some v
  | [], ns, xs, e2, _, hd => by subst e2; simp at hd
  | q :: r, ns, [], e2, e3, hd => by subst e2; simp at e3
  | q :: r, ns, y :: ys, e2, e3, hd => by
    subst e2
    simp only [List.map_cons, List.zip_cons_cons, List.lookup_cons] at hd
    cases hq : fl == q.1 with
    | true =>
      rw [hq] at hd
      simp only [Option.some.injEq] at hd
      refine ⟨0, by rw [hd]; rfl, fun v hv => ?_⟩
      simp only [List.map_cons, List.getElem?_cons_zero, Option.some.injEq] at hv
      rw [List.lookup_cons, hq, hv]
    | false =>
      rw [hq] at hd
      obtain ⟨i, h1, h2⟩ := lkp_zip r _ ys rfl (by simpa using e3) hd
      exact ⟨i + 1, by simpa using h1, fun v hv => by rw [List.lookup_cons, hq]; exact h2 v (by simpa using hv)⟩
theorem s_fld {fl : Str} (hc : ∀ c, L2.Cls C.G.K (C.G.cl c)) (hf : ∀ c, L2.NoAttr C.G.K (C.G.cl c) fl) (hb : ∀ env, attributeBase a fl env (eval a env) = eval a env) (h : SE C k N sc st a ia) : SE C k N sc st (.Attribute a fl pos) (.fld ia fl) := fun X W hX =>
  PE.imp (pe_fld (h X W hX) (hb _)) fun σ H Q ⟨B, F0, Lk, ρ, tv, td, h, w⟩ => by
    simp only [ev] at w
    refine go1 h (fun _ z => z) w fun x v H1 hx h1 w1 => ?_
    clear hx
    cases x <;> first | exact w1.elim | skip
    rename_i fg c ns xs
    obtain ⟨p, dx, fvs, rfl, e1, e2, e3, h2⟩ := h1.openO
    simp only [fldD] at w1
    split at w1
    · rename_i d hd
      obtain ⟨i, hi, hv⟩ := lkp_zip fvs ns xs e2.symm (by rw [e2, List.length_map, e3]) hd
      obtain ⟨v, hv1, h3⟩ := h2.pick (by rw [List.length_map, e3]) hi
      rw [hX.eK]
      exact ⟨p, _, dx, fvs, v, rfl, e1, hc c, hf c, hv v hv1, w1 _ _ h3⟩
    · exact w1.elim
/-! ### new objects -/
/-- X(e, ..) by values -/
def tMakeG (cA : Addr) (sp : Sp) (W : WX) (t : TA) : TE := fun σ H Q => t σ H fun vs H1 => ∀ x dx, H1 x = none → H1 dx = none → dx ≠ x →
  sp (.ref x :: vs) (upd (upd H1 dx (.own x)) x (.ins cA dx [])) (fun v H2 => v = .non ∧ Q (.ref x) H2) (WE W σ)
theorem pe_makeG {X : Cx} {W : WX} {x : Str} {p : Pos} {cA : Addr} {sp : Sp} {t : TA} (hX : CtxOk C k N sc st X W) (M : L2.Mk C.G.K cA f) (F : FnG C kl f fd ps sp) (hk : kl + 1 ≤ k) (hb : Binds C.G.K fd ps []) (hg : sc.names.lookup x = some .globalImplicit) (hm : C.mg x = some (.ref cA))
    (hd : (x == ("__debug__" : Str)) = false) (hn : (e :: es).all nst = true) (ha : PA X (e :: es) t) : PE X (.Call (.Name x p) (e :: es) [] pos) (tMakeG cA sp W t) := by
  rw [List.all_cons, Bool.and_eq_true] at hn
  refine ⟨fun pins s σ H Q I h => wpAny_Call_Name_kw (ld_glob I (by unfold Gl Env.kindOf; rw [hX.eS]; exact hg) (by rw [hX.eM]; exact hm) ?_ hd)⟩
  refine PySem.W.callWith_K (h₀ := X.base) I.ok.mod.kin (by rw [hX.eK]; exact M.kp) (thn (ha.run pos pins s σ H _ I h) fun us s1 ⟨vs, H1, I1, r, q⟩ => ⟨I1.kIn, ?_⟩) (star_cons hn.1 es X.env) (star_any hn.2)
  have hq := q (s1.heap.objs.size + 1) s1.heap.objs.size (I1.hok.fresh (Nat.le_succ _)) (I1.hok.fresh (Nat.le_refl _)) (Nat.ne_of_lt (Nat.lt_succ_self _))
  have I2 := L2.Inv.made (C := cA) I1
  have r2 : Vals (V.ref (s1.heap.objs.size + 1) :: vs) (Value.ref (s1.heap.objs.size + 1) :: us) := .cons rfl r
  have hl : (Value.ref (s1.heap.objs.size + 1) :: us).length = ps.length := r2.length.symm.trans (F.len _ _ _ _ hq)
  have K2 : C.G.K.In s1.heap := hX.eK ▸ I1.kIn
  have bnd := hb _ (Value.ref (s1.heap.objs.size + 1) :: us) (hX.eK ▸ I2.kIn) (by simpa using hl)
  simp only [List.append_nil] at bnd
  have E0 := I2.env0.make cA us []
  rw [hX.eP, hX.eW, hX.eK, hX.eM, hX.eB] at E0
  have gd : (X.A.under (.builtin "type.__call__" ⟨.ref cA :: us, []⟩)).guards = some [] := by
    have := hX.gd
    simp [Around.under, Code.guards, Code.isGuard, pushGuards, this, guardIds]
  have c := F.run (X.A.under (.builtin "type.__call__" ⟨.ref cA :: us, []⟩)) X.stack _ _ _ _ _ _ ((hX.room.mono hk).make cA us []) gd E0 bnd r2 hq
  rw [hX.eP, hX.eW]
  refine wpAny_call (make_map (f := f) K2 M.makes M.init (beq_iff_eq.mp M.fn) (codeAny_mono c fun r s' hq' => ?_))
  rcases r with e | fl
  · have p := passAt hX.takes σ
    rw [hX.eP, hX.eW] at p
    exact p pins _ _ e s' I2 hq'
  · cases fl with
    | ret u =>
      have q2 := I2.after (show CE X.stack X.prog X.w _ _ _ u s' by rw [hX.eP, hX.eW]; exact hq')
      obtain ⟨v, H', I3, rv, ev, q3⟩ := q2
      subst ev
      exact ⟨rv, ⟨V.ref (s1.heap.objs.size + 1), H', I3, rfl, q3⟩⟩
    | next => exact hq'.elim
    | brk => exact hq'.elim
    | cont => exact hq'.elim
theorem s_mk {x : Str} {p : Pos} {c j : Nat} (M : L2.Mk C.G.K (C.G.cl c) f) (F : FnG C kl f fd ps (spF C j (ies.length + 1) [0])) (hk : kl + 1 ≤ k) (hb : Binds C.G.K fd ps []) (hg : sc.names.lookup x = some .globalImplicit) (hm : C.mg x = some (.ref (C.G.cl c)))
    (hd : (x == ("__debug__" : Str)) = false) (hn : (e :: es).all nst = true) (h : SEs C k N sc st (e :: es) ies) : SE C k N sc st (.Call (.Name x p) (e :: es) [] pos) (.mk c j ies) := fun X W hX =>
  PE.imp (pe_makeG hX M F hk hb hg hm hd hn (h X W hX)) fun σ H Q ⟨B, F0, Lk, ρ, tv, td, h, w⟩ => by
    simp only [ev] at w
    refine gos h (fun _ z => z) w fun ds vs H1 he hl h1 w1 => ?_
    have w2 := w1.bind
    intro o dx no ndx ne
    have kx : Keep H1 (upd H1 dx (.own o)) := Keep.new ndx
    have no' : (upd H1 dx (.own o)) o = none := by rw [upd_ne ne.symm]; exact no
    have ko := Keep.new (o := HO.ins (C.G.cl c) dx []) no'
    -- both ways: what the callee sees, and what comes back
    suffices key : ∀ (F1 : Addr → Prop) (es : List D), vs.length = es.length → allFzs es = true → Owns C.G.K C.G.cl H1 F1 vs es [] → es = anyFzs ds → (∀ Bc H' tv' td', Keep H1 Bc → Holds C.G Bc F1 noH [] [] tv' td' H' → ∀ d, td' = [.non, d] → Holds C.G B F0 Lk σ ρ (tv' ++ tv) ([.non, if noVws ds = true then d else vaD d] ++ td) H') →
        spF C j (ies.length + 1) [0] (.ref o :: vs) (upd (upd H1 dx (.own o)) o (.ins (C.G.cl c) dx [])) (fun v H2 => v = .non ∧ Q (.ref o) H2) (WE W σ) by
      by_cases hv : noVws ds = true
      · have hfz := fzDs_allFzs ds hv
        have hlf : vs.length = (fzDs ds).length := by rw [hl, fzDs_eq, List.length_map]
        obtain ⟨F1, i0, i1, i2⟩ := (h1.frzn hl).into3 hlf hfz
        exact key F1 (fzDs ds) hlf hfz i1 (anyFzs_fzDs ds hv).symm fun Bc H' tv' td' kc h' d ed => by
          subst ed
          rw [if_pos hv]
          exact i2 Bc H' tv' _ kc h'
      · obtain ⟨i1, i2⟩ := h1.into4 hl
        exact key _ (anyFzs ds) (by rw [hl, anyFzs_len]) (anyFzs_all ds) i1 rfl fun Bc H' tv' td' kc h' d ed => by
          subst ed
          rw [if_neg hv]
          exact i2 Bc H' tv' _ kc h'
    intro F1 es hlf hfz i1 ees i2
    rw [← ees] at w2
    refine ⟨by rw [List.length_cons, hl, evs_len he], upd H1 dx (.own o), F1, .obj .ow c [] [] :: es, by rw [List.length_cons, List.length_cons, hlf], ?_, ?_, ⟨⟨[], [o] ++ [], .nil, ?_, by simp, ?_⟩, ko, Keep.noH _, ?_⟩, ?_⟩
    · unfold argsOk
      rw [List.all_eq_true]
      intro i hi
      rw [Bool.or_eq_true]
      cases i with
      | zero => left; rfl
      | succ i =>
        right
        rw [List.getElem?_cons_succ]
        split
        · rename_i d hd2
          rw [allFzs_eq, List.all_eq_true] at hfz
          exact hfz d (List.mem_of_getElem? hd2)
        · rfl
    · simp only [noVws, noVw, Bool.and_eq_true, decide_eq_true_eq]
      exact ⟨⟨(fun z => by cases z), trivial⟩, allFzs_noVws _ hfz⟩
    · refine Owns.cons (f1 := [o] ++ []) (f2 := []) (.obj (NO.ow (fvs := []) upd_same) .nil) ?_
      refine (i1.keep (Fz' := Fzp (upd H1 dx (.own o)) F1 ([] ++ ([o] ++ []))) (kx.trans ko) fun a ha z => ⟨.inl z, fun m => ?_⟩)
      have : a = o := by simpa using m
      exact ha (this ▸ no)
    · intro p hp
      have : p = o := by simpa using hp
      rw [this]
      exact no'
    · exact (h1.tb.new ndx).new no'
    · refine w2.mono (fun z hz H' h' cls dx2 er => ?_) fun r hr hw v H' h' hnv => ?_
      · refine hz H' ?_ cls dx2 er
        exact ((h1.popn hl).keep (kx.trans h'.kb) h'.tb)
      · obtain ⟨d, ms⟩ := r
        cases d <;> first | exact hw.elim | skip
        cases ms with
        | nil => exact hw.elim
        | cons o1 rs =>
          cases rs with
          | cons _ _ => exact hw.elim
          | nil =>
            obtain ⟨_, _, ov⟩ := Holds.top h'
            refine ⟨ov.inv_non, ?_⟩
            have h2 := i2 _ H' _ _ kx h' o1 rfl
            dsimp only at hw
            by_cases hv : noVws ds = true
            · rw [if_pos hv] at hw h2
              exact hw _ H' (Holds.pop h2)
            · rw [if_neg hv] at hw h2
              exact hw _ H' (Holds.pop h2)
end
end Pu

set_option Elab.async false
set_option linter.all false
set_option maxRecDepth 100000
set_option maxHeartbeats 1000000
/-! Pu9: what is walked. -/
namespace Pu
open PySem PySem.Spec PyProof.Rows L2
mutual
def noOw : D → Bool
  | .tup xs => noOws xs | .lst f xs => decide (f ≠ .ow) && noOws xs | .obj f _ _ xs => decide (f ≠ .ow) && noOws xs | .dct f _ xs => decide (f ≠ .ow) && noOws xs
  | _ => true
def noOws : List D → Bool
  | [] => true
  | x :: xs => noOw x && noOws xs
end
theorem fzd_ow (f : Fl) : f.fzd ≠ .ow := by cases f <;> exact fun z => by cases z
mutual
theorem fzD_noOw : ∀ d : D, noOw (fzD d) = true
  | .non => rfl | .bl _ => rfl | .int _ => rfl | .str _ => rfl
  | .tup xs => by simp only [noOw, fzD]; exact fzDs_noOws xs
  | .lst f xs => by simp only [noOw, fzD, Bool.and_eq_true, decide_eq_true_eq]; exact ⟨fzd_ow f, fzDs_noOws xs⟩
  | .obj f c ns xs => by simp only [noOw, fzD, Bool.and_eq_true, decide_eq_true_eq]; exact ⟨fzd_ow f, fzDs_noOws xs⟩
  | .dct f ks xs => by simp only [noOw, fzD, Bool.and_eq_true, decide_eq_true_eq]; exact ⟨fzd_ow f, fzDs_noOws xs⟩
theorem fzDs_noOws : ∀ ds : List D, noOws (fzDs ds) = true
  | [] => rfl
  | d :: ds => by simp only [noOws, fzDs, Bool.and_eq_true]; exact ⟨fzD_noOw d, fzDs_noOws ds⟩
end
mutual
theorem noVw_fzD : ∀ d : D, noVw d = true → noVw (fzD d) = true := fun d h => allFz_noVw _ (fzD_allFz d h)
end
theorem noVws_fzDs (ds : List D) (h : noVws ds = true) : noVws (fzDs ds) = true := allFzs_noVws _ (fzDs_allFzs ds h)
section
variable {K : PySem.W.Frag} {cl : Nat → Addr} {H : Hp} {Fz : Addr → Prop}
mutual
theorem Own.fp0 : ∀ {d : D} {v : V} {fp : List Addr}, Own K cl H Fz v d fp → noOw d = true → fp = []
  | .non, _, _, h, _ => by cases h; rfl
  | .bl _, _, _, h, _ => by cases h; rfl
  | .int _, _, _, h, _ => by cases h; rfl
  | .str _, _, _, h, _ => by cases h; rfl
  | .tup ds, _, _, h, e => by cases h with | tup a b => exact Owns.fp0 b e
  | .lst f ds, _, _, h, e => by
    cases h with
    | lst a b =>
      simp only [noOw, Bool.and_eq_true, decide_eq_true_eq] at e
      rw [Owns.fp0 b e.2]
      cases a <;> first | rfl | exact absurd rfl e.1
  | .obj f c ns ds, _, _, h, e => by
    cases h with
    | obj a b =>
      simp only [noOw, Bool.and_eq_true, decide_eq_true_eq] at e
      rw [Owns.fp0 b e.2]
      cases a <;> first | rfl | exact absurd rfl e.1
  | .dct f ks ds, _, _, h, e => by
    cases h with
    | dct a b =>
      simp only [noOw, Bool.and_eq_true, decide_eq_true_eq] at e
      rw [Owns.fp0 b e.2]
      cases a <;> first | rfl | exact absurd rfl e.1
theorem Owns.fp0 : ∀ {ds : List D} {vs : List V} {fp : List Addr}, Owns K cl H Fz vs ds fp → noOws ds = true → fp = []
  | [], _, _, h, _ => by cases h; rfl
  | d :: ds, _, _, h, e => by
    cases h with
    | cons a b =>
      simp only [noOws, Bool.and_eq_true] at e
      rw [Own.fp0 a e.1, Owns.fp0 b e.2]
      rfl
end
end
section
variable {G : Gb} {B Lk H H' : Hp} {F0 : Addr → Prop} {σ : L2.St} {ρ : List (Option D)} {tv : List V} {td : List D} {rv : List V} {rd : List D} {v : V} {d : D}
/-- what owns nothing may be held twice -/
theorem Holds.dups (h : Holds G B F0 Lk σ ρ (rv ++ tv) (rd ++ td) H) (e : rv.length = rd.length) (n : noOws rd = true) : Holds G B F0 Lk σ ρ (rv ++ (rv ++ tv)) (rd ++ (rd ++ td)) H :=
  h.re (Keep.refl _) h.tb fun Fz f2 b => by
    obtain ⟨g1, g2, q1, q2, rfl⟩ := b.split e
    have z := q1.fp0 n
    subst z
    exact ⟨[] ++ ([] ++ g2), Sb.refl _, fun Fz' m _ => (q1.keep (Keep.refl _) m).append ((q1.keep (Keep.refl _) m).append (q2.keep (Keep.refl _) m))⟩
/-- item i of the top ones, put on top of all -/
theorem Holds.pickOf {vs : List V} {xs : List D} {i : Nat} (h : Holds G B F0 Lk σ ρ (vs ++ tv) (xs ++ td) H) (e : vs.length = xs.length) (hx : xs[i]? = some d) (hv : vs[i]? = some v) : Holds G B F0 Lk σ ρ (v :: tv) (d :: td) H := by
  obtain ⟨v', e', h'⟩ := h.pick e hx
  rw [hv] at e'
  cases e'
  exact h'

/-- the walk J, with the roots rv (seen as rd), brings the items xs -/
structure Wk (G : Gb) (J : L2.It) (rv : List V) (rd : List D) (xs : List D) : Prop where
  len : rv.length = rd.length
  now : noOws rd = true
  go : ∀ {B Lk H F0 σ ρ tv td} (i : Nat), Holds G B F0 Lk σ ρ (rv ++ tv) (rd ++ td) H → i < xs.length → J.go i H
  stop : ∀ {B Lk H F0 σ ρ tv td}, Holds G B F0 Lk σ ρ (rv ++ tv) (rd ++ td) H → J.stop xs.length H
  yld : ∀ {B Lk H H' F0 σ ρ tv td} {i : Nat} {d : D} {v : V}, Holds G B F0 Lk σ ρ (rv ++ tv) (rd ++ td) H → xs[i]? = some d → J.yld i H v H' → Holds G B F0 Lk σ ρ (v :: (rv ++ tv)) (d :: (rd ++ td)) H'
theorem lt_get {α : Type} {xs : List α} {i : Nat} (h : i < xs.length) : ∃ x, xs[i]? = some x := ⟨xs[i], List.getElem?_eq_getElem h⟩
theorem Wk.lst {a : Addr} {f : Fl} {ys : List D} (n : noOws [.lst f ys] = true) : Wk G (Itl G.K a) [.ref a] [.lst f ys] ys where
  len := rfl
  now := n
  go := fun i h hi => by
    obtain ⟨a', vs, e, q, l, _⟩ := h.openL
    cases e
    obtain ⟨x, hx⟩ := lt_get (l ▸ hi)
    exact ⟨vs, x, q, hx⟩
  stop := fun h => by
    obtain ⟨a', vs, e, q, l, _⟩ := h.openL
    cases e
    exact ⟨vs, q, Nat.le_of_eq l⟩
  yld := fun {B Lk H H' F0 σ ρ tv td i d v} h hx hy => by
    obtain ⟨e, hy⟩ := hy
    subst e
    obtain ⟨a', vs, e, q, l, h2⟩ := (h.dups (rv := [.ref a]) (rd := [.lst f ys]) rfl n).openL
    cases e
    exact h2.pickOf l hx (hy _ q)
theorem Wk.tup {a : Addr} {ys : List D} (n : noOws [.tup ys] = true) : Wk G (Itt G.K a) [.ref a] [.tup ys] ys where
  len := rfl
  now := n
  go := fun i h hi => by
    obtain ⟨a', vs, e, q, l, _⟩ := h.openT
    cases e
    obtain ⟨x, hx⟩ := lt_get (l ▸ hi)
    exact ⟨vs, x, q, hx⟩
  stop := fun h => by
    obtain ⟨a', vs, e, q, l, _⟩ := h.openT
    cases e
    exact ⟨vs, q, Nat.le_of_eq l⟩
  yld := fun {B Lk H H' F0 σ ρ tv td i d v} h hx hy => by
    obtain ⟨e, hy⟩ := hy
    subst e
    obtain ⟨a', vs, e, q, l, h2⟩ := (h.dups (rv := [.ref a]) (rd := [.tup ys]) rfl n).openT
    cases e
    exact h2.pickOf l hx (hy _ q)
theorem Wk.str {x : Str} : Wk G (Its x) [] [] (x.cps.toList.map fun c => .str ⟨#[c]⟩) where
  len := rfl
  now := rfl
  go := fun i _ hi => by simpa [Its] using hi
  stop := fun _ => by simp [Its]
  yld := fun {B Lk H H' F0 σ ρ tv td i d v} h hx hy => by
    obtain ⟨e, c, hc, hv⟩ := hy
    subst e hv
    have hd : d = .str ⟨#[c]⟩ := by
      simp only [List.getElem?_map, Array.getElem?_toList, hc, Option.map_some, Option.some.injEq] at hx
      exact hx.symm
    subst hd
    exact h.push fun _ => .str _
theorem intsFrom_len : ∀ (n : Nat) (lo : Int), (intsFrom lo n).length = n
  | 0, _ => rfl
  | n + 1, lo => by rw [intsFrom, List.length_cons, intsFrom_len n]
theorem intsFrom_get : ∀ (n : Nat) (lo : Int) (i : Nat), i < n → (intsFrom lo n)[i]? = some (.int (lo + (i : Nat)))
  | 0, _, i, h => absurd h (Nat.not_lt_zero i)
  | n + 1, lo, 0, _ => by simp [intsFrom]
  | n + 1, lo, i + 1, h => by
    rw [intsFrom, List.getElem?_cons_succ, intsFrom_get n (lo + 1) i (Nat.lt_of_succ_lt_succ h)]
    congr 2
    omega
theorem Wk.rng {lo : Int} {n : Nat} : Wk G (Itr lo n) [] [] (intsFrom lo n) where
  len := rfl
  now := rfl
  go := fun i _ hi => by rw [intsFrom_len] at hi; exact hi
  stop := fun _ => by rw [intsFrom_len]; exact Nat.le_refl _
  yld := fun {B Lk H H' F0 σ ρ tv td i d v} h hx hy => by
    obtain ⟨e, hv⟩ := hy
    subst e hv
    have hl : i < n := by
      have := (List.getElem?_eq_some_iff.mp hx).1
      rwa [intsFrom_len] at this
    rw [intsFrom_get n lo i hl] at hx
    cases hx
    exact h.push fun _ => .int _
theorem Wk.rev {a : Addr} {f : Fl} {ys : List D} (n : noOws [.lst f ys] = true) : Wk G (Itv G.K a ys.length) [.ref a] [.lst f ys] ys.reverse where
  len := rfl
  now := n
  go := fun i h hi => by
    obtain ⟨a', vs, e, q, l, _⟩ := h.openL
    cases e
    rw [List.length_reverse] at hi
    obtain ⟨x, hx⟩ := lt_get (xs := vs) (i := ys.length - 1 - i) (by omega)
    exact ⟨hi, vs, x, q, hx⟩
  stop := fun h => by rw [List.length_reverse]; exact Nat.le_refl _
  yld := fun {B Lk H H' F0 σ ρ tv td i d v} h hx hy => by
    obtain ⟨e, hy⟩ := hy
    subst e
    obtain ⟨a', vs, e, q, l, h2⟩ := (h.dups (rv := [.ref a]) (rd := [.lst f ys]) rfl n).openL
    cases e
    have hl := (List.getElem?_eq_some_iff.mp hx).1
    rw [List.length_reverse] at hl
    rw [List.getElem?_reverse hl] at hx
    exact h2.pickOf l hx (hy _ q)
theorem Wk.revT {a : Addr} {ys : List D} (n : noOws [.tup ys] = true) : Wk G (RT.ItvT G.K a ys.length) [.ref a] [.tup ys] ys.reverse where
  len := rfl
  now := n
  go := fun i h hi => by
    obtain ⟨a', vs, e, q, l, _⟩ := h.openT
    cases e
    rw [List.length_reverse] at hi
    obtain ⟨x, hx⟩ := lt_get (xs := vs) (i := ys.length - 1 - i) (by omega)
    exact ⟨hi, vs, x, q, hx⟩
  stop := fun h => by rw [List.length_reverse]; exact Nat.le_refl _
  yld := fun {B Lk H H' F0 σ ρ tv td i d v} h hx hy => by
    obtain ⟨e, hy⟩ := hy
    subst e
    obtain ⟨a', vs, e, q, l, h2⟩ := (h.dups (rv := [.ref a]) (rd := [.tup ys]) rfl n).openT
    cases e
    have hl := (List.getElem?_eq_some_iff.mp hx).1
    rw [List.length_reverse] at hl
    rw [List.getElem?_reverse hl] at hx
    exact h2.pickOf l hx (hy _ q)
theorem enumL_len : ∀ (xs : List D) (k : Nat), (enumL k xs).length = xs.length
  | [], _ => rfl
  | x :: xs, k => by rw [enumL, List.length_cons, List.length_cons, enumL_len xs]
theorem enumL_get : ∀ (xs : List D) (k i : Nat) {x : D}, xs[i]? = some x → (enumL k xs)[i]? = some (.tup [.int ((k + i : Nat) : Int), x])
  | [], _, i, _, h => by simp at h
  | y :: ys, k, 0, x, h => by
    simp only [List.getElem?_cons_zero, Option.some.injEq] at h
    subst h
    simp [enumL]
  | y :: ys, k, i + 1, x, h => by
    rw [enumL, List.getElem?_cons_succ, enumL_get ys (k + 1) i (by simpa using h)]
    congr 5
    omega
theorem Wk.enum {a : Addr} {f : Fl} {ys : List D} (n : noOws [.lst f ys] = true) : Wk G (Ite G.K a) [.ref a] [.lst f ys] (enumL 0 ys) where
  len := rfl
  now := n
  go := fun i h hi => by
    obtain ⟨a', vs, e, q, l, _⟩ := h.openL
    cases e
    rw [enumL_len] at hi
    obtain ⟨x, hx⟩ := lt_get (l ▸ hi)
    exact ⟨vs, x, q, hx⟩
  stop := fun h => by
    obtain ⟨a', vs, e, q, l, _⟩ := h.openL
    cases e
    rw [enumL_len]
    exact ⟨vs, q, Nat.le_of_eq l⟩
  yld := fun {B Lk H H' F0 σ ρ tv td i d v} h hx hy => by
    obtain ⟨T, x, rfl, hT, rfl, hy⟩ := hy
    obtain ⟨a', vs, e, q, l, h2⟩ := (h.dups (rv := [.ref a]) (rd := [.lst f ys]) rfl n).openL
    cases e
    have hl := (List.getElem?_eq_some_iff.mp hx).1
    rw [enumL_len] at hl
    obtain ⟨y, hy'⟩ := lt_get hl
    rw [enumL_get ys 0 i hy'] at hx
    cases hx
    rw [Nat.zero_add]
    have h3 := (h2.pickOf l hy' (hy _ q)).push (v := .int (i : Nat)) (d := .int (i : Nat)) fun _ => .int _
    exact Holds.newTup (vs := [.int (i : Nat), x]) (ds := [.int (i : Nat), y]) h3 rfl hT
theorem zip2L_len : ∀ (xs ys : List D), (zip2L xs ys).length = min xs.length ys.length
  | [], ys => by simp [zip2L]
  | x :: xs, [] => by simp [zip2L]
  | x :: xs, y :: ys => by rw [zip2L, List.length_cons, List.length_cons, List.length_cons, zip2L_len xs ys]; omega
theorem zip2L_get : ∀ (xs ys : List D) (i : Nat) {x y : D}, xs[i]? = some x → ys[i]? = some y → (zip2L xs ys)[i]? = some (.tup [x, y])
  | [], _, i, _, _, h, _ => by simp at h
  | x :: xs, [], i, _, _, _, h => by simp at h
  | x :: xs, y :: ys, 0, _, _, h, h2 => by
    simp only [List.getElem?_cons_zero, Option.some.injEq] at h h2
    subst h h2
    simp [zip2L]
  | x :: xs, y :: ys, i + 1, _, _, h, h2 => by
    rw [zip2L, List.getElem?_cons_succ]
    exact zip2L_get xs ys i (by simpa using h) (by simpa using h2)
theorem Wk.zipL {a b : Addr} {f g : Fl} {xs ys : List D} (n : noOws [.lst f xs, .lst g ys] = true) : Wk G (Itz G.K a b) [.ref a, .ref b] [.lst f xs, .lst g ys] (zip2L xs ys) where
  len := rfl
  now := n
  go := fun i h hi => by
    obtain ⟨a', vs, e, q, l, _⟩ := Holds.openL h
    cases e
    obtain ⟨b', ws, e, q2, l2, _⟩ := Holds.openL (Holds.pop h)
    cases e
    rw [zip2L_len] at hi
    obtain ⟨x, hx⟩ := lt_get (xs := vs) (i := i) (by omega)
    obtain ⟨y, hy⟩ := lt_get (xs := ws) (i := i) (by omega)
    exact ⟨vs, ws, x, y, q, q2, hx, hy⟩
  stop := fun h => by
    obtain ⟨a', vs, e, q, l, _⟩ := Holds.openL h
    cases e
    obtain ⟨b', ws, e, q2, l2, _⟩ := Holds.openL (Holds.pop h)
    cases e
    rw [zip2L_len]
    exact ⟨vs, ws, q, q2, by omega⟩
  yld := fun {B Lk H H' F0 σ ρ tv td i d v} h hx hy => by
    obtain ⟨T, x, y, rfl, hT, rfl, hx', hy'⟩ := hy
    have hl := (List.getElem?_eq_some_iff.mp hx).1
    rw [zip2L_len] at hl
    obtain ⟨dx, ex⟩ := lt_get (xs := xs) (i := i) (by omega)
    obtain ⟨dy, ey⟩ := lt_get (xs := ys) (i := i) (by omega)
    rw [zip2L_get xs ys i ex ey] at hx
    cases hx
    have h0 : Holds G B F0 Lk σ ρ ([.ref a, .ref b] ++ ([.ref a, .ref b] ++ tv)) ([.lst f xs, .lst g ys] ++ ([.lst f xs, .lst g ys] ++ td)) H := h.dups rfl n
    have h1 : Holds G B F0 Lk σ ρ ([.ref a] ++ .ref b :: ([.ref a, .ref b] ++ tv)) ([.lst f xs] ++ .lst g ys :: ([.lst f xs, .lst g ys] ++ td)) H := h0
    have h1 := Holds.up h1 rfl
    obtain ⟨b', ws, e, q2, l2, h2⟩ := Holds.openL h1
    cases e
    have h2 := h2.pickOf l2 ey (hy' _ q2)
    have h2' : Holds G B F0 Lk σ ρ ([y] ++ .ref a :: ([.ref a, .ref b] ++ tv)) ([dy] ++ .lst f xs :: ([.lst f xs, .lst g ys] ++ td)) H := h2
    have h3 := Holds.up h2' rfl
    obtain ⟨a', vs, e, q, l, h4⟩ := Holds.openL h3
    cases e
    have h5 := h4.pickOf l ex (hx' _ q)
    exact Holds.newTup (vs := [x, y]) (ds := [dx, dy]) h5 rfl hT
theorem Wk.zipT {a b : Addr} {xs ys : List D} (n : noOws [.tup xs, .tup ys] = true) : Wk G (RZ.ItzT G.K a b) [.ref a, .ref b] [.tup xs, .tup ys] (zip2L xs ys) where
  len := rfl
  now := n
  go := fun i h hi => by
    obtain ⟨a', vs, e, q, l, _⟩ := Holds.openT h
    cases e
    obtain ⟨b', ws, e, q2, l2, _⟩ := Holds.openT (Holds.pop h)
    cases e
    rw [zip2L_len] at hi
    obtain ⟨x, hx⟩ := lt_get (xs := vs) (i := i) (by omega)
    obtain ⟨y, hy⟩ := lt_get (xs := ws) (i := i) (by omega)
    exact ⟨vs, ws, x, y, q, q2, hx, hy⟩
  stop := fun h => by
    obtain ⟨a', vs, e, q, l, _⟩ := Holds.openT h
    cases e
    obtain ⟨b', ws, e, q2, l2, _⟩ := Holds.openT (Holds.pop h)
    cases e
    rw [zip2L_len]
    exact ⟨vs, ws, q, q2, by omega⟩
  yld := fun {B Lk H H' F0 σ ρ tv td i d v} h hx hy => by
    obtain ⟨T, x, y, rfl, hT, rfl, hx', hy'⟩ := hy
    have hl := (List.getElem?_eq_some_iff.mp hx).1
    rw [zip2L_len] at hl
    obtain ⟨dx, ex⟩ := lt_get (xs := xs) (i := i) (by omega)
    obtain ⟨dy, ey⟩ := lt_get (xs := ys) (i := i) (by omega)
    rw [zip2L_get xs ys i ex ey] at hx
    cases hx
    have h0 : Holds G B F0 Lk σ ρ ([.ref a, .ref b] ++ ([.ref a, .ref b] ++ tv)) ([.tup xs, .tup ys] ++ ([.tup xs, .tup ys] ++ td)) H := h.dups rfl n
    have h1 : Holds G B F0 Lk σ ρ ([.ref a] ++ .ref b :: ([.ref a, .ref b] ++ tv)) ([.tup xs] ++ .tup ys :: ([.tup xs, .tup ys] ++ td)) H := h0
    have h1 := Holds.up h1 rfl
    obtain ⟨b', ws, e, q2, l2, h2⟩ := Holds.openT h1
    cases e
    have h2 := h2.pickOf l2 ey (hy' _ q2)
    have h2' : Holds G B F0 Lk σ ρ ([y] ++ .ref a :: ([.ref a, .ref b] ++ tv)) ([dy] ++ .tup xs :: ([.tup xs, .tup ys] ++ td)) H := h2
    have h3 := Holds.up h2' rfl
    obtain ⟨a', vs, e, q, l, h4⟩ := Holds.openT h3
    cases e
    have h5 := h4.pickOf l ex (hx' _ q)
    exact Holds.newTup (vs := [x, y]) (ds := [dx, dy]) h5 rfl hT
end
end Pu

set_option Elab.async false
set_option linter.all false
set_option maxRecDepth 100000
set_option maxHeartbeats 1000000
/-! Pu10: enumerate over tuples, by one argument. -/
namespace Pu
open PySem PySem.Spec PyProof.Rows L2

theorem enum_of_begins {v : Value} {o : Obj} {Z : Heap → Prop} (B : Begins v o Z) :
    Meets (Builtin.«enumerate.__new__» ⟨[.type "enumerate", v], []⟩) (fun _ R s => Z s.heap ∧
      R (.ok (.ret (.ref (s.heap.push o).objs.size))) { s with heap := (s.heap.push o).push { cls := .type "enumerate", data := .fields #[.none, .bool false, .ref s.heap.objs.size, rawInt 0, .none, .none] } }) :=
  .of_wp fun prog w A R s hz => by
    obtain ⟨hp, gg, dd, tt, oo⟩ := s
    obtain ⟨z1, z2⟩ := hz
    have sube := sub_enumerate
    have qq : ∀ {A' : Around} {E : Value → Shared → Prop} {Q : Value → Shared → Prop}, Q (.ref hp.objs.size) ⟨hp.push o, gg, dd, tt, oo⟩ → wpAny (model prog w) A' (pyIter v) Q E ⟨hp, gg, dd, tt, oo⟩ :=
      fun y => B.iter prog w _ _ ⟨hp, gg, dd, tt, oo⟩ _ z1 y
    wp_walk using qq
    refine wpAny_stack_any fun zz => wpAny_pure ?_
    split
    · rename_i c _ _ _ _ _
      cases (c == Value.type "enumerate") <;> (wp_walk using qq; exact ⟨_, rfl, z2⟩)
    · wp_walk using qq
      exact ⟨_, rfl, z2⟩
theorem call_enumB {prog : Program} {w : World} {A : Around} {E : Value → Shared → Prop} {s : Shared} {v : Value} {o : Obj} {Z : Heap → Prop} {Q : Value → Shared → Prop} (B : Begins v o Z) (z : Z s.heap)
    (h : ∀ h', IsEnum h' (s.heap.objs.size + 1) s.heap.objs.size 0 .none → h'.get? s.heap.objs.size = some o → (∀ b u, s.heap.get? b = some u → h'.get? b = some u) → Q (.ref (s.heap.objs.size + 1)) { s with heap := h' }) :
    wpAny (model prog w) A (call (.type "enumerate") [v]) Q E s := by
  refine callType_new F.called_enumerate (by decide) (F.typeCall_enumerate_1 _) (F.newCall_enumerate_1 _) (fun ob => F.args_object_init_2 ob _) F.entry_enumerate_new (enum_of_begins B) ⟨z, ?_⟩
  have sz : (s.heap.push o).objs.size = s.heap.objs.size + 1 := Heap.size_push ..
  show _ ∧ _
  rw [sz]
  have he : IsEnum ((s.heap.push o).push { cls := .type "enumerate", data := .fields #[.none, .bool false, .ref s.heap.objs.size, rawInt 0, .none, .none] }) (s.heap.objs.size + 1) s.heap.objs.size 0 .none := by
    have g := Heap.get?_push_size (s.heap.push o) (o := { cls := .type "enumerate", data := .fields #[.none, .bool false, .ref s.heap.objs.size, rawInt 0, .none, .none] }) rfl
    rwa [sz] at g
  exact ⟨⟨_, he, rfl⟩, h _ he (Heap.get?_push_of_some _ (Heap.get?_push_size _ B.free)) fun b u x => Heap.get?_push_of_some _ (Heap.get?_push_of_some _ x)⟩
/-- the tuple at a, each item in a new pair -/
def IteT (K : PySem.W.Frag) (a : Addr) : L2.It :=
  ⟨fun i H => ∃ (xs : List V) (x : V), SqT K H a xs ∧ xs[i]? = some x, fun i H v H' => ∃ T x, v = .ref T ∧ H T = none ∧ H' = upd H T (.tup [.int (i : Nat), x]) ∧ ∀ xs, SqT K H a xs → xs[i]? = some x, fun i H => ∃ xs : List V, SqT K H a xs ∧ xs.length ≤ i⟩
/-- the iterator over a tuple that stands -/
theorem turn_enumT {P : Program} {w : World} {K : PySem.W.Frag} {elts : List Expr} {kk : Nat} {tpos : Pos} (a e it : Addr) (its : Array Value) (na : a ≠ it) (ne : a ≠ e) :
    Turn P w K (.Tuple elts kk tpos) (IteT K a) [e, it] e (fun i h => (∃ old, IsEnum h e it ((i : Nat) : Int) old) ∧ h.IsTupleIter it a i ∧ e ≠ it) where
  mem := by simp
  obj := fun i h st b hb => by
    obtain ⟨⟨old, he⟩, ⟨o, ho, hc, hd⟩, _⟩ := st
    rcases (by simpa using hb : b = e ∨ b = it) with z | z
    · rw [z]; exact ⟨_, he, fun v q => nomatch q⟩
    · rw [z]; exact ⟨o, ho, fun v q => by rw [hd] at q; cases q⟩
  keep := fun i h h' st k => let ⟨⟨old, he⟩, hi, hne⟩ := st; ⟨⟨old, k e (by simp) _ he⟩, hi.at fun o q => k it (by simp) o q, hne⟩
  item := by
    intro X hP hw hK hc i pins s σ H E I hf st hg
    subst hP hw hK
    obtain ⟨⟨old, he⟩, hit, hne⟩ := st
    obtain ⟨xs, x, hq, hx⟩ := hg
    obtain ⟨ys, rv, p, hz⟩ := I.tuple hq
    obtain ⟨u, hu, ru⟩ := rv.get hx
    have hil : i < ys.toArray.size := by
      have := (List.getElem?_eq_some_iff.mp hu).1
      simpa using this
    have hel : e < s.heap.objs.size := Heap.lt_size he
    have hitl : it < s.heap.objs.size := by obtain ⟨_, q, _⟩ := hit; exact Heap.lt_size q
    have hae : e ∉ [it, a] := fun m => by
      rcases (by simpa using m : e = it ∨ e = a) with z | z
      · exact hne z
      · exact ne z.symm
    have D := Draws.tuple (prog := X.prog) (w := X.w) (A := X.A.in1) (show X.A.in1.handled = none from I.ok.hd hc) it a na ys.toArray
    refine wpAny_pyNext_enum_itemD D he ⟨hit, p⟩ hil hne hae fun x' h' tk hP' ho hs' hT hsz hk => ?_
    have ex : x' = u := by
      have hu' : ys.toArray[i]? = some u := by simpa using hu
      rw [hu'] at hP'
      exact (Option.some.inj hP').symm
    subst ex
    refine ⟨_, rfl, wpAny_letOwnedTupleGo_enum (s := { s with heap := h', toks := tk + 1 }) ho fun h'' he' sb => ?_⟩
    have hT2 := (sb.2 _ (Nat.ne_of_gt hel)).trans hT
    have nw : ObjOk X.prog X.w (upd H s.heap.objs.size (.tup [.int (i : Nat), x])) h'' s.heap.objs.size (.tup [.int (i : Nat), x]) :=
      ⟨by show 2 ≤ sizeLine; decide, [.int i tk, x'], .cons ⟨_, rfl⟩ (.cons ru .nil), ⟨_, hT2, rfl, _, rfl⟩⟩
    have I1 : Inv X pins σ (upd H s.heap.objs.size (.tup [.int (i : Nat), x])) { s with heap := h'', toks := tk + 1 } :=
      I.turnedNew (ch := [e, it]) (fun b ob hb q => (sb.2 b (fun z => hb (by simp [z]))).trans (hk b ob (fun z => hb (by simp [z])) (fun z => hb (by simp [z])) q)) hf (Nat.le_refl _) nw
    refine ⟨.ref s.heap.objs.size, _, I1, rfl, ⟨_, x, rfl, I.hok.fresh (Nat.le_refl _), rfl, fun zs hy => by rw [I.tuple_inj hy hq]; exact hx⟩, ⟨⟨x', ?_⟩, hs'.1.at fun o q => (sb.2 it (Ne.symm hne)).trans q, hne⟩, fun b hb => ?_⟩
    · have e1 : ((i + 1 : Nat) : Int) = (i : Int) + 1 := by omega
      rw [e1]; exact he'
    · have hb' : b < s.heap.objs.size := by
        rcases (by simpa using hb : b = e ∨ b = it) with z | z
        · rw [z]; exact hel
        · rw [z]; exact hitl
      rw [upd_ne (Nat.ne_of_lt hb')]
      exact (hf b hb).1
  done := by
    intro X hP hw hK hc i pins s σ H E I hf st hg
    subst hP hw hK
    obtain ⟨⟨old, he⟩, hit, hne⟩ := st
    obtain ⟨xs, hq, hx⟩ := hg
    obtain ⟨ys, rv, p, hz⟩ := I.tuple hq
    obtain ⟨f0, f1, f2, f3, f4, f5⟩ := hf it (by simp)
    have hl := rv.length
    have D : Draws X.prog X.w X.A.in1 it [it, a] i (fun _ _ => True) (fun j h => j = i ∧ h.IsTupleIter it a i ∧ h.IsTuple a ys.toArray) := ⟨fun _ _ st => let ⟨o, ho, _⟩ := st.2.1; ⟨o, ho⟩, fun _ _ _ st hk => ⟨st.1, st.2.1.at fun o e => hk it (by simp) o e, st.2.2.at fun o e => hk a (by simp) o e⟩, fun j s Q E hj st => absurd st.1 (Nat.ne_of_lt hj), fun s Q E st hE => wpAny_nextOf_tuple_end (show X.A.in1.handled = none from I.ok.hd hc) st.2.1 st.2.2 (by simp; omega) hE⟩
    exact wpAny_pyNext_enum_endD D he ⟨rfl, hit, p⟩ fun h' eb => ⟨rfl, I.turned (t' := s.toks) (fun b o hb q => eb b o hb q) f0 f1 f3 f4 f5⟩
  self := fun A i s Q E st h => let ⟨⟨_, he⟩, _⟩ := st; wpAny_pyIter_enum he h

section
variable {X : Cx}
def iEnA (K : PySem.W.Frag) (ta : TA) : TI := fun σ H R => ta σ H fun vs H1 => ∃ a xs, vs = [.ref a] ∧ ((SqL K H1 a xs ∧ R (Ite K a) H1) ∨ (SqT K H1 a xs ∧ R (IteT K a) H1))
theorem pi_enA {e : Expr} {ta : TA} {p pos tpos : Pos} {elts : List Expr} {kk : Nat} (hg : Gl X "enumerate") (hm : X.mg "enumerate" = none) (ha : PA X [e] ta) (hs : starEach [e] X.env = [(false, eval e X.env)]) :
    PI X (.Tuple elts kk tpos) (.Call (.Name "enumerate" p) [e] [] pos) (iEnA X.K ta) := by
  constructor
  intro pins s σ H R I h
  refine Call_ (ld_blt I hg hm boot_enumerate (PyProof.Rows.callWith_type1 (thn (ha.run pos pins s σ H _ I h) fun us s1 w1 => ?_) hs rfl))
  obtain ⟨vs, H1, I1, r1, a, xs, ev, q⟩ := w1
  subst ev
  cases r1 with
  | cons r rr =>
    cases rr
    cases r
    have fz : ∀ b ∈ [s1.heap.objs.size + 1, s1.heap.objs.size], FpOk X pins H1 b := fun b hb => by
      have le : s1.heap.objs.size ≤ b := by
        rcases (by simpa using hb : b = s1.heap.objs.size + 1 ∨ b = s1.heap.objs.size) with z | z <;> omega
      exact I1.fpOk le (I1.hok.fresh le)
    rcases q with ⟨hq, q⟩ | ⟨hq, q⟩
    · obtain ⟨its, rv, p', hz⟩ := I1.list hq
      refine call_enumerate_list p'.isList fun h' he hit hsz hk => wpAny_pyIter_enum he ?_
      exact ⟨s1.heap.objs.size + 1, [s1.heap.objs.size + 1, s1.heap.objs.size], _, _, H1, rfl, I1.kept (t' := s1.toks) hk, turn_enum a (s1.heap.objs.size + 1) s1.heap.objs.size, ⟨⟨.none, he⟩, hit, Nat.succ_ne_self _⟩, fz, q⟩
    · obtain ⟨its, rv, p', hz⟩ := I1.tuple hq
      obtain ⟨o1, ho1, _⟩ := id p'
      have hlt := Heap.lt_size ho1
      refine call_enumB (begins_tuple a its.toArray) (show s1.heap.IsTuple a its.toArray from p') fun h' he hit hk => wpAny_pyIter_enum he ?_
      exact ⟨s1.heap.objs.size + 1, [s1.heap.objs.size + 1, s1.heap.objs.size], _, _, H1, rfl, I1.kept (t' := s1.toks) hk, turn_enumT a (s1.heap.objs.size + 1) s1.heap.objs.size its.toArray (Nat.ne_of_lt hlt) (Nat.ne_of_lt (Nat.lt_succ_of_lt hlt)), ⟨⟨.none, he⟩, ⟨_, hit, rfl, rfl⟩, Nat.succ_ne_self _⟩, fz, q⟩
/-- a list, a tuple or a text -/
def iSeq (K : PySem.W.Frag) (te : TE) : TI := fun σ H R => te σ H fun v H1 => (∃ a xs, v = .ref a ∧ SqL K H1 a xs ∧ R (Itl K a) H1) ∨ (∃ a xs, v = .ref a ∧ SqT K H1 a xs ∧ R (Itt K a) H1) ∨ ∃ x, v = .str x ∧ R (Its x) H1
theorem pi_seq {tg e : Expr} {te : TE} (he : PE X e te) : PI X tg e (iSeq X.K te) := by
  constructor
  intro pins s σ H R I h
  refine thn (he.run pins s σ H _ I h) fun u s1 w1 => ?_
  obtain ⟨v, H1, I1, r1, q⟩ := w1
  rcases q with ⟨a, xs, rfl, hq, q⟩ | ⟨a, xs, rfl, hq, q⟩ | ⟨x, rfl, q⟩
  · cases r1
    obtain ⟨its, rv, p, hz⟩ := I1.list hq
    exact wpAny_pyIter_list p.isList (pi_one (tk := s1.toks) I1 _ (turn_list a _) ⟨_, Heap.get?_push_size _ rfl, rfl, rfl⟩ q)
  · cases r1
    obtain ⟨its, rv, p, hz⟩ := I1.tuple hq
    exact wpAny_pyIter_tuple (show s1.heap.IsTuple a its.toArray from p) (pi_one (tk := s1.toks) I1 _ (turn_tuple a _) ⟨_, Heap.get?_push_size _ rfl, rfl, rfl⟩ q)
  · obtain ⟨t, rfl⟩ := r1
    cases ha : x.cps.all (· < 128)
    · exact wpAny_pyIter_wide ha (pi_one (tk := s1.toks) I1 _ (turn_str _ x t "str_iterator" (.inr rfl)) ⟨_, Heap.get?_push_size _ rfl, rfl, rfl⟩ q)
    · exact wpAny_pyIter_ascii ha (pi_one (tk := s1.toks) I1 _ (turn_str _ x t "str_ascii_iterator" (.inl rfl)) ⟨_, Heap.get?_push_size _ rfl, rfl, rfl⟩ q)
end

/-! ### the walks of the language -/
theorem Wk.enumT {G : Gb} {a : Addr} {ys : List D} (n : noOws [.tup ys] = true) : Wk G (IteT G.K a) [.ref a] [.tup ys] (enumL 0 ys) where
  len := rfl
  now := n
  go := fun i h hi => by
    obtain ⟨a', vs, e, q, l, _⟩ := h.openT
    cases e
    rw [enumL_len] at hi
    obtain ⟨x, hx⟩ := lt_get (l ▸ hi)
    exact ⟨vs, x, q, hx⟩
  stop := fun h => by
    obtain ⟨a', vs, e, q, l, _⟩ := h.openT
    cases e
    rw [enumL_len]
    exact ⟨vs, q, Nat.le_of_eq l⟩
  yld := fun {B Lk H H' F0 σ ρ tv td i d v} h hx hy => by
    obtain ⟨T, x, rfl, hT, rfl, hy⟩ := hy
    obtain ⟨a', vs, e, q, l, h2⟩ := (h.dups (rv := [.ref a]) (rd := [.tup ys]) rfl n).openT
    cases e
    have hl := (List.getElem?_eq_some_iff.mp hx).1
    rw [enumL_len] at hl
    obtain ⟨y, hy'⟩ := lt_get hl
    rw [enumL_get ys 0 i hy'] at hx
    cases hx
    rw [Nat.zero_add]
    have h3 := (h2.pickOf l hy' (hy _ q)).push (v := .int (i : Nat)) (d := .int (i : Nat)) fun _ => .int _
    exact Holds.newTup (vs := [.int (i : Nat), x]) (ds := [.int (i : Nat), y]) h3 rfl hT
section
variable (C : Cf)
def tI (it : It) (W : WX) : TI := fun σ H R => ∃ B F0 Lk ρ tv td, Holds C.G B F0 Lk σ ρ tv td H ∧
  Wish (evIt C.Φ C.gv it ρ) (Off C W σ B F0 Lk ρ tv td) fun r => ∀ J rv rd H', Wk C.G J rv rd r.1 → (r.2 = true → noVws rd = true) → Holds C.G B F0 Lk σ ρ (rv ++ tv) (rd ++ td) H' → R J H'
end
theorem PI.imp {X : Cx} {tg e : Expr} {t t' : TI} (h : PI X tg e t) (k : ∀ σ H Q, t' σ H Q → t σ H Q) : PI X tg e t' := ⟨fun pins s σ H Q I q => h.run pins s σ H Q I (k _ _ _ q)⟩
def SI (C : Cf) (k : Nat) (N : List Str) (sc : Scope) (st : List Str) (tg e : Expr) (it : It) : Prop := ∀ X W, CtxOk C k N sc st X W → PI X tg e (tI C it W)
section
variable {C : Cf} {k : Nat} {N : List Str} {sc : Scope} {st : List Str} {tg a b e : Expr} {es : List Expr} {ia ib ie : Ex} {ies : List Ex} {pos p : Pos}
theorem noOws1 (d : D) : noOws [fzD d] = true := by simp only [noOws, fzD_noOw, Bool.and_self]
theorem noVws1 {d : D} (h : noVw d = true) : noVws [fzD d] = true := by simp only [noVws, noVw_fzD d h, Bool.and_self]
theorem i_of (h : SE C k N sc st e ie) : SI C k N sc st tg e (.of ie) := fun X W hX => PI.imp (pi_seq (h X W hX)) fun σ H R ⟨B, F0, Lk, ρ, tv, td, h, w⟩ => by
  simp only [evIt] at w
  refine go1 h (fun _ z => z) w fun x v H1 hx h1 w1 => ?_
  clear hx
  have h2 := h1.frz
  have n1 := noOws1 x
  have n2 := fun z : noVw x = true => noVws1 z
  obtain ⟨_, _, o1⟩ := h1.top
  cases x <;> first | exact w1.elim | skip
  · rename_i z
    rw [o1.inv_str]
    exact .inr (.inr ⟨z, rfl, w1 _ [] [] _ Wk.str (fun _ => rfl) h1.pop⟩)
  · rename_i xs
    obtain ⟨p, vs, rfl, hs, hl, _⟩ := h1.openT
    rw [hX.eK]
    exact .inr (.inl ⟨p, vs, rfl, hs, w1 _ [.ref p] [.tup (fzDs xs)] _ (Wk.tup n1) n2 h2⟩)
  · rename_i f xs
    obtain ⟨p, vs, rfl, hs, hl, _⟩ := h1.openL
    rw [hX.eK]
    exact .inl ⟨p, vs, rfl, hs, w1 _ [.ref p] [.lst f.fzd (fzDs xs)] _ (Wk.lst n1) n2 h2⟩
theorem i_rng1 (hg : sc.names.lookup ("range" : Str) = some .globalImplicit) (hm : C.mg "range" = none) (hn : nst a = true) (ha : SE C k N sc st a ia) : SI C k N sc st tg (.Call (.Name "range" p) [a] [] pos) (.rng [ia]) := fun X W hX =>
  PI.imp (pi_range1 (by unfold Gl Env.kindOf; rw [hX.eS]; exact hg) (by rw [hX.eM]; exact hm) (ss_cons hn ha ss_nil X W hX) (star_cons hn [] X.env)) fun σ H R ⟨B, F0, Lk, ρ, tv, td, h, w⟩ => by
    simp only [evIt] at w
    refine gos h (fun _ z => z) w fun ds vs H1 he hl h1 w1 => ?_
    have e1 := evs_len he
    match ds, vs, e1, hl with
    | [d], [v], z1, z2 =>
      clear z1 z2
      obtain ⟨_, _, o1⟩ := Holds.top h1
      cases d <;> first | exact w1.elim | skip
      rename_i j
      rw [o1.inv_int]
      obtain ⟨hz, w2⟩ := Wish.chk (Wish.bind (show Wish ((rngD 0 j).bind _) _ _ from w1))
      have hz := of_decide_eq_true hz
      refine ⟨j, rfl, hz.2.2.1, hz.2.2.2, ?_⟩
      have w2 := w2 (Itr 0 j.toNat) [] [] H1 (by
        have := Wk.rng (G := C.G) (lo := 0) (n := (j - 0).toNat)
        rwa [show j - 0 = j from Int.sub_zero j] at this ⊢) (fun _ => rfl) (Holds.pop h1)
      exact w2
theorem i_rng2 (hg : sc.names.lookup ("range" : Str) = some .globalImplicit) (hm : C.mg "range" = none) (hn : nst a = true) (hn2 : nst b = true) (ha : SE C k N sc st a ia) (hb : SE C k N sc st b ib) : SI C k N sc st tg (.Call (.Name "range" p) [a, b] [] pos) (.rng [ia, ib]) := fun X W hX =>
  PI.imp (pi_range2 (by unfold Gl Env.kindOf; rw [hX.eS]; exact hg) (by rw [hX.eM]; exact hm) (ss_cons hn ha (ss_cons hn2 hb ss_nil) X W hX) (by rw [star_cons hn, star_cons hn2]; rfl) (star_cons hn2 [] X.env)) fun σ H R ⟨B, F0, Lk, ρ, tv, td, h, w⟩ => by
    simp only [evIt] at w
    refine gos h (fun _ z => z) w fun ds vs H1 he hl h1 w1 => ?_
    have e1 := evs_len he
    match ds, vs, e1, hl with
    | [d, d'], [v, v'], z1, z2 =>
      clear z1 z2
      obtain ⟨_, _, o1⟩ := Holds.top h1
      obtain ⟨_, _, o2⟩ := Holds.top (Holds.pop h1)
      cases d <;> cases d' <;> first | exact w1.elim | skip
      rename_i i j
      rw [o1.inv_int, o2.inv_int]
      obtain ⟨hz, w2⟩ := Wish.chk (Wish.bind (show Wish ((rngD i j).bind _) _ _ from w1))
      have hz := of_decide_eq_true hz
      exact ⟨i, j, rfl, hz, w2 _ [] [] H1 Wk.rng (fun _ => rfl) (Holds.pop (Holds.pop h1))⟩
theorem i_enum {elts : List Expr} {kk : Nat} {tpos : Pos} (hg : sc.names.lookup ("enumerate" : Str) = some .globalImplicit) (hm : C.mg "enumerate" = none) (hn : nst a = true) (ha : SE C k N sc st a ia) : SI C k N sc st (.Tuple elts kk tpos) (.Call (.Name "enumerate" p) [a] [] pos) (.enum ia) := fun X W hX =>
  PI.imp (pi_enA (by unfold Gl Env.kindOf; rw [hX.eS]; exact hg) (by rw [hX.eM]; exact hm) (ss_cons hn ha ss_nil X W hX) (star_cons hn [] X.env)) fun σ H R ⟨B, F0, Lk, ρ, tv, td, h, w⟩ => by
    have w' : Wish ((evs C.Φ C.gv [ia] ρ).bind fun ds => match ds with | [x] => (listD (fzD x)).bind fun xs => .ok (enumL 0 xs, noVw x) | _ => .bad) (Off C W σ B F0 Lk ρ tv td) fun r => ∀ J rv rd H', Wk C.G J rv rd r.1 → (r.2 = true → noVws rd = true) → Holds C.G B F0 Lk σ ρ (rv ++ tv) (rd ++ td) H' → R J H' := by
      simp only [evIt] at w
      simp only [evs, Out.bind_assoc, Out.bind_ok]
      exact w
    refine gos h (fun _ z => z) w' fun ds vs H1 he hl h1 w1 => ?_
    have e1 := evs_len he
    match ds, vs, e1, hl with
    | [x], [v], z1, z2 =>
      clear z1 z2
      have h2 := Holds.frz h1
      have n1 := noOws1 x
      have n2 := fun z : noVw x = true => noVws1 z
      cases x <;> first | exact w1.elim | skip
      · rename_i xs
        obtain ⟨p, vs, rfl, hs, hl, _⟩ := Holds.openT h1
        rw [hX.eK]
        exact ⟨p, vs, rfl, .inr ⟨hs, w1 _ [.ref p] [.tup (fzDs xs)] _ (Wk.enumT n1) n2 h2⟩⟩
      · rename_i f xs
        obtain ⟨p, vs, rfl, hs, hl, _⟩ := Holds.openL h1
        rw [hX.eK]
        exact ⟨p, vs, rfl, .inl ⟨hs, w1 _ [.ref p] [.lst f.fzd (fzDs xs)] _ (Wk.enum n1) n2 h2⟩⟩
theorem i_rvd (hg : sc.names.lookup ("reversed" : Str) = some .globalImplicit) (hm : C.mg "reversed" = none) (hn : nst a = true) (ha : SE C k N sc st a ia) : SI C k N sc st tg (.Call (.Name "reversed" p) [a] [] pos) (.rvd ia) := fun X W hX =>
  PI.imp (RT.pi_revA (by unfold Gl Env.kindOf; rw [hX.eS]; exact hg) (by rw [hX.eM]; exact hm) (ha X W hX) (star_cons hn [] X.env)) fun σ H R ⟨B, F0, Lk, ρ, tv, td, h, w⟩ => by
    simp only [evIt] at w
    refine go1 h (fun _ z => z) w fun x v H1 hx h1 w1 => ?_
    clear hx
    have h2 := Holds.frz h1
    have n1 := noOws1 x
    have n2 := fun z : noVw x = true => noVws1 z
    cases x <;> first | exact w1.elim | skip
    · rename_i xs
      obtain ⟨p, vs, rfl, hs, hl, _⟩ := Holds.openT h1
      rw [hX.eK]
      refine ⟨p, vs, rfl, .inr ⟨hs, w1 _ [.ref p] [.tup (fzDs xs)] _ ?_ n2 h2⟩⟩
      have := Wk.revT (G := C.G) (a := p) n1
      rwa [fzDs_eq, List.length_map, ← hl, ← fzDs_eq] at this
    · rename_i f xs
      obtain ⟨p, vs, rfl, hs, hl, _⟩ := Holds.openL h1
      rw [hX.eK]
      refine ⟨p, vs, rfl, .inl ⟨hs, w1 _ [.ref p] [.lst f.fzd (fzDs xs)] _ ?_ n2 h2⟩⟩
      have := Wk.rev (G := C.G) (a := p) n1
      rwa [fzDs_eq, List.length_map, ← hl, ← fzDs_eq] at this
theorem i_zip {elts : List Expr} {kk : Nat} {tpos : Pos} (hg : sc.names.lookup ("zip" : Str) = some .globalImplicit) (hm : C.mg "zip" = none) (hn : nst a = true) (hn2 : nst b = true) (ha : SE C k N sc st a ia) (hb : SE C k N sc st b ib) : SI C k N sc st (.Tuple elts kk tpos) (.Call (.Name "zip" p) [a, b] [] pos) (.zip [ia, ib]) := fun X W hX =>
  PI.imp (RZ.pi_zipA (by unfold Gl Env.kindOf; rw [hX.eS]; exact hg) (by rw [hX.eM]; exact hm) (ss_cons hn ha (ss_cons hn2 hb ss_nil) X W hX) (star_cons hn [b] X.env) (by rw [star_cons hn2]; rfl)) fun σ H R ⟨B, F0, Lk, ρ, tv, td, h, w⟩ => by
    simp only [evIt] at w
    refine gos h (fun _ z => z) w fun ds vs H1 he hl h1 w1 => ?_
    have e1 := evs_len he
    have h2 := h1.frzn hl
    match ds, vs, e1, hl with
    | [x, y], [v, u], z1, z2 =>
      clear z1 z2
      have n1 : noOws [fzD x, fzD y] = true := by simp only [noOws, fzD_noOw, Bool.and_self]
      have n2 : noVws [x, y] = true → noVws [fzD x, fzD y] = true := noVws_fzDs [x, y]
      cases x <;> cases y <;> first | exact w1.elim | skip
      · rename_i xs ys
        obtain ⟨p, vs, rfl, hs, hl, _⟩ := Holds.openT h1
        obtain ⟨p', vs', rfl, hs', hl', _⟩ := Holds.openT (Holds.pop h1)
        rw [hX.eK]
        exact ⟨p, p', vs, vs', rfl, .inr ⟨hs, hs', w1 _ [.ref p, .ref p'] _ _ (Wk.zipT n1) n2 h2⟩⟩
      · rename_i f xs f' ys
        obtain ⟨p, vs, rfl, hs, hl, _⟩ := Holds.openL h1
        obtain ⟨p', vs', rfl, hs', hl', _⟩ := Holds.openL (Holds.pop h1)
        rw [hX.eK]
        exact ⟨p, p', vs, vs', rfl, .inl ⟨hs, hs', w1 _ [.ref p, .ref p'] _ _ (Wk.zipL n1) n2 h2⟩⟩
end
end Pu

set_option Elab.async false
set_option linter.all false
set_option maxRecDepth 100000
set_option maxHeartbeats 1000000
/-! Pu11: list comprehensions whose new list is seen at the end alone. -/
namespace Pu
open PySem PySem.Spec PyProof.Rows L2
section
variable {X : Cx} {pins : List (Addr × Obj)} {σ : L2.St} {H : Hp} {s : Shared}
/-- a thing of ours that was not told before is told -/
theorem tell {D : Addr} {ob : HO} (I : Inv X pins σ H s) (f : FpOk X pins H D) (new : ObjOk X.prog X.w (upd H D ob) s.heap D ob) : Inv X pins σ (upd H D ob) s := by
  obtain ⟨f0, f1, f2, f3, f4, f5⟩ := f
  have st := I.step (H' := upd H D ob) (h' := s.heap) (t' := s.toks) (g' := s.gens) (d' := s.drawn) (ch := [D])
    (fun b hb => by rw [List.mem_singleton.mp hb]; exact ⟨f3, f1, f4, f5⟩) (fun b o _ _ _ e _ => e) (fun b o _ _ _ e _ => ⟨o.slots, e⟩)
    (fun b o hc _ n => by rw [upd_ne (fun z => hc (by rw [z]; exact List.mem_singleton_self D))]; exact n) (fun b o _ e => ⟨o, e⟩) (fun b xs e => by rw [upd_ne (ne_of_none e f0)]; exact e) (fun b o u e => by rw [upd_ne (ne_of_none e f0)]; exact e)
    (fun b ps e => ⟨#[], by rw [upd_ne (ne_of_none e f0), e]; simp⟩) (fun m hm => hm) (fun b u e => ?_) I.bare
  · exact st
  · by_cases hb : b = D
    · subst hb
      rw [upd_same] at e
      cases e
      exact new
    · rw [upd_ne hb] at e
      exact (I.hok b u e).stay (fun c v hc q => q) (fun c q => by rw [upd_ne (ne_of_none q f0)]; exact q) fun c xs q => by rw [upd_ne (ne_of_none q f0)]; exact q
/-- [elt for target in iter if ..] : acc the new items; W by the turn and a measure, Nx what a turn is to reach -/
def tLu (wi : TI) (g : TG) (tt : TT) (te : TE) (vs : List Nat) : TE := fun σ H Q => wi σ H fun J H1 => ∃ W : Nat → Nat → List V → Hp → Prop, (∃ m, W 0 m [] H1) ∧ ∀ i m acc H, W i m acc H →
  (J.stop i H ∧ acc.length ≤ sizeLine ∧ ∀ D, H D = none → Q (.ref D) (upd H D (.lst acc))) ∨ (J.go i H ∧ ∃ Nx : List V → Hp → Prop, (∀ a' H', Nx a' H' → ∃ m', m' < m ∧ W (i + 1) m' a' H') ∧ ∀ x H', J.yld i H x H' → g x (wipe σ vs) H' fun σ2 H2 => wipe σ2 vs = wipe σ vs ∧ tt σ2 H2 fun b H3 =>
    if b = true then te σ2 H3 fun y H4 => acc.length < sizeLine ∧ Nx (acc ++ [y]) H4 else Nx acc H3)
/-- the list at D as it lies, outside of what is told -/
def AccAt (s : Shared) (D : Addr) (acc : List V) : Prop := ∃ (its : List Value) (n : Nat), Vals acc its ∧ s.heap.get? D = some { cls := .type "list", data := .seq its.toArray n }
theorem lu_core {Q : VK} {elt tg iter : Expr} {ifs : List Expr} {scope : Scope} {own : List (Str × Nat)} {pos pos' : Pos} {wi : TI} {g : TG} {tt : TT} {te : TE} {use : Option (Value → Sem Unit)} {Qf : Value → Shared → Prop}
    (hc : X.calm = true) (hN : X.N.Nodup) (I : Inv X pins σ H s) (hi : PI X tg iter wi) (ok : BlkOk X.N X.env.scope scope own)
    (hb : ∀ (s : Shared) (H : Hp) (C : Addr) (cl : List (Str × Addr)) (fp : List Addr), PG (X.blk s H scope (compEnvC scope cl C X.env) fp) tg g ∧ PTs (X.blk s H scope (compEnvC scope cl C X.env) fp) ifs tt ∧ PE (X.blk s H scope (compEnvC scope cl C X.env) fp) elt te)
    (hs : ∀ x, foldedSetIterable iter X.env x = pure x) (h : tLu wi g tt te (own.map (·.2)) σ H Q)
    (hR : ∀ D C s' m H', Inv X pins σ H' s' → Q (.ref D) H' → s'.heap.Ns C m → FpOk X pins H' C → compPost (model X.prog X.w) X.A X.xe use Qf (.ref D) C (.ok .next) s') :
    wpAny (model X.prog X.w) X.A (comprehension (.ListComp elt [⟨tg, iter, ifs, 0⟩] scope pos) scope X.env pos' (newList []) false (eval iter X.env) use) Qf X.xe s := by
  have captured : ∀ y ∈ scope.names, y.2 = .free → ∃ c, X.env.cells.lookup y.1 = some c := fun y hy e => (ok.free y hy e).elim (fun k => I.ok.has _ (.inl k)) fun k => I.ok.has _ (.inr k)
  refine wpAny_comprehension_free (use := use) rfl hs (closure_ok captured) ok.kind (fun y hy e => by rw [ok.uniq y hy, e]) (thn (hi.run pins s σ H _ I h) fun xv s1 hx => thn hx fun itv s2 h2 => ?_)
  obtain ⟨it, fp, tn, J, H2, rfl, I2, T, st2, f2, W, ⟨m0, w0⟩, turn⟩ := h2
  refine wpAny_newObj_type (newEnv_comp ?_) (by show 0 ≤ sizeLine; decide)
  generalize hD : s2.heap.objs.size = D
  have Dn : H2 D = none := I2.hok.fresh (Nat.le_of_eq hD)
  have fD : FpOk X pins H2 D := I2.fpOk (Nat.le_of_eq hD) Dn
  generalize hs3 : ({ s2 with heap := s2.heap.push { cls := .type "list", data := .seq ([] : List Value).toArray } } : Shared) = s3
  have I3 : Inv X pins σ H2 s3 := by
    rw [← hs3]
    exact I2.kept (t' := s2.toks) fun b o e => Heap.get?_push_of_some _ e
  have h3 : s3.heap = s2.heap.push { cls := .type "list", data := .seq ([] : List Value).toArray } := by rw [← hs3]
  have sz : ∀ b ∈ fp, b < s2.heap.objs.size := fun b hb => by
    obtain ⟨o, e, _⟩ := T.obj _ _ st2 b hb
    exact Heap.lt_size e
  have Dfp : D ∉ fp := fun z => absurd (sz D z) (by rw [hD]; exact Nat.lt_irrefl _)
  have f3 : ∀ b ∈ D :: fp, FpOk X pins H2 b ∧ b < s3.heap.objs.size := fun b hb => by
    rw [h3, Heap.size_push]
    rcases List.mem_cons.mp hb with z | z
    · rw [z]; exact ⟨fD, by rw [hD]; exact Nat.lt_succ_self _⟩
    · exact ⟨f2 b z, Nat.lt_succ_of_lt (sz b z)⟩
  have st3 : tn 0 s3.heap := T.keep _ _ _ st2 fun b _ o e => by rw [h3]; exact Heap.get?_push_of_some _ e
  have I4 := block_start I3 ok hN f3
  obtain ⟨pg, pt, pe⟩ := hb s3 H2 s3.heap.objs.size (cellsFrom (s3.heap.objs.size + 1) scope.names (cloFrom X.env.cells scope.names [])) (D :: fp)
  show codeAny _ _ (.compStart (.ListComp elt [⟨tg, iter, ifs, 0⟩] scope pos) 0 (.ref it) (.ref D) (compEnvC scope (cellsFrom (s3.heap.objs.size + 1) scope.names (cloFrom X.env.cells scope.names [])) s3.heap.objs.size X.env)) (compPost (model X.prog X.w) X.A X.xe use Qf (.ref D) s3.heap.objs.size) { s3 with heap := pushCells (s3.heap.push { cls := .type "dict", data := .dict #[] }) scope.names }
  generalize hce : compEnvC scope (cellsFrom (s3.heap.objs.size + 1) scope.names (cloFrom X.env.cells scope.names [])) s3.heap.objs.size X.env = ce at I4 pg pt pe ⊢
  have cL : ce.locals = s3.heap.objs.size := by subst hce; rfl
  generalize hs4 : ({ s3 with heap := pushCells (s3.heap.push { cls := .type "dict", data := .dict #[] }) scope.names } : Shared) = s4 at I4 ⊢
  have up34 : ∀ b o, s3.heap.get? b = some o → s4.heap.get? b = some o := fun b o e => by rw [← hs4]; exact pushCells_keeps _ _ _ _ (Heap.get?_push_of_some _ e)
  have st4 : tn 0 s4.heap := T.keep _ _ _ st3 fun b _ o e => up34 b o e
  have a4 : AccAt s4 D [] := ⟨[], 0, .nil, up34 D _ (by rw [h3, ← hD]; exact Heap.get?_push_size _ rfl)⟩
  generalize hZ : X.blk s3 H2 scope ce (D :: fp) = Z at I4 pg pt pe
  have zP : Z.prog = X.prog := by rw [← hZ]
  have zW : Z.w = X.w := by rw [← hZ]
  have zK : Z.K = X.K := by rw [← hZ]
  have zA : Z.A = X.A := by rw [← hZ]
  have zC : Z.calm = true := by rw [← hZ]; exact hc
  have zE : Z.env = ce := by rw [← hZ]
  have zX : Z.xe = fun _ _ => False := by rw [← hZ]
  have zx : Z.ex = D :: fp := by rw [← hZ]
  have zp : Z.pn = [] := by rw [← hZ]
  have stat : ∀ {σ' : L2.St} {H' : Hp} {s' : Shared} {pl : List (Addr × Obj)} (l : List Addr), Inv Z pl σ' H' s' → (∀ b ∈ l, b ∈ D :: fp ∧ H' b = none ∧ ∀ p ∈ pl, p.1 ≠ b) → ∀ b ∈ l, FpOk Z pl H' b := fun {σ' H' s' pl} l I' hn b hb =>
    ⟨(hn b hb).2.1, (I'.ok.exf b (by rw [zx]; exact (hn b hb).1)).1, I'.ok.exfs b (by rw [zx]; exact (hn b hb).1), .inl (by rw [zx]; exact (hn b hb).1), fun x c e => (I'.ok.exf b (by rw [zx]; exact (hn b hb).1)).2 x c e, fun p hp => (hn b hb).2.2 p (by rw [zp] at hp; exact hp)⟩
  have loop : codeAny (model X.prog X.w) X.A (.compLoop (.ListComp elt [⟨tg, iter, ifs, 0⟩] scope pos) 0 (.ref it) (.ref D) ce) (compPost (model X.prog X.w) X.A X.xe use Qf (.ref D) s3.heap.objs.size) s4 := by
    refine compLoop_any (fun n s' => ∃ i H' acc, Inv Z [] (wipe σ (own.map (·.2))) H' s' ∧ tn i s'.heap ∧ (∀ b ∈ D :: fp, H' b = none) ∧ AccAt s' D acc ∧ W i n acc H') ?_ m0 ⟨0, H2, [], I4, st4, fun b hb => (f3 b hb).1.1, a4, w0⟩
    rintro n s5 ⟨i, H5, acc, I5, st5, n5, a5, w5⟩
    obtain ⟨its, k, rA, eA⟩ := a5
    -- the list as it lies is pinned
    have I5p : Inv Z [(D, { cls := .type "list", data := .seq its.toArray k })] (wipe σ (own.map (·.2))) H5 s5 := I5.pins_of fun p hp => by
      rw [List.mem_singleton.mp hp]
      exact ⟨eA, n5 D List.mem_cons_self, (I5.ok.exf D (by rw [zx]; exact List.mem_cons_self)).1, I5.ok.exfs D (by rw [zx]; exact List.mem_cons_self), fun v z => by cases z⟩
    have fT : ∀ b ∈ fp, FpOk Z [(D, { cls := .type "list", data := .seq its.toArray k })] H5 b := stat fp I5p fun b hb => ⟨List.mem_cons_of_mem _ hb, n5 b (List.mem_cons_of_mem _ hb), fun p hp z => by
      rw [List.mem_singleton.mp hp] at z
      exact Dfp ((show D = b from z) ▸ hb)⟩
    rcases turn i n acc H5 w5 with ⟨stop, hz, qq⟩ | ⟨go, Nx, hNx, step⟩
    · have td := T.done Z zP zW zK zC i _ s5 _ H5 (fun _ _ => False) I5p fT st5 stop
      rw [zA] at td
      refine thnF td fun r s6 ⟨hr, I6⟩ => ?_
      subst hr
      have eA6 : s6.heap.get? D = some { cls := .type "list", data := .seq its.toArray k } := (I6.pin (D, _) (by rw [zp]; exact List.mem_singleton_self _)).1
      have I7 : Inv X pins σ H5 s6 := by
        rw [← hZ] at I6
        exact I3.call' (ch := D :: fp) I6.os I6.base I6.hok I6.bare fun b hb => ⟨(f3 b hb).1.2.2.2.1, (f3 b hb).1.2.1, (f3 b hb).1.2.2.2.2.1, (f3 b hb).1.2.2.2.2.2⟩
      have I8 := tell (D := D) (ob := .lst acc) I7 ⟨n5 D List.mem_cons_self, fD.2⟩ ⟨hz, its, k, rA, eA6⟩
      have nC : H5 s3.heap.objs.size = none := by
        have z : H5 Z.env.locals = none := I6.free
        rwa [zE, cL] at z
      have DC : s3.heap.objs.size ≠ D := Nat.ne_of_gt (f3 D List.mem_cons_self).2
      obtain ⟨m, hn, _⟩ := I6.loc
      have hn : s6.heap.Ns Z.env.locals m := hn
      rw [zE, cL] at hn
      exact hR D s3.heap.objs.size s6 m _ I8 (qq D (n5 D List.mem_cons_self)) hn (I3.fpOk (Nat.le_refl _) (by rw [upd_ne DC]; exact nC))
    · have ti := T.item Z zP zW zK zC i _ s5 _ H5 (fun _ _ => False) I5p fT st5 go
      rw [zA] at ti
      refine thnF ti fun r s6 ⟨u, hr, h6⟩ => ?_
      subst hr
      refine thnF h6 fun _ s7 ⟨x, H7, I7, r7, y7, st7, n7⟩ => ?_
      have eA7 := (I7.pin (D, _) (by rw [zp]; exact List.mem_singleton_self _)).1
      have nD7 := (I7.pin (D, _) (by rw [zp]; exact List.mem_singleton_self _)).2.1
      have fp7 : ∀ b ∈ fp, FpOk Z [(D, { cls := .type "list", data := .seq its.toArray k })] H7 b := fun b hb => ⟨n7 b hb, (fT b hb).2⟩
      have I7' := I7.pinned fp7 (T.obj _ _ st7)
      have pgr := pg.run _ s7 _ H7 x u _ I7' r7 (step x H7 y7)
      rw [zP, zW, zA, zE, zX] at pgr
      refine thnF pgr fun _ s8 ⟨σ8, H8, I8, hw8, q8⟩ => ?_
      have ptr := pt.run _ s8 σ8 H8 _ I8 q8
      rw [zP, zW, zA, zE, zX] at ptr
      refine thnF ptr fun b s9 ⟨H9, I9, q9⟩ => ?_
      -- a turn's end
      have fin : ∀ {s' : Shared} {H' : Hp} {acc' : List V}, Inv Z (pinsAt fp s7.heap) σ8 H' s' → H' D = none → AccAt s' D acc' → Nx acc' H' → ∃ m, m < n ∧ ∃ i H' acc, Inv Z [] (wipe σ (own.map (·.2))) H' s' ∧ tn i s'.heap ∧ (∀ b ∈ D :: fp, H' b = none) ∧ AccAt s' D acc ∧ W i m acc H' := fun {s' H' acc'} I' nD a' nx => by
        obtain ⟨m', hm, w'⟩ := hNx acc' H' nx
        have pin' : ∀ b ∈ fp, ∀ o, s7.heap.get? b = some o → s'.heap.get? b = some o ∧ H' b = none := fun b hb o e =>
          let z := I'.pin (b, o) (List.mem_append_right _ (mem_pinsAt hb e))
          ⟨z.1, z.2.1⟩
        have hl : (wipe σ (own.map (·.2))).length = σ8.length := by rw [← hw8, wipe_length]
        refine ⟨m', hm, i + 1, H', acc', (I'.pins_of (pins' := []) (fun p hp => by cases hp)).weak hl (fun j v e => ?_), T.keep _ _ _ st7 fun b hb o e => (pin' b hb o e).1, fun b hb => ?_, a', w'⟩
        · rw [← hw8] at e
          exact (wipe_some e).1
        · rcases List.mem_cons.mp hb with z | z
          · rw [z]; exact nD
          · obtain ⟨o, e, _⟩ := T.obj _ _ st7 b z
            exact (pin' b z o e).2
      have less : ∀ {H' : Hp} {s' : Shared}, Inv Z ([(D, { cls := .type "list", data := .seq its.toArray k })] ++ pinsAt fp s7.heap) σ8 H' s' → Inv Z (pinsAt fp s7.heap) σ8 H' s' ∧ H' D = none ∧ s'.heap.get? D = some { cls := .type "list", data := .seq its.toArray k } := fun {H' s'} I' =>
        ⟨I'.pins_of fun p hp => I'.pin p (List.mem_append_right _ (List.mem_append_right _ hp)), (I'.pin (D, _) (List.mem_append_right _ (List.mem_append_left _ (List.mem_singleton_self _)))).2.1, (I'.pin (D, _) (List.mem_append_right _ (List.mem_append_left _ (List.mem_singleton_self _)))).1⟩
      cases b with
      | false =>
        simp only [Bool.false_eq_true, if_false] at q9 ⊢
        obtain ⟨I9', nD, e9⟩ := less I9
        exact fin I9' nD ⟨its, k, rA, e9⟩ q9
      | true =>
        simp only [if_true] at q9 ⊢
        have per := pe.run _ s9 σ8 H9 _ I9 q9
        rw [zP, zW, zA, zE, zX] at per
        refine thnF per fun z s10 ⟨yv, H10, I10, r10, hlen, nx⟩ => ?_
        obtain ⟨I10', nD, e10⟩ := less I10
        have hl := rA.length
        refine append_at (hsz := by rw [List.size_toArray]; omega) e10 fun h' sb ho' => ?_
        obtain ⟨f0, f1, f2', f3', f4, f5⟩ := stat [D] I10' (fun b hb => by
          rw [List.mem_singleton.mp hb]
          refine ⟨List.mem_cons_self, nD, fun p hp z => ?_⟩
          exact Dfp (z ▸ (of_pinsAt hp).1)) D (List.mem_singleton_self _)
        have I11 : Inv Z (pinsAt fp s7.heap) σ8 H10 { s10 with heap := h' } := I10'.turned (t' := s10.toks) (fun b o hb e => (sb.2 b hb).trans e) f0 f1 f3' f4 f5
        refine fin I11 nD ⟨its ++ [z], k + 1, rA.append (.cons r10 .nil), ?_⟩ nx
        rw [ho']
        simp
  exact codeAny_compStart_list loop (T.self X.A 0 _ _ _ st4 loop)
end
end Pu

set_option Elab.async false
set_option linter.all false
set_option maxRecDepth 100000
set_option maxHeartbeats 1000000
/-! Pu12: targets; list comprehensions as expressions. -/
namespace Pu
open PySem PySem.Spec PyProof.Rows L2
section
variable {X : Cx}
theorem pe_lu {elt tg iter : Expr} {ifs : List Expr} {scope : Scope} {own : List (Str × Nat)} {pos : Pos} {wi : TI} {g : TG} {tt : TT} {te : TE} (hc : X.calm = true) (hN : X.N.Nodup) (hi : PI X tg iter wi) (ok : BlkOk X.N X.env.scope scope own)
    (hb : ∀ (s : Shared) (H : Hp) (C : Addr) (cl : List (Str × Addr)) (fp : List Addr), PG (X.blk s H scope (compEnvC scope cl C X.env) fp) tg g ∧ PTs (X.blk s H scope (compEnvC scope cl C X.env) fp) ifs tt ∧ PE (X.blk s H scope (compEnvC scope cl C X.env) fp) elt te)
    (hs : ∀ x, foldedSetIterable iter X.env x = pure x) : PE X (.ListComp elt [⟨tg, iter, ifs, 0⟩] scope pos) (tLu wi g tt te (own.map (·.2))) := by
  constructor
  intro pins s σ H Q I h
  rw [eval_ListComp]
  refine lu_core hc hN I hi ok hb hs h fun D C s' m H' I' q hn f => ⟨m, hn, fun h'' sb => ?_⟩
  exact ⟨.ref D, H', I'.turned (t' := s'.toks) (fun b o hb e => (sb.2 b hb).trans e) f.1 f.2.1 f.2.2.2.1 f.2.2.2.2.1 f.2.2.2.2.2, rfl, q⟩
theorem ps_setLu {i : Nat} {y : Str} {py : Pos} {elt tg iter : Expr} {ifs : List Expr} {scope : Scope} {own : List (Str × Nat)} {pos spos : Pos} {wi : TI} {g : TG} {tt : TT} {te : TE} (hc : X.calm = true) (hN : X.N.Nodup) (hy : X.N[i]? = some y) (hyl : X.env.scope.names.lookup y = some .local)
    (hsw : swapsWith (.ListComp elt [⟨tg, iter, ifs, 0⟩] scope pos) (some (.Name y py)) spos.line X.env = pure true) (hi : PI X tg iter wi) (ok : BlkOk X.N X.env.scope scope own)
    (hb : ∀ (s : Shared) (H : Hp) (C : Addr) (cl : List (Str × Addr)) (fp : List Addr), PG (X.blk s H scope (compEnvC scope cl C X.env) fp) tg g ∧ PTs (X.blk s H scope (compEnvC scope cl C X.env) fp) ifs tt ∧ PE (X.blk s H scope (compEnvC scope cl C X.env) fp) elt te)
    (hs : ∀ x, foldedSetIterable iter X.env x = pure x) : PS X (.Assign [.Name y py] (.ListComp elt [⟨tg, iter, ifs, 0⟩] scope pos) spos) (tAsg (tLu wi g tt te (own.map (·.2))) (gName i)) := by
  constructor
  intro pins s σ H D I h
  rw [exec_Assign_Name_used _ _ _ _ hsw]
  refine wpAny_bind (wpAny_standAt (wpAny_bind ?_))
  show wpAny _ X.A (do let _ ← comprehension (.ListComp elt [⟨tg, iter, ifs, 0⟩] scope pos) scope X.env (firstIterPos [⟨tg, iter, ifs, 0⟩] pos) (newList []) false (eval iter X.env) (some (assign (.Name y py) X.env))) _ _ s
  have h0 : tLu wi g tt te (own.map (·.2)) σ H (fun x H1 => gName i x σ H1 D.nx) := h
  refine wpAny_bind (thn (lu_core (Qf := fun _ s' => SP X pins D .next s') hc hN I hi ok hb hs h0 fun L C s' m H' I' q hn f => ?_) fun _ s' hq => wpAny_pure (wpAny_pure hq))
  show wpAny _ _ (assign (.Name y py) X.env (.ref L)) _ _ _
  refine wpAny_assign_Name (store_ok2 (v := V.ref L) I' hN hy (.inl hyl) rfl (fun s2 I2 ⟨a, sb, ha⟩ => ?_) (.inr hyl))
  have haC : C ≠ a := by
    rcases ha with z | z
    · rw [z]; exact f.2.1
    · exact fun e => f.2.2.2.2.1 y a z e.symm
  refine ⟨m, hn.sameBut sb haC, fun h3 sb3 => ?_⟩
  exact ⟨_, H', I2.turned (t' := s2.toks) (fun b o hb e => (sb3.2 b hb).trans e) f.1 f.2.1 f.2.2.2.1 f.2.2.2.2.1 f.2.2.2.2.2, q⟩
end

/-! ### targets -/
def tgIx : Tg → List Nat
  | .nm i => [i]
  | .tp is => is
section
variable (C : Cf)
/-- the target takes the top value -/
def tG (t : Tg) : TG := fun v σ H Q => ∃ B F0 Lk ρ tv td d, Holds C.G B F0 Lk σ ρ (v :: tv) (d :: td) H ∧
  Wish (bindTg t d ρ) (fun _ => False) fun ρ' => ∀ σ', (∀ vs, (∀ i ∈ tgIx t, i ∈ vs) → L2.wipe σ' vs = L2.wipe σ vs) → Holds C.G B F0 Lk σ' ρ' tv td H → Q σ' H
end
def SG (C : Cf) (k : Nat) (N : List Str) (sc : Scope) (st : List Str) (tg : Expr) (t : Tg) : Prop := ∀ X W, CtxOk C k N sc st X W → PG X tg (tG C t)
theorem PG.imp {X : Cx} {e : Expr} {t t' : TG} (h : PG X e t) (k : ∀ v σ H Q, t' v σ H Q → t v σ H Q) : PG X e t' := ⟨fun pins s σ H v u Q I r q => h.run pins s σ H v u Q I r (k _ _ _ _ q)⟩
theorem wipe_get : ∀ (vs : List Nat) (σ : L2.St) (j : Nat), (L2.wipe σ vs)[j]? = if j ∈ vs then (σ[j]?).map (fun _ => none) else σ[j]?
  | [], σ, j => by simp [L2.wipe]
  | v :: vs, σ, j => by
    unfold L2.wipe
    rw [List.getElem?_set, wipe_get vs σ j, L2.wipe_length]
    by_cases h : v = j
    · subst h
      rw [if_pos rfl, if_pos List.mem_cons_self]
      by_cases hl : v < σ.length
      · rw [if_pos hl, List.getElem?_eq_getElem hl]; rfl
      · rw [if_neg hl, List.getElem?_eq_none (by omega)]; rfl
    · rw [if_neg h]
      have : j ∈ v :: vs ↔ j ∈ vs := by simp [Ne.symm h]
      simp only [this]
theorem wipe_set (σ : L2.St) (i : Nat) (x : Option V) (vs : List Nat) (h : i ∈ vs) : L2.wipe (σ.set i x) vs = L2.wipe σ vs := by
  apply List.ext_getElem?
  intro j
  rw [wipe_get, wipe_get]
  by_cases hj : j ∈ vs
  · rw [if_pos hj, if_pos hj, List.getElem?_set]
    by_cases e : i = j
    · subst e
      rw [if_pos rfl]
      by_cases hl : i < σ.length
      · rw [if_pos hl, List.getElem?_eq_getElem hl]; rfl
      · rw [if_neg hl, List.getElem?_eq_none (by omega)]
    · rw [if_neg e]
  · rw [if_neg hj, if_neg hj, List.getElem?_set_ne (fun z => hj (by rw [← z]; exact h))]
/-- names of a target and their places -/
inductive Nms (N : List Str) (st : List Str) : List Expr → List Nat → Prop
  | nil : Nms N st [] []
  | cons {x : Str} {p : Pos} {i : Nat} {es is} : N[i]? = some x → x ∈ st → Nms N st es is → Nms N st (.Name x p :: es) (i :: is)
def gNs : List Nat → TGs
  | [] => gNil
  | i :: is => gCons (gName i) (gNs is)
section
variable {C : Cf} {k : Nat} {N : List Str} {sc : Scope} {st : List Str} {pos : Pos} {X : Cx} {W : WX}
theorem Nms.pgs (hX : CtxOk C k N sc st X W) : ∀ {es is}, Nms N st es is → PGs X es (gNs is)
  | [], _, h => by cases h; exact pgs_nil
  | _ :: _, _, h => by
    cases h with
    | cons a b c =>
      obtain ⟨h1, h2⟩ := hX.hst _ b
      exact pgs_cons (pg_name (by rw [hX.eN]; exact hX.nd) (by rw [hX.eN]; exact a) (by rw [hX.eS]; exact h1) (by rw [hX.eS]; exact h2)) (c.pgs hX)
theorem Nms.len : ∀ {es is}, Nms N st es is → (assignEach es X.env).length = is.length ∧ (assignEach es X.env).findIdx? (·.1) = none
  | [], _, h => by cases h; exact ⟨rfl, rfl⟩
  | _ :: es, _, h => by
    cases h with
    | @cons x p i _ is a b c =>
      obtain ⟨h1, h2⟩ := Nms.len c
      refine ⟨by rw [List.length_cons, ← h1]; rfl, ?_⟩
      show List.findIdx? _ ((false, _) :: assignEach es X.env) = none
      simp [List.findIdx?_cons, h2]
theorem putAll_gN {B Lk H : Hp} {F0 : Addr → Prop} : ∀ {is : List Nat} {ds : List D} {vs : List V} {σ : L2.St} {ρ : List (Option D)} {tv : List V} {td : List D} {Q : L2.St → Hp → Prop}, Holds C.G B F0 Lk σ ρ (vs ++ tv) (ds ++ td) H → vs.length = ds.length →
    Wish (putAll is ds ρ) (fun _ => False) (fun ρ' => ∀ σ', (∀ us, (∀ i ∈ is, i ∈ us) → L2.wipe σ' us = L2.wipe σ us) → Holds C.G B F0 Lk σ' ρ' tv td H → Q σ' H) → gNs is vs σ H Q
  | [], [], [], _, _, _, _, _, h, _, w => ⟨rfl, w _ (fun _ _ => rfl) h⟩
  | i :: is, d :: ds, v :: vs, σ, ρ, tv, td, Q, h, e, w => by
    simp only [putAll] at w
    obtain ⟨hi, w⟩ := w.chk
    refine ⟨v, vs, rfl, putAll_gN (Holds.set h (of_decide_eq_true hi)) (by simpa using e) (w.mono (fun _ z => z) fun ρ' _ w σ' hs h' => w σ' (fun us hu => ?_) h')⟩
    rw [hs us fun j hj => hu j (List.mem_cons_of_mem _ hj), wipe_set _ _ _ _ (hu i List.mem_cons_self)]
  | _ :: _, [], _, _, _, _, _, _, _, _, w => w.elim
  | [], _ :: _, _, _, _, _, _, _, _, _, w => w.elim
  | _, [], _ :: _, _, _, _, _, _, _, e, _ => by simp at e
  | _, _ :: _, [], _, _, _, _, _, _, e, _ => by simp at e
theorem putAll_len : ∀ {is : List Nat} {xs : List D} {ρ : List (Option D)}, Wish (putAll is xs ρ) (fun _ => False) (fun _ => True) → xs.length = is.length
  | [], [], _, _ => rfl
  | [], _ :: _, _, w => w.elim
  | _ :: _, [], _, w => w.elim
  | i :: is, x :: xs, ρ, w => by
    simp only [putAll] at w
    rw [List.length_cons, List.length_cons, putAll_len w.chk.2]
theorem g_nm {x : Str} {i : Nat} (hi : N[i]? = some x) (hx : x ∈ st) : SG C k N sc st (.Name x pos) (.nm i) := fun X W hX => by
  obtain ⟨h1, h2⟩ := hX.hst _ hx
  refine PG.imp (pg_name (by rw [hX.eN]; exact hX.nd) (by rw [hX.eN]; exact hi) (by rw [hX.eS]; exact h1) (by rw [hX.eS]; exact h2)) fun v σ H Q ⟨B, F0, Lk, ρ, tv, td, d, h, w⟩ => ?_
  obtain ⟨hl, w⟩ := w.chk
  exact w _ (fun us hu => wipe_set _ _ _ _ (hu i List.mem_cons_self)) (h.set (of_decide_eq_true hl))
theorem g_tp {es : List Expr} {is : List Nat} {x1 : Nat} (h : Nms N st es is) : SG C k N sc st (.Tuple es x1 pos) (.tp is) := fun X W hX => by
  obtain ⟨l1, l2⟩ := Nms.len (X := X) h
  refine PG.imp (pg_tup hX.calm (h.pgs hX) l1 l2) fun v σ H Q ⟨B, F0, Lk, ρ, tv, td, d, h, w⟩ => ?_
  cases d <;> first | exact w.elim | skip
  rename_i xs
  obtain ⟨p, vs, rfl, hs, hl, h2⟩ := h.openT
  have e : vs.length = is.length := by rw [hl]; exact putAll_len (w.mono (fun _ z => z) fun _ _ _ => trivial)
  rw [hX.eK]
  exact ⟨p, vs, rfl, hs, e, putAll_gN h2 hl w⟩
end
end Pu

set_option Elab.async false
set_option linter.all false
set_option maxRecDepth 100000
set_option maxHeartbeats 1000000
/-! Pu13: comprehensions as expressions. -/
namespace Pu
open PySem PySem.Spec PyProof.Rows L2
section
variable {K : PySem.W.Frag} {cl : Nat → Addr} {H : Hp} {Fz : Addr → Prop} {f : List Addr}
/-- a slot that holds nothing may hold anything -/
theorem OwnS.other {σ : L2.St} {ρ : List (Option D)} {f : List Addr} (h : OwnS K cl H Fz σ ρ f) : ∀ {σ' : L2.St}, σ'.length = σ.length → (∀ (i : Nat) d, ρ[i]? = some (some d) → σ'[i]? = σ[i]?) → OwnS K cl H Fz σ' ρ f := by
  induction h with
  | nil => intro σ' e _; rw [List.eq_nil_of_length_eq_zero e]; exact .nil
  | skip _ ih =>
    intro σ' e g
    cases σ' with
    | nil => simp at e
    | cons y ys => exact .skip (ih (by simpa using e) fun i d hd => by simpa using g (i + 1) d (by simpa using hd))
  | put a _ ih =>
    intro σ' e g
    cases σ' with
    | nil => simp at e
    | cons y ys =>
      have g0 := g 0 _ rfl
      simp only [List.getElem?_cons_zero, Option.some.injEq] at g0
      subst g0
      exact .put a (ih (by simpa using e) fun i d hd => by simpa using g (i + 1) d (by simpa using hd))
end
section
variable {G : Gb} {B Lk H H' : Hp} {F0 : Addr → Prop} {σ : L2.St} {ρ : List (Option D)} {tv : List V} {td : List D}
theorem Holds.other {σ' : L2.St} (h : Holds G B F0 Lk σ ρ tv td H) (e : σ'.length = σ.length) (g : ∀ (i : Nat) d, ρ[i]? = some (some d) → σ'[i]? = σ[i]?) : Holds G B F0 Lk σ' ρ tv td H := by
  obtain ⟨⟨f1, f2, a, b, n, q⟩, kb, kl, tb⟩ := h
  exact ⟨⟨f1, f2, a.other e g, b, n, q⟩, kb, kl, tb⟩
theorem set_none_same {ρ : List (Option D)} {i : Nat} (h : ∀ d, ρ[i]? ≠ some (some d)) : ρ.set i none = ρ := by
  apply List.ext_getElem?
  intro j
  rw [List.getElem?_set]
  by_cases e : i = j
  · subst e
    rw [if_pos rfl]
    by_cases hl : i < ρ.length
    · rw [if_pos hl]
      rw [List.getElem?_eq_getElem hl] at h ⊢
      cases q : ρ[i] with
      | none => rfl
      | some d => exact absurd (by rw [q]) (h d)
    · rw [if_neg hl, List.getElem?_eq_none (by omega)]
  · rw [if_neg e]
/-- some slots put by, for a while -/
theorem Holds.stash : ∀ (vs : List Nat), Holds G B F0 Lk σ ρ tv td H → ∃ (sv : List V) (sd : List D), sv.length = sd.length ∧ Holds G B F0 Lk (L2.wipe σ vs) (wipeD ρ vs) (sv ++ tv) (sd ++ td) H ∧
    ∀ H' tv' td', Holds G B F0 Lk (L2.wipe σ vs) (wipeD ρ vs) (sv ++ tv') (sd ++ td') H' → Holds G B F0 Lk σ ρ tv' td' H'
  | [], h => ⟨[], [], rfl, h, fun _ _ _ h' => h'⟩
  | i :: vs, h => by
    obtain ⟨sv, sd, e, h1, back⟩ := Holds.stash vs h
    have ew : L2.wipe σ (i :: vs) = (L2.wipe σ vs).set i none := rfl
    have eD : wipeD ρ (i :: vs) = (wipeD ρ vs).set i none := rfl
    rw [ew, eD]
    by_cases hh : ∃ d, (wipeD ρ vs)[i]? = some (some d)
    · obtain ⟨d, hd⟩ := hh
      obtain ⟨⟨f1, f2, a, b, n, q⟩, kb, kl, tb⟩ := h1
      obtain ⟨v, g, f', e1, o, a', p⟩ := a.take (x := none) hd
      have pm : (f' ++ (g ++ f2)).Perm (f1 ++ f2) := by rw [← List.append_assoc]; exact p.append_right f2
      have mono : ∀ a, H a ≠ none → Fzp B F0 (f1 ++ f2) a → Fzp B F0 (f' ++ (g ++ f2)) a := fun a _ z => ⟨z.1, fun m => z.2 (pm.subset m)⟩
      refine ⟨v :: sv, d :: sd, by simp [e], ⟨⟨f', g ++ f2, a'.keep (Keep.refl _) mono, .cons (o.keep (Keep.refl _) mono) (b.keep (Keep.refl _) mono), pm.nodup_iff.mpr n, fun p hp => q p (pm.subset hp)⟩, kb, kl, tb⟩, fun H' tv' td' h' => ?_⟩
      have hl : i < (wipeD ρ vs).length := (List.getElem?_eq_some_iff.mp hd).1
      have h2 := Holds.set (i := i) (show Holds G B F0 Lk _ _ (v :: (sv ++ tv')) (d :: (sd ++ td')) H' from h') (by rw [List.length_set]; exact hl)
      rw [List.set_set, List.set_set] at h2
      have e2 : (wipeD ρ vs).set i (some d) = wipeD ρ vs := by
        apply List.ext_getElem?
        intro j
        rw [List.getElem?_set]
        by_cases e : i = j
        · subst e; rw [if_pos rfl, if_pos hl, hd]
        · rw [if_neg e]
      have e3 : (L2.wipe σ vs).set i (some v) = L2.wipe σ vs := by
        apply List.ext_getElem?
        intro j
        rw [List.getElem?_set]
        by_cases e : i = j
        · subst e; rw [if_pos rfl, if_pos (List.getElem?_eq_some_iff.mp e1).1, e1]
        · rw [if_neg e]
      rw [e2, e3] at h2
      exact back H' tv' td' h2
    · have e2 : (wipeD ρ vs).set i none = wipeD ρ vs := set_none_same fun d hd => hh ⟨d, hd⟩
      rw [e2]
      refine ⟨sv, sd, e, h1.other (by rw [List.length_set]) fun j d hd => ?_, fun H' tv' td' h' => back H' tv' td' (h'.other (by rw [List.length_set]) fun j d hd => ?_)⟩
      · rw [List.getElem?_set_ne (fun z => hh ⟨d, by rw [z]; exact hd⟩)]
      · rw [List.getElem?_set_ne (fun z => hh ⟨d, by rw [z]; exact hd⟩)]
end
/-! ### a block's context -/
theorem ctx_blk {C : Cf} {k : Nat} {N : List Str} {sc scope : Scope} {st st' : List Str} {X : Cx} {W : WX} (hX : CtxOk C k N sc st X W)
    (h : ∀ x ∈ st', L2.Loc (relS scope sc) x ∧ ((scope.names.lookup x == some NameKind.cell) = true ∨ (relS scope sc).names.lookup x = some NameKind.local)) (s : Shared) (H : Hp) (c : Addr) (cl : List (Str × Addr)) (fp : List Addr) :
    CtxOk C k N (relS scope sc) st' (X.blk s H scope (compEnvC scope cl c X.env) fp) (fun _ _ _ _ => False) where
  eP := hX.eP
  eW := hX.eW
  eK := hX.eK
  eM := hX.eM
  eB := hX.eB
  eN := hX.eN
  nd := hX.nd
  eS := by rw [← hX.eS]; rfl
  calm := hX.calm
  room := hX.room
  gd := hX.gd
  takes := fun u s' ⟨_, _, _, _, _, _, _, _, _, _, _, _, _, _, _, _, z⟩ => z
  hst := h
  cod := fun c P e => hX.cod c P e
/-- a clause's tests -/
def tCs (C : Cf) (cs : List Ex) : TT := fun σ H Q => ∃ B F0 Lk ρ tv td, Holds C.G B F0 Lk σ ρ tv td H ∧ Wish (evc C.Φ C.gv cs ρ) (fun _ => False) fun b => ∀ H', Holds C.G B F0 Lk σ ρ tv td H' → Q b H'
def SCs (C : Cf) (k : Nat) (N : List Str) (sc : Scope) (st : List Str) (es : List Expr) (cs : List Ex) : Prop := ∀ X W, CtxOk C k N sc st X W → PTs X es (tCs C cs)
section
variable {C : Cf} {k : Nat} {N : List Str} {sc scope : Scope} {st st' : List Str} {c elt tg iter : Expr} {ic ie : Ex} {t : Tg} {it : It} {ifs : List Expr} {cs : List Ex} {pos : Pos}
theorem c_nil : SCs C k N sc st [] [] := fun X W hX => ⟨fun pins s σ H Q I ⟨B, F0, Lk, ρ, tv, td, h, w⟩ => pts_nil.run pins s σ H Q I (w H h)⟩
theorem c_one (h : STt C k N sc st c ic) : SCs C k N sc st [c] [ic] := fun X W hX => ⟨fun pins s σ H Q I ⟨B, F0, Lk, ρ, tv, td, h', w⟩ => (pts_one (h X W hX)).run pins s σ H Q I ⟨B, F0, Lk, ρ, tv, td, h', by
  simp only [evc] at w
  cases e : ev C.Φ C.gv ic ρ with
  | ok x =>
    rw [e] at w
    simp only [Out.bind_ok] at w ⊢
    obtain ⟨b, hb, w⟩ := w.ofob
    rw [hb]
    cases b <;> exact w
  | exc x => rw [e] at w; exact w.elim
  | bad => rw [e] at w; exact w.elim⟩⟩
theorem compL_nil {F : D → Out (Option D)} {ys : List D} (h : compL [] F = .ok ys) : ys = [] := by
  simp only [compL, Out.ok.injEq] at h; exact h.symm
theorem compL_cons {F : D → Out (Option D)} {x : D} {xs ys : List D} (h : compL (x :: xs) F = .ok ys) : ∃ o zs, F x = .ok o ∧ compL xs F = .ok zs ∧ ys = (match o with | some y => y :: zs | none => zs) := by
  simp only [compL] at h
  cases h1 : F x with
  | ok o =>
    rw [h1, Out.bind_ok] at h
    cases h2 : compL xs F with
    | ok zs =>
      rw [h2, Out.bind_ok, Out.ok.injEq] at h
      exact ⟨o, zs, rfl, rfl, h.symm⟩
    | exc _ => rw [h2] at h; cases h
    | bad => rw [h2] at h; cases h
  | exc _ => rw [h1] at h; cases h
  | bad => rw [h1] at h; cases h
theorem putAll_wipe : ∀ {is : List Nat} {xs : List D} {ρ ρ' : List (Option D)} {vs : List Nat}, putAll is xs ρ = .ok ρ' → (∀ i ∈ is, i ∈ vs) → wipeD ρ' vs = wipeD ρ vs
  | [], [], ρ, ρ', vs, h, _ => by simp only [putAll, Out.ok.injEq] at h; rw [h]
  | [], _ :: _, _, _, _, h, _ => by simp [putAll] at h
  | _ :: _, [], _, _, _, h, _ => by simp [putAll] at h
  | i :: is, x :: xs, ρ, ρ', vs, h, g => by
    simp only [putAll, Out.chk] at h
    split at h
    · rw [putAll_wipe h fun j hj => g j (List.mem_cons_of_mem _ hj)]
      exact wipeD_set _ _ _ _ (g i List.mem_cons_self)
    · cases h
where
  wipeD_set (ρ : List (Option D)) (i : Nat) (x : Option D) : ∀ (vs : List Nat), i ∈ vs → wipeD (ρ.set i x) vs = wipeD ρ vs := fun vs h => by
    apply List.ext_getElem?
    intro j
    rw [wipeD_get, wipeD_get]
    by_cases hj : j ∈ vs
    · rw [if_pos hj, if_pos hj, List.getElem?_set]
      by_cases e : i = j
      · subst e
        rw [if_pos rfl]
        by_cases hl : i < ρ.length
        · rw [if_pos hl, List.getElem?_eq_getElem hl]; rfl
        · rw [if_neg hl, List.getElem?_eq_none (by omega)]
      · rw [if_neg e]
    · rw [if_neg hj, if_neg hj, List.getElem?_set_ne (fun z => hj (by rw [← z]; exact h))]
  wipeD_len (ρ : List (Option D)) : ∀ (vs : List Nat), (wipeD ρ vs).length = ρ.length
    | [] => rfl
    | v :: vs => by
      show ((wipeD ρ vs).set v none).length = _
      rw [List.length_set, wipeD_len ρ vs]
  wipeD_get : ∀ (vs : List Nat) (ρ : List (Option D)) (j : Nat), (wipeD ρ vs)[j]? = if j ∈ vs then (ρ[j]?).map (fun _ => none) else ρ[j]?
    | [], ρ, j => by simp [wipeD]
    | v :: vs, ρ, j => by
      show ((wipeD ρ vs).set v none)[j]? = _
      rw [List.getElem?_set, wipeD_get vs ρ j, wipeD_len]
      by_cases h : v = j
      · subst h
        rw [if_pos rfl, if_pos List.mem_cons_self]
        by_cases hl : v < ρ.length
        · rw [if_pos hl, List.getElem?_eq_getElem hl]; rfl
        · rw [if_neg hl, List.getElem?_eq_none (by omega)]; rfl
      · rw [if_neg h]
        have : j ∈ v :: vs ↔ j ∈ vs := by simp [Ne.symm h]
        simp only [this]
theorem bindTg_wipe {d : D} {ρ ρ' : List (Option D)} {vs : List Nat} (h : bindTg t d ρ = .ok ρ') (g : ∀ i ∈ tgIx t, i ∈ vs) : wipeD ρ' vs = wipeD ρ vs := by
  cases t with
  | nm i =>
    simp only [bindTg, Out.chk] at h
    split at h
    · simp only [Out.ok.injEq] at h
      rw [← h]
      exact putAll_wipe.wipeD_set _ _ _ _ (g i (List.mem_singleton_self _))
    · cases h
  | tp is =>
    cases d <;> first | (simp [bindTg] at h; done) | skip
    exact putAll_wipe h g
theorem wipeD_wipeD (ρ : List (Option D)) (vs : List Nat) : wipeD (wipeD ρ vs) vs = wipeD ρ vs := by
  apply List.ext_getElem?
  intro j
  rw [putAll_wipe.wipeD_get, putAll_wipe.wipeD_get]
  by_cases hj : j ∈ vs
  · rw [if_pos hj, if_pos hj]
    cases ρ[j]? <;> rfl
  · rw [if_neg hj, if_neg hj]
theorem wipe_wipe (σ : L2.St) (vs : List Nat) : L2.wipe (L2.wipe σ vs) vs = L2.wipe σ vs := by
  apply List.ext_getElem?
  intro j
  rw [wipe_get, wipe_get]
  by_cases hj : j ∈ vs
  · rw [if_pos hj, if_pos hj]
    cases σ[j]? <;> rfl
  · rw [if_neg hj, if_neg hj]
theorem take_succ_of {xs : List D} {i : Nat} (h : i < xs.length) : xs.drop i = xs[i] :: xs.drop (i + 1) := List.drop_eq_getElem_cons h
/-- the body of a comprehension, by values -/
def compF (Φ : Nat → List D → Out (D × List D)) (gv : Nat → D) (t : Tg) (cs : List Ex) (ie : Ex) (ρ0 : List (Option D)) (x : D) : Out (Option D) :=
  (bindTg t x ρ0).bind fun ρ' => (evc Φ gv cs ρ').bind fun b => if b = true then (ev Φ gv ie ρ').bind fun y => .ok (some y) else .ok none
theorem comp_tail {W : WX} {own : List Nat} {σ : L2.St} {H : Hp} {Q : VK} (ht : ∀ i ∈ tgIx t, i ∈ own) (h : tE C (.comp own ie t it cs) W σ H Q) : tLu (tI C it W) (tG C t) (tCs C cs) (tE C ie (fun _ _ _ _ => False)) own σ H Q := by
  obtain ⟨B, F0, Lk, ρ, tv, td, h, w⟩ := h
  simp only [ev] at w
  refine ⟨B, F0, Lk, ρ, tv, td, h, w.bind.mono (fun _ z => z) fun r hr w1 J rv rd H1 wk hz h1 => ?_⟩
  obtain ⟨ys, hy, w2⟩ := w1.bind.calm
  obtain ⟨hlen, w3⟩ := Wish.chk w2
  have hlen := of_decide_eq_true hlen
  have w3 : ∀ v H', Holds C.G B F0 Lk σ ρ (v :: tv) (.lst .ow ys :: td) H' → Q v H' := w3
  have hy : compL r.1 (compF C.Φ C.gv t cs ie (wipeD ρ own)) = .ok ys := hy
  have h1a : Holds C.G B F0 Lk σ ρ (rv ++ tv) (rd ++ td) H1 := h1
  obtain ⟨sv, sd, es, h2, back⟩ := Holds.stash own h1a
  -- the roots on top
  have mv : ∀ {H' : Hp} {xv : List V} {xd : List D}, xv.length = xd.length → ∀ {rv' : List V} {rd' : List D}, rv'.length = rd'.length → Holds C.G B F0 Lk (L2.wipe σ own) (wipeD ρ own) (xv ++ (rv' ++ tv)) (xd ++ (rd' ++ td)) H' → Holds C.G B F0 Lk (L2.wipe σ own) (wipeD ρ own) (rv' ++ (xv ++ tv)) (rd' ++ (xd ++ td)) H' := fun {H' xv xd} e {rv' rd'} e' h' =>
    h'.re (Keep.refl _) h'.tb fun Fz f2 b => by
      obtain ⟨g1, g2, q1, q2, rfl⟩ := b.split e
      obtain ⟨g3, g4, q3, q4, rfl⟩ := q2.split e'
      refine ⟨g3 ++ (g1 ++ g4), Sb.of_perm ?_, fun Fz' m _ => (q3.keep (Keep.refl _) m).append ((q1.keep (Keep.refl _) m).append (q4.keep (Keep.refl _) m))⟩
      rw [← List.append_assoc, ← List.append_assoc]
      exact (List.perm_append_comm).append_right g4
  have h3 := mv es wk.len h2
  refine ⟨fun i m acc H' => m = r.1.length - i ∧ i ≤ r.1.length ∧ ∃ accd zs, acc.length = accd.length ∧ Holds C.G B F0 Lk (L2.wipe σ own) (wipeD ρ own) (rv ++ (acc.reverse ++ (sv ++ tv))) (rd ++ (accd.reverse ++ (sd ++ td))) H' ∧ compL (r.1.drop i) (compF C.Φ C.gv t cs ie (wipeD ρ own)) = .ok zs ∧ accd ++ zs = ys, ⟨_, rfl, Nat.zero_le _, [], ys, rfl, (show Holds C.G B F0 Lk (L2.wipe σ own) (wipeD ρ own) (rv ++ (([] : List V).reverse ++ (sv ++ tv))) (rd ++ (([] : List D).reverse ++ (sd ++ td))) H1 from h3), hy, rfl⟩, ?_⟩
  rintro i m acc H' ⟨rfl, hi, accd, zs, el, hh, hz, ey⟩
  by_cases hlt : i < r.1.length
  · refine .inr ⟨wk.go i hh hlt, fun a' H'' => ∃ accd zs, a'.length = accd.length ∧ Holds C.G B F0 Lk (L2.wipe σ own) (wipeD ρ own) (rv ++ (a'.reverse ++ (sv ++ tv))) (rd ++ (accd.reverse ++ (sd ++ td))) H'' ∧ compL (r.1.drop (i + 1)) (compF C.Φ C.gv t cs ie (wipeD ρ own)) = .ok zs ∧ accd ++ zs = ys, fun a' H'' z => ⟨r.1.length - (i + 1), by omega, rfl, hlt, z⟩, fun x H2 hyl => ?_⟩
    have hx : r.1[i]? = some r.1[i] := List.getElem?_eq_getElem hlt
    have h4 := wk.yld hh hx hyl
    rw [take_succ_of hlt] at hz
    obtain ⟨o, zs', hF, hz', ez⟩ := compL_cons hz
    refine ⟨B, F0, Lk, wipeD ρ own, _, _, _, h4, ?_⟩
    unfold compF at hF
    cases hb : bindTg t r.1[i] (wipeD ρ own) with
    | exc _ => rw [hb] at hF; cases hF
    | bad => rw [hb] at hF; cases hF
    | ok ρ' =>
      rw [hb, Out.bind_ok] at hF
      intro σ2 hs2 h5
      have ew : L2.wipe σ2 own = L2.wipe σ own := by rw [hs2 own ht, wipe_wipe]
      have eD : wipeD ρ' own = wipeD ρ own := by rw [bindTg_wipe hb ht, wipeD_wipeD]
      refine ⟨ew, B, F0, Lk, ρ', _, _, h5, ?_⟩
      cases hc : evc C.Φ C.gv cs ρ' with
      | exc _ => rw [hc] at hF; cases hF
      | bad => rw [hc] at hF; cases hF
      | ok b =>
        rw [hc, Out.bind_ok] at hF
        intro H3 h6
        cases b with
        | false =>
          rw [if_neg (by decide)] at hF ⊢
          cases hF
          have h7 := Holds.wipe (vs := own) h6
          rw [ew, eD] at h7
          exact ⟨accd, zs', el, h7, hz', by rw [← ey, ez]⟩
        | true =>
          rw [if_pos rfl] at hF ⊢
          refine ⟨B, F0, Lk, ρ', _, _, h6, ?_⟩
          cases he : ev C.Φ C.gv ie ρ' with
          | exc _ => rw [he] at hF; cases hF
          | bad => rw [he] at hF; cases hF
          | ok y =>
            rw [he, Out.bind_ok] at hF
            cases hF
            intro v H4 h7
            have h8 := Holds.wipe (vs := own) (Holds.down h7 wk.len)
            rw [ew, eD] at h8
            have ey' : accd ++ [y] ++ zs' = ys := by rw [← ey, ez, List.append_assoc]; rfl
            refine ⟨?_, accd ++ [y], zs', by simp [el], ?_, hz', ey'⟩
            · have e9 : ys.length = accd.length + 1 + zs'.length := by rw [← ey', List.length_append, List.length_append]; rfl
              omega
            · rw [List.reverse_append, List.reverse_append]
              exact h8
  · have e : i = r.1.length := by omega
    subst e
    rw [List.drop_length] at hz
    have z0 := compL_nil hz
    subst z0
    rw [List.append_nil] at ey
    subst ey
    refine .inl ⟨wk.stop hh, by rw [el]; exact hlen, fun D hD => w3 _ _ ?_⟩
    have h4 := Holds.popn hh wk.len
    have h5 := Holds.revd h4 (by rw [List.length_reverse, List.length_reverse, el])
    rw [List.reverse_reverse, List.reverse_reverse] at h5
    have h6 := Holds.newLst h5 el hD
    exact back _ _ _ (Holds.down h6 es)
/-- own's places are those of the block's names -/
theorem s_comp {own : List (Str × Nat)} (hw : ∀ i ∈ tgIx t, i ∈ own.map (·.2)) (hbk : blkC N sc scope own = true) (hf : ∀ env x, foldedSetIterable iter env x = pure x)
    (h : ∀ x ∈ st', L2.Loc (relS scope sc) x ∧ ((scope.names.lookup x == some NameKind.cell) = true ∨ (relS scope sc).names.lookup x = some NameKind.local))
    (hi : SI C k N sc st tg iter it) (hg : SG C k N (relS scope sc) st' tg t) (hc : SCs C k N (relS scope sc) st' ifs cs) (he : SE C k N (relS scope sc) st' elt ie) :
    SE C k N sc st (.ListComp elt [⟨tg, iter, ifs, 0⟩] scope pos) (.comp (own.map (·.2)) ie t it cs) := fun X W hX => by
  have ok : BlkOk X.N X.env.scope scope own := by rw [hX.eN, hX.eS]; exact blkOk_by hbk
  exact PE.imp (pe_lu hX.calm (by rw [hX.eN]; exact hX.nd) (hi X W hX) ok (fun s H c cl fp => have z := ctx_blk hX h s H c cl fp; ⟨hg _ _ z, hc _ _ z, he _ _ z⟩) (hf X.env)) fun σ H Q q => comp_tail hw q
end
end Pu

set_option Elab.async false
set_option linter.all false
set_option maxRecDepth 100000
set_option maxHeartbeats 1000000
/-! PuG1: any, all over a generator expression: the loop. -/
namespace Pu
open PySem PySem.Spec PyProof.Rows L2
theorem over_gen {A : Around} {elt : Expr} {gs : List Comprehension} {scope : Scope} {pos : Pos} {it acc : Value} {env : Env} : A.over (.compLoop (.GeneratorExp elt gs scope pos) 0 it acc env) [] = A.deeper env := by
  first
    | rfl
    | (obtain ⟨hd, d, fr, gs, u⟩ := A; simp [Around.over, Around.deeper, marksOver, frameCount, unitsOf, envsOf, guardsOf, pushEnvs, pushGuards, Code.envs, Code.env?, Code.isFrame, Code.guards, Code.isGuard, Code.weight, Code.frames, Code.isCreation, Code.isCaller, Code.cUnits])
theorem over_gen0 {A : Around} {elt : Expr} {gs : List Comprehension} {scope : Scope} {pos : Pos} {it acc : Value} {env : Env} : A.over (.compStart (.GeneratorExp elt gs scope pos) 0 it acc env) [] = A.deeper env := by
  first
    | rfl
    | (obtain ⟨hd, d, fr, gs, u⟩ := A; simp [Around.over, Around.deeper, marksOver, frameCount, unitsOf, envsOf, guardsOf, pushEnvs, pushGuards, Code.envs, Code.env?, Code.isFrame, Code.guards, Code.isGuard, Code.weight, Code.frames, Code.isCreation, Code.isCaller, Code.cUnits])
/-- while it sleeps, nothing is changed but the generators' states -/
structure Nap (s s' : Shared) : Prop where
  heap : s'.heap = s.heap
  os : s'.os = s.os
  bare : AllBare s'.gens
theorem nap_inv {Z : Cx} {pins : List (Addr × Obj)} {σ : L2.St} {H : Hp} {s s' : Shared} (I : Inv Z pins σ H s) (z : Nap s s') : Inv Z pins σ H s' := by
  obtain ⟨h', g', d', t', o'⟩ := s'
  obtain ⟨e1, e2, e3⟩ := z
  have e1 : h' = s.heap := e1
  have e2 : o' = s.os := e2
  subst e1 e2
  exact I.step (g' := g') (t' := t') (d' := d') (h' := s.heap) (H' := H) (ch := []) (fun b hb => by cases hb) (fun b o _ _ _ e _ => e) (fun b o _ _ _ e _ => ⟨o.slots, e⟩) (fun b o _ _ n => n) (fun b o _ e => ⟨o, e⟩) (fun b xs e => e) (fun b o u e => e)
    (fun b ps e => ⟨#[], by rw [e]; simp⟩) (fun m hm => hm) I.hok e3
/-- an item comes out: go on, or the answer is had -/
def YB (Z : Cx) (σ0 : L2.St) (all : Bool) (Qo : Hp → Prop) : Protocol := fun n s₀ v s kap => ∃ b H, v = .bool b ∧ Inv Z [] σ0 H s ∧ (if b = all then ∀ s', Nap s s' → kap (.send .none) s' else Qo H)
def RB (Z : Cx) (σ0 : L2.St) (Qe : Hp → Prop) : GenEnd := fun n s₀ r s1 => r = .ok .next ∧ ∃ H, Inv Z [] σ0 H s1 ∧ Qe H
/-- one turn's wish -/
def GStep (J : L2.It) (g : TG) (te : TE) (vs : List Nat) (σ0 : L2.St) (all : Bool) (Qe Qo : Hp → Prop) (W : Nat → Nat → Hp → Prop) : Prop := ∀ i m H, W i m H →
  (J.stop i H ∧ Qe H) ∨ (J.go i H ∧ ∃ Nx : Hp → Prop, (∀ H', Nx H' → ∃ m', m' < m ∧ W (i + 1) m' H') ∧ ∀ x H', J.yld i H x H' → g x σ0 H' fun σ2 H2 => wipe σ2 vs = σ0 ∧ te σ2 H2 fun y H3 => ∃ b, y = .bl b ∧ if b = all then Nx H3 else Qo H3)
theorem seg_gen {Z : Cx} {A : Around} {tg elt iter : Expr} {scope : Scope} {pos : Pos} {it : Addr} {fp : List Addr} {tn : Nat → Heap → Prop} {J : L2.It} {g : TG} {te : TE} {vs : List Nat} {σ0 : L2.St} {all : Bool} {Qe Qo : Hp → Prop} {W : Nat → Nat → Hp → Prop}
    (hA : A.deeper Z.env = Z.A) (hc : Z.calm = true) (hx : Z.xe = fun _ _ => False) (hco : Z.env.scope.isCoroutine = false) (T : Turn Z.prog Z.w Z.K tg J fp it tn) (pg : PG Z tg g) (pe : PE Z elt te) (hfe : ∀ b ∈ fp, b ∈ Z.ex) (hfp : ∀ b ∈ fp, ∀ p ∈ Z.pn, p.1 ≠ b) (h0 : wipe σ0 vs = σ0)
    (step : GStep J g te vs σ0 all Qe Qo W) : ∀ (n i m : Nat) (H : Hp) (s₀ s : Shared), m < n → Inv Z [] σ0 H s → tn i s.heap → (∀ b ∈ fp, H b = none) → W i m H →
      Seg (model Z.prog Z.w) A (RB Z σ0 Qe) (YB Z σ0 all Qo) n s₀ (.compLoop (.GeneratorExp elt [⟨tg, iter, [], 0⟩] scope pos) 0 (.ref it) .none Z.env)
        ((model Z.prog Z.w).den (.compLoop (.GeneratorExp elt [⟨tg, iter, [], 0⟩] scope pos) 0 (.ref it) .none Z.env)) [] s := by
  have stat : ∀ {σ' : L2.St} {H' : Hp} {s' : Shared}, Inv Z [] σ' H' s' → (∀ b ∈ fp, H' b = none) → ∀ b ∈ fp, FpOk Z [] H' b := fun {σ' H' s'} I' hn b hb =>
    ⟨hn b hb, (I'.ok.exf b (hfe b hb)).1, I'.ok.exfs b (hfe b hb), .inl (hfe b hb), fun x c e => (I'.ok.exf b (hfe b hb)).2 x c e, fun p hp => by
      rw [List.append_nil] at hp
      exact hfp b hb p hp⟩
  intro n
  induction n with
  | zero => intro i m H s₀ s hm; exact absurd hm (Nat.not_lt_zero _)
  | succ n ih =>
    intro i m H s₀ s hm I st nf w
    have hh : (A.over (.compLoop (.GeneratorExp elt [⟨tg, iter, [], 0⟩] scope pos) 0 (.ref it) .none Z.env) []) = Z.A := by rw [over_gen]; exact hA
    show Seg _ A _ _ _ s₀ _ ((compTurn (.GeneratorExp elt [⟨tg, iter, [], 0⟩] scope pos) 0 (.ref it) .none Z.env).onRaise (leaving Z.env)) [] s
    rw [compTurn_gen, Sem.onRaise_eq_wrap]
    refine seg_bind_wrap (wpAny_standAt ?_)
    rcases step i m H w with ⟨stop, qe⟩ | ⟨go, Nx, hNx, turn⟩
    · have td := T.done Z rfl rfl rfl hc i [] s _ H (fun _ _ => False) I (stat I nf) st stop
      rw [← hh] at td
      refine seg_bind_wrap (wpAny_mono td (fun r s1 z => ?_) fun _ _ e => e.elim)
      obtain ⟨hr, I1⟩ := z
      subst hr
      exact seg_end (.ok .next) ⟨rfl, H, I1, qe⟩
    · have ti := T.item Z rfl rfl rfl hc i [] s _ H (fun _ _ => False) I (stat I nf) st go
      rw [← hh] at ti
      refine seg_bind_wrap (wpAny_mono ti (fun r s1 z => ?_) fun _ _ e => e.elim)
      obtain ⟨u, hr, z⟩ := z
      subst hr
      refine seg_bind_wrap (wpAny_mono z (fun _ s2 z => ?_) fun _ _ e => e.elim)
      obtain ⟨x, H2, I2, r2, y2, st2, n2⟩ := z
      have I2' := I2.pinned (stat I2 n2) (T.obj _ _ st2)
      have pgr := pg.run _ s2 _ H2 x u _ I2' r2 (turn x H2 y2)
      rw [hx, ← hh] at pgr
      refine seg_bind_wrap (wpAny_mono pgr (fun _ s3 z => ?_) fun _ _ e => e.elim)
      obtain ⟨σ3, H3, I3, hw3, q3⟩ := z
      refine seg_bind_wrap (wpAny_pure ?_)
      simp only [if_true]
      have hy : ∀ v, yieldOut Z.env v = yieldValue v := fun v => by simp only [yieldOut, hco, Bool.false_eq_true, if_false]
      simp only [hy]
      rw [Sem.bind_eq_wrap', Sem.bind_eq_wrap', Sem.wrap_wrap, Sem.wrap_wrap]
      have per := pe.run _ s3 σ3 H3 _ I3 q3
      rw [hx, ← hh] at per
      refine seg_wrap (wpAny_mono per (fun v s4 z => ?_) fun _ _ e => e.elim)
      obtain ⟨y, H4, I4, r4, b, ey, q4⟩ := z
      subst ey
      have r4 : v = .bool b := r4
      have pin' : ∀ b ∈ fp, ∀ o, s2.heap.get? b = some o → s4.heap.get? b = some o ∧ H4 b = none := fun b hb o e =>
        let z := I4.pin (b, o) (List.mem_append_right _ (List.mem_append_right _ (mem_pinsAt hb e)))
        ⟨z.1, z.2.1⟩
      have I5 : Inv Z [] σ0 H4 s4 := (I4.unpinned (pins := [])).weak (by rw [← hw3, wipe_length]) fun j v e => by
        rw [← hw3] at e
        exact (wipe_some e).1
      refine seg_at (seg_yield rfl rfl rfl ⟨b, H4, r4, I5, ?_⟩)
      by_cases hb : b = all
      · rw [if_pos hb] at q4 ⊢
        intro s' nap
        obtain ⟨m', hm', w'⟩ := hNx H4 q4
        refine seg_again rfl (ih (i + 1) m' H4 s' s' (by omega) (nap_inv I5 nap) (T.keep _ _ _ st2 fun b hb o e => by rw [nap.heap]; exact (pin' b hb o e).1) (fun b hb => ?_) w')
        obtain ⟨o, e, _⟩ := T.obj _ _ st2 b hb
        exact (pin' b hb o e).2
      · rw [if_neg hb] at q4 ⊢
        exact q4
end Pu

set_option Elab.async false
set_option linter.all false
set_option maxRecDepth 100000
set_option maxHeartbeats 1000000
/-! PuG2: any, all over a generator expression: who asks it. -/
namespace Pu
open PySem PySem.Spec PyProof.Rows L2
theorem seg_gen0 {Z : Cx} {A : Around} {tg elt iter : Expr} {scope : Scope} {pos : Pos} {it : Addr} {fp : List Addr} {tn : Nat → Heap → Prop} {J : L2.It} {R : GenEnd} {Y : Protocol} {n : Nat} {s₀ s : Shared} (T : Turn Z.prog Z.w Z.K tg J fp it tn) (st : tn 0 s.heap)
    (loop : Seg (model Z.prog Z.w) A R Y n s₀ (.compLoop (.GeneratorExp elt [⟨tg, iter, [], 0⟩] scope pos) 0 (.ref it) .none Z.env) ((model Z.prog Z.w).den (.compLoop (.GeneratorExp elt [⟨tg, iter, [], 0⟩] scope pos) 0 (.ref it) .none Z.env)) [] s) :
    Seg (model Z.prog Z.w) A R Y n s₀ (.compStart (.GeneratorExp elt [⟨tg, iter, [], 0⟩] scope pos) 0 (.ref it) .none Z.env) ((model Z.prog Z.w).den (.compStart (.GeneratorExp elt [⟨tg, iter, [], 0⟩] scope pos) 0 (.ref it) .none Z.env)) [] s := by
  show Seg _ A _ _ _ s₀ _ ((compStart (.GeneratorExp elt [⟨tg, iter, [], 0⟩] scope pos) 0 (.ref it) .none Z.env).onRaise (leaving Z.env)) [] s
  unfold compStart
  rw [Sem.onRaise_eq_wrap]
  show Seg _ A _ _ _ s₀ _ ((ask >>= _).wrap _ _ _ _) [] s
  refine seg_bind_wrap (wpAny_askSetting ?_)
  split
  · exact seg_again rfl loop
  · first
      | exact seg_bind_wrap (wpAny_rule (seg_bind_wrap (wpAny_standAt (seg_bind_wrap (T.self _ 0 s _ _ st (seg_again rfl loop))))))
      | (refine seg_bind_wrap (wpAny_rule ?_); show Seg _ A _ _ _ s₀ _ ((standAt iter.pos >>= _).wrap _ _ _ _) [] s; exact seg_bind_wrap (wpAny_standAt (seg_bind_wrap (T.self _ 0 s _ _ st (seg_again rfl loop)))))
/-- a generator that sleeps -/
def Slp (M : Model) (A : Around) (R : GenEnd) (Y : Protocol) (a : Addr) (g : Nat) (n : Nat) (s : Shared) : Prop :=
  s.heap.NoLimit ∧ s.heap.IsGen a g ∧ AllBare s.gens ∧ ∃ gs, s.gens[g]? = some gs ∧ ∀ s', Nap s s' → gs.Goes M A R Y n (.send .none) s'
/-- behind the last one -/
structure Late (s s' : Shared) : Prop where
  heap : ∀ b o, s.heap.get? b = some o → s'.heap.get? b = some o
  os : s'.os = s.os
  bare : AllBare s'.gens
theorem nap_run {s : Shared} {g : Nat} (h : AllBare s.gens) : Nap s (s.setGen g .running) := ⟨rfl, rfl, allBare_setGen h rfl⟩
section
variable {Z : Cx} {A : Around} {σ0 : L2.St} {all : Bool} {Qe Qo : Hp → Prop} {a : Addr} {g : Nat} {go : Obj} {R : Result → Shared → Prop}
/-- one question -/
theorem gen_next {n : Nat} {s : Shared} {Qf : Option Value → Shared → Prop} (hh : A.handled = none) (hroom : A.depth < recursionLimit) (hgo : (a, go) ∈ Z.pn) (isg : ∀ h : Heap, h.get? a = some go → h.IsGen a g) (S : Slp (model Z.prog Z.w) A.in1 (RB Z σ0 Qe) (YB Z σ0 all Qo) a g n s)
    (hE : ∀ H s₁ s', Inv Z [] σ0 H s₁ → Qe H → Late s₁ s' → Qf none s') (hO : ∀ H s₁ s', Inv Z [] σ0 H s₁ → Qo H → Late s₁ s' → Qf (some (.bool (!all))) s')
    (hY : ∀ m s', m < n → Slp (model Z.prog Z.w) A.in1 (RB Z σ0 Qe) (YB Z σ0 all Qo) a g m s' → Qf (some (.bool all)) s') : wpAny (model Z.prog Z.w) A (pyNext (.ref a)) Qf (fun _ _ => False) s := by
  obtain ⟨hl, hg, hb, gs, hgs, goes⟩ := S
  have hgl : g < s.gens.size := (Array.getElem?_eq_some_iff.mp hgs).1
  refine GenW.wpAny_gsz (n := g + 1) hgl ?_
  refine wpAny_pyNext_genexpQ (P := fun n s₀ s₁ => ∃ H, Inv Z [] σ0 H s₁ ∧ Qe H) hh hl hroom hg hgs (goes _ (nap_run hb)) (fun v s₁ gs' hbare hv => ?_) (fun s₁ hp h' hk => ?_)
  · obtain ⟨b, H, rfl, I, q⟩ := hv
    intro hsz
    have bare' : AllBare (s₁.setGen g gs').gens := allBare_setGen I.bare hbare
    have late : Late s₁ (s₁.setGen g gs') := ⟨fun b o e => e, rfl, bare'⟩
    by_cases hb' : b = all
    · subst hb'
      rw [if_pos rfl] at q
      have hat : (s₁.setGen g gs').gens[g]? = some gs' := by
        rw [GenW.setGen_size] at hsz
        show (s₁.gens.setIfInBounds g gs')[g]? = some gs'
        rw [Array.getElem?_setIfInBounds_self_of_lt (by omega)]
      cases n with
      | zero => exact (q (s₁.setGen g gs') ⟨rfl, rfl, bare'⟩).elim
      | succ m =>
        refine hY m _ (Nat.lt_succ_self _) ⟨I.nolimit, isg _ (I.pin (a, go) (by rw [List.append_nil]; exact hgo)).1, bare', gs', hat, fun s' nap => ?_⟩
        exact q s' ⟨nap.heap, nap.os, nap.bare⟩
    · rw [if_neg hb'] at q
      have e : b = !all := by cases b <;> cases all <;> first | rfl | exact absurd rfl hb'
      rw [e]
      exact hO H s₁ _ I q late
  · obtain ⟨H, I, q⟩ := hp
    intro _
    exact hE H s₁ _ I q ⟨hk, rfl, allBare_setGen I.bare rfl⟩
theorem any_loop (hf : all = false) (hh : A.handled = none) (hroom : A.depth < recursionLimit) (hgo : (a, go) ∈ Z.pn) (isg : ∀ h : Heap, h.get? a = some go → h.IsGen a g)
    (hE : ∀ H s₁ s', Inv Z [] σ0 H s₁ → Qe H → Late s₁ s' → R (.ok (.ret (.bool all))) s') (hO : ∀ H s₁ s', Inv Z [] σ0 H s₁ → Qo H → Late s₁ s' → R (.ok (.ret (.bool (!all)))) s') :
    ∀ (n : Nat) (s : Shared), Slp (model Z.prog Z.w) A.in1.in1 (RB Z σ0 Qe) (YB Z σ0 all Qo) a g n s → codeAny (model Z.prog Z.w) A (.builtin "any.loop" ⟨[.ref a], []⟩) R s := by
  subst hf
  intro n
  induction n using Nat.strongRecOn with
  | _ n ih =>
    intro s S
    refine codeAny_builtin F.entry_any_loop ?_
    rw [Around.under_plainId F.plain_any_loop _]
    show wpAny _ A.in1 (pyNext (.ref a) >>= _) _ _ s
    refine wpAny_bind (wpAny_mono (gen_next (A := A.in1) hh hroom hgo isg S (Qf := fun r s' => match r with
      | none => R (.ok (.ret (.bool false))) s'
      | some v => (v = .bool true ∧ R (.ok (.ret (.bool true))) s') ∨ (v = .bool false ∧ ∃ m, m < n ∧ Slp (model Z.prog Z.w) A.in1.in1 (RB Z σ0 Qe) (YB Z σ0 false Qo) a g m s')) (fun H s₁ s' I q l => hE H s₁ s' I q l) (fun H s₁ s' I q l => .inl ⟨rfl, hO H s₁ s' I q l⟩) (fun m s' hm S' => .inr ⟨rfl, m, hm, S'⟩)) (fun r s' z => ?_) fun _ _ e => e.elim)
    cases r with
    | none => exact wpAny_bind (wpAny_rule (wpAny_pure z))
    | some v =>
      rcases z with ⟨rfl, z⟩ | ⟨rfl, m, hm, S'⟩
      · refine wpAny_bind (wpAny_holding (wpAny_truthy_bool ?_))
        refine wpAny_bind (wpAny_letGo ?_)
        simp only [if_true]
        exact wpAny_bind (wpAny_rule (wpAny_pure z))
      · refine wpAny_bind (wpAny_holding (wpAny_truthy_bool ?_))
        refine wpAny_bind (wpAny_letGo ?_)
        simp only [Bool.false_eq_true, if_false]
        exact wpAny_pure ⟨plainId_quiet F.plain_any_loop _, ih m hm _ S'⟩
theorem all_loop (hf : all = true) (hh : A.handled = none) (hroom : A.depth < recursionLimit) (hgo : (a, go) ∈ Z.pn) (isg : ∀ h : Heap, h.get? a = some go → h.IsGen a g)
    (hE : ∀ H s₁ s', Inv Z [] σ0 H s₁ → Qe H → Late s₁ s' → R (.ok (.ret (.bool all))) s') (hO : ∀ H s₁ s', Inv Z [] σ0 H s₁ → Qo H → Late s₁ s' → R (.ok (.ret (.bool (!all)))) s') :
    ∀ (n : Nat) (s : Shared), Slp (model Z.prog Z.w) A.in1.in1 (RB Z σ0 Qe) (YB Z σ0 all Qo) a g n s → codeAny (model Z.prog Z.w) A (.builtin "all.loop" ⟨[.ref a], []⟩) R s := by
  subst hf
  intro n
  induction n using Nat.strongRecOn with
  | _ n ih =>
    intro s S
    refine codeAny_builtin F.entry_all_loop ?_
    rw [Around.under_plainId F.plain_all_loop _]
    show wpAny _ A.in1 (pyNext (.ref a) >>= _) _ _ s
    refine wpAny_bind (wpAny_mono (gen_next (A := A.in1) hh hroom hgo isg S (Qf := fun r s' => match r with
      | none => R (.ok (.ret (.bool true))) s'
      | some v => (v = .bool false ∧ R (.ok (.ret (.bool false))) s') ∨ (v = .bool true ∧ ∃ m, m < n ∧ Slp (model Z.prog Z.w) A.in1.in1 (RB Z σ0 Qe) (YB Z σ0 true Qo) a g m s')) (fun H s₁ s' I q l => hE H s₁ s' I q l) (fun H s₁ s' I q l => .inl ⟨rfl, hO H s₁ s' I q l⟩) (fun m s' hm S' => .inr ⟨rfl, m, hm, S'⟩)) (fun r s' z => ?_) fun _ _ e => e.elim)
    cases r with
    | none => exact wpAny_bind (wpAny_rule (wpAny_pure z))
    | some v =>
      rcases z with ⟨rfl, z⟩ | ⟨rfl, m, hm, S'⟩
      · refine wpAny_bind (wpAny_holding (wpAny_truthy_bool ?_))
        refine wpAny_bind (wpAny_letGo ?_)
        simp only [Bool.false_eq_true, if_false]
        exact wpAny_bind (wpAny_rule (wpAny_pure z))
      · refine wpAny_bind (wpAny_holding (wpAny_truthy_bool ?_))
        refine wpAny_bind (wpAny_letGo ?_)
        simp only [if_true]
        exact wpAny_pure ⟨plainId_quiet F.plain_all_loop _, ih m hm _ S'⟩
end
end Pu

set_option Elab.async false
set_option linter.all false
set_option maxRecDepth 100000
set_option maxHeartbeats 1000000
/-! PuG3: any, all over a generator expression: its own frame. -/
namespace Pu
open PySem PySem.Spec PyProof.Rows L2
/-- the frame of a generator expression made at s -/
abbrev genX (X : Cx) (s : Shared) (H : Hp) (cenv : Env) (fp : List Addr) (pn : List (Addr × Obj)) : Cx :=
  { X with A := X.A.in1.in1.deeper cenv, s_0 := s, H_0 := H, env := cenv, outer := X.stack, stack := cenv :: X.stack, ex := fp, fn := fun _ => false, pn := pn, xe := fun _ _ => False }
section
variable {X : Cx} {pins : List (Addr × Obj)} {σ : L2.St} {H : Hp} {s : Shared}
theorem gen_start {scope : Scope} {own : List (Str × Nat)} {fp : List Addr} {a : Addr} {go : Obj} {h5 : Heap} {G5 : Array GenState} {t5 : Nat} {code : Value} {m0 : Str → Option Value} (I : Inv X pins σ H s) (ok : BlkOk X.N X.env.scope scope own) (hcell : ∀ y ∈ scope.names, y.2 ≠ .cell) (hN : X.N.Nodup) (hfp : ∀ b ∈ fp, FpOk X pins H b ∧ b < s.heap.objs.size)
    (kp : ∀ b o, s.heap.get? b = some o → h5.get? b = some o) (ns : h5.Ns s.heap.objs.size m0) (ha : h5.get? a = some go) (hsa : s.heap.objs.size < a) (hgo : ∀ v, go.data ≠ .cell v) (hb : AllBare G5) :
    Inv (genX X s H (genEnv scope (cloFrom X.env.cells scope.names []) s.heap.objs.size code builtinsNs X.env) fp [(a, go)]) [] (wipe σ (own.map (·.2))) H { s with heap := h5, gens := G5, toks := t5 } := by
  have captured : ∀ y ∈ scope.names, y.2 = .free → ∃ c, X.env.cells.lookup y.1 = some c := fun y hy e => (ok.free y hy e).elim (fun k => I.ok.has _ (.inl k)) fun k => I.ok.has _ (.inr k)
  have cm : ∀ {y c}, (y, c) ∈ cloFrom X.env.cells scope.names [] → X.env.cells.lookup y = some c ∧ c < s.heap.objs.size := fun {y c} hm => by
    rcases cloFrom_mem hm with hm | ⟨h1, rfl⟩
    · cases hm
    · obtain ⟨c, hc⟩ := captured _ h1 rfl
      rw [hc]
      obtain ⟨w, z⟩ := I.cell _ _ hc
      exact ⟨rfl, z.lt⟩
  have look : ∀ {y}, scope.names.lookup y = some .free → ∃ c, (cloFrom X.env.cells scope.names []).lookup y = some c ∧ X.env.cells.lookup y = some c := fun {y} hl => by
    have hy : (y, NameKind.free) ∈ scope.names := PySem.mem_of_lookup hl
    obtain ⟨c', e'⟩ := mem_lookup (cloFrom_has (cells := X.env.cells) (acc := []) hy)
    exact ⟨c', e', (cm (PySem.mem_of_lookup e')).1⟩
  generalize hce : genEnv scope (cloFrom X.env.cells scope.names []) s.heap.objs.size code builtinsNs X.env = ce
  have hL : ce.locals = s.heap.objs.size := by rw [← hce]; rfl
  have hcl : ce.cells = cloFrom X.env.cells scope.names [] := by rw [← hce]; rfl
  have hsc : ce.scope = scope := by rw [← hce]; rfl
  have okZ : (genX X s H ce fp [(a, go)]).Ok := by
    refine ⟨I.ok.mod, by show ce.scope.kind = _; rw [hsc]; exact ok.kind, by show ce.globals = _; rw [← hce]; exact I.ok.glob, by show ce.builtins = _; rw [← hce]; rfl, by show s.heap.objs.size ≤ ce.locals; rw [hL]; exact Nat.le_refl _,
      fun y z c e1 e2 => ?_, fun y hy => ?_, fun y c z e => (by cases z), I.ok.hd, Around.frames_deeper I.ok.frames, .inr ⟨rfl, by show ce.frame = some ce.locals; rw [← hce]; rfl⟩, fun b hb => ⟨?_, fun y c e z => ?_⟩, I.bs, Nat.le_trans I.ok.bsz I.sz, fun b o e hb => ?_, fun b hb z => ?_, I.stack, I.stkFree⟩
    · have e1 : ce.cells.lookup y = some c := e1
      have e2 : ce.cells.lookup z = some c := e2
      rw [hcl] at e1 e2
      exact I.ok.inj y z c (cm (PySem.mem_of_lookup e1)).1 (cm (PySem.mem_of_lookup e2)).1
    · show ∃ c, ce.cells.lookup y = some c
      have hy : ce.scope.names.lookup y = some .cell ∨ ce.scope.names.lookup y = some .free := hy
      rw [hsc] at hy
      rw [hcl]
      rcases hy with hy | hy
      · exact absurd rfl (hcell _ (PySem.mem_of_lookup hy))
      · obtain ⟨c, e, _⟩ := look hy
        exact ⟨c, e⟩
    · show b ≠ ce.locals
      rw [hL]; exact Nat.ne_of_lt (hfp b hb).2
    · have e : ce.cells.lookup y = some c := e
      rw [hcl] at e
      exact (hfp b hb).1.2.2.2.2.1 y c (cm (PySem.mem_of_lookup e)).1 z
    · rcases (hfp b hb).1.2.2.2.1 with z | z
      · exact I.ok.noex b o e z
      · exact absurd (Nat.lt_of_lt_of_le (Heap.lt_size e) (Nat.le_trans I.ok.bsz z)) (Nat.lt_irrefl _)
    · rcases List.mem_cons.mp (I.stkSub b z) with z | z
      · exact (hfp b hb).1.2.1 z
      · exact (hfp b hb).1.2.2.1 z
  refine ⟨okZ, rfl, hb, Un.kept kp, ⟨m0, ?_, fun i y av e1 e2 e3 => ?_⟩, fun y c e => ?_, ?_, fun y c e => ?_, fun p hp => ?_, I.hok.kept kp, by rw [wipe_length]; exact I.len⟩
  · show Heap.Ns _ ce.locals _
    rw [hL]; exact ns
  · obtain ⟨e2, hne⟩ := wipe_some e2
    have e3 : Vis ce.scope y := e3
    rw [hsc] at e3
    have hfr : scope.names.lookup y = some .free := by
      have no : ∀ k, scope.names.lookup y = some k → k = .local ∨ k = .cell → False := fun k hk hh => by
        rcases ok.own _ (PySem.mem_of_lookup hk) hh with e' | e'
        · obtain ⟨p, hp, hpy⟩ := List.mem_map.mp e'
          have e3 := ok.ix p hp
          have hpy : p.1 = y := hpy
          rw [hpy] at e3
          exact hne (List.mem_map.mpr ⟨p, hp, nodup_ix hN e3 e1⟩)
        · exact e' (List.mem_of_getElem? e1)
      rcases e3 with e3 | e3 | e3
      · exact (no _ e3 (.inl rfl)).elim
      · exact (no _ e3 (.inr rfl)).elim
      · exact e3
    obtain ⟨m, hn, hl⟩ := I.loc
    have hvis : Vis X.env.scope y := (ok.free _ (PySem.mem_of_lookup hfr) rfl).elim (fun k => .inr (.inl k)) (fun k => .inr (.inr k))
    obtain ⟨w, r, q⟩ := hl i y av e1 e2 hvis
    refine ⟨w, r, .inr ⟨.inr (by show ce.scope.names.lookup y = _; rw [hsc]; exact hfr), ?_⟩⟩
    obtain ⟨c, h1, h2⟩ := look hfr
    rcases q with ⟨k, _⟩ | ⟨_, c', e', z⟩
    · have k : X.env.scope.names.lookup y = some .local := k
      rcases ok.free _ (PySem.mem_of_lookup hfr) rfl with k' | k' <;> rw [show X.env.scope.names.lookup y = _ from k'] at k <;> cases k
    · rw [h2] at e'; cases e'
      exact ⟨c, by show ce.cells.lookup y = _; rw [hcl]; exact h1, z.keeps kp⟩
  · have e : ce.cells.lookup y = some c := e
    rw [hcl] at e
    obtain ⟨w, z⟩ := I.cell y c (cm (PySem.mem_of_lookup e)).1
    exact ⟨w, z.keeps kp⟩
  · show H ce.locals = none
    rw [hL]; exact I.hok.fresh (Nat.le_refl _)
  · have e : ce.cells.lookup y = some c := e
    rw [hcl] at e
    exact I.freeC y c (cm (PySem.mem_of_lookup e)).1
  · rw [List.append_nil] at hp
    have hp : p ∈ [(a, go)] := hp
    rw [List.mem_singleton.mp hp]
    refine ⟨ha, I.hok.fresh (Nat.le_of_lt hsa), ?_, fun z => ?_, hgo⟩
    · show a ≠ ce.locals
      rw [hL]; exact Nat.ne_of_gt hsa
    · have z : a ∈ frs X.stack := z
      rcases List.mem_cons.mp (I.stkSub a z) with z | z
      · exact absurd (Nat.lt_trans I.lt hsa) (by rw [← z]; exact Nat.lt_irrefl _)
      · exact I.nofs (Nat.le_of_lt hsa) z
end
end Pu

set_option Elab.async false
set_option linter.all false
set_option maxRecDepth 100000
set_option maxHeartbeats 1000000
/-! PuG4: any(elt for target in iter), all(..). -/
namespace Pu
open PySem PySem.Spec PyProof.Rows L2
/-- behind it the def's table of code objects may have grown -/
def tGen (P : Addr) (wi : TI) (g : TG) (te : TE) (vs : List Nat) (all : Bool) : TE := fun σ H Q => wi σ H fun J H1 => (∃ ps, H1 P = some (.tbl ps) ∧ TriplesOk ps.toList) ∧ ∀ ps' : Array Value, TriplesOk ps'.toList → ∃ W : Nat → Nat → Hp → Prop, (∃ m, W 0 m (L2.upd H1 P (.tbl ps'))) ∧
  GStep J g te vs (wipe σ vs) all (fun H' => Q (.bl all) H') (fun H' => Q (.bl (!all)) H') W
/-- made, and not yet asked -/
def Made (X : Cx) (pins : List (Addr × Obj)) (σ : L2.St) (all : Bool) (Q : VK) (a : Addr) (s5 : Shared) : Prop := ∃ (Z : Cx) (σ0 : L2.St) (g n : Nat) (go : Obj), Z.prog = X.prog ∧ Z.w = X.w ∧ (a, go) ∈ Z.pn ∧ (∀ h : Heap, h.get? a = some go → h.IsGen a g) ∧
  Slp (model Z.prog Z.w) X.A.in1.in1 (RB Z σ0 fun H => Q (.bl all) H) (YB Z σ0 all fun H => Q (.bl (!all)) H) a g n s5 ∧ s5.heap.IsGen a g ∧ ∀ H s₁ s', Inv Z [] σ0 H s₁ → Late s₁ s' → Inv X pins σ H s'
theorem late_inv {Z : Cx} {pins : List (Addr × Obj)} {σ : L2.St} {H : Hp} {s s' : Shared} (I : Inv Z pins σ H s) (l : Late s s') : Inv Z pins σ H s' := nap_inv (I.kept (h' := s'.heap) (t' := s.toks) l.heap) ⟨rfl, l.os, l.bare⟩
section
variable {X : Cx} {pins : List (Addr × Obj)} {σ : L2.St} {H : Hp} {s : Shared}
theorem gen_made {Q : VK} {all : Bool} {c P : Addr} {elt tg iter : Expr} {gpos : Pos} {scope : Scope} {own : List (Str × Nat)} {wi : TI} {g : TG} {te : TE} {Q' : Value → Shared → Prop}
    (hc : X.calm = true) (hN : X.N.Nodup) (hroom : X.A.depth + 3 < recursionLimit) (TB : GxR.TabB X.base X.mg c P) (hcode : X.env.code = .ref c) (hco : scope.isCoroutine = false) (hdot : scope.names.lookup (".0" : Str) = some NameKind.local) (hcell : ∀ y ∈ scope.names, y.2 ≠ .cell) (ok : BlkOk X.N X.env.scope scope own) (I : Inv X pins σ H s) (hi : PI X tg iter wi)
    (hb : ∀ (s : Shared) (H : Hp) (C : Addr) (code : Value) (cl : List (Str × Addr)) (fp : List Addr) (pn : List (Addr × Obj)), PG (genX X s H (genEnv scope cl C code builtinsNs X.env) fp pn) tg g ∧ PE (genX X s H (genEnv scope cl C code builtinsNs X.env) fp pn) elt te)
    (hs : ∀ v, genFold iter X.env v = pure v) (h : tGen P wi g te (own.map (·.2)) all σ H Q) (hQ : ∀ a s5, Made X pins σ all Q a s5 → Q' (.ref a) s5) :
    wpAny (model X.prog X.w) X.A (eval (.GeneratorExp elt [⟨tg, iter, [], 0⟩] scope gpos) X.env) Q' X.xe s := by
  have captured : ∀ y ∈ scope.names, y.2 = .free → ∃ c, X.env.cells.lookup y.1 = some c := fun y hy e => (ok.free y hy e).elim (fun k => I.ok.has _ (.inl k)) fun k => I.ok.has _ (.inr k)
  refine wpAny_GeneratorExp_make hco (closure_ok captured) hcell hdot ok.kind (by omega) (thn (hi.run pins s σ H _ I h) fun xv s1 hx => thn hx fun itv s2 h2 => ?_) hs
  obtain ⟨it, fp, tn, J, H1, rfl, I1, T, st1, f1, ⟨ps, hP, ht⟩, q⟩ := h2
  have hPs : s2.heap.get? P = some { cls := .none, data := .fields ps } := I1.hok P _ hP
  have cd : PySem.W.CodeHd s2.heap c P := TB.code.keeps fun b u e => I1.bk b u e
  have fpP : ∀ b ∈ fp, b ≠ P := fun b hb z => by
    have := (f1 b hb).1
    rw [z, hP] at this
    cases this
  have cont : ∀ (code : Value) (h3 : Heap) (tk : Nat) (ps' : Array Value), Heap.ExtBut P s2.heap h3 → s2.heap.objs.size ≤ h3.objs.size → h3.get? P = some { cls := .none, data := .fields ps' } → (∃ more, ps' = ps ++ more) → TriplesOk ps'.toList →
      wpAny (model X.prog X.w) X.A (builtinsFor X.env.globals X.env.builtins) (fun bi s₄ => ∀ h', h'.Ns s₄.heap.objs.size (fun y => if y = ".0" then some (Value.ref it) else none) → Heap.SameBut s₄.heap.objs.size (s₄.heap.push { cls := .type "frame", data := .dict #[] }) h' →
        Q' (.ref h'.objs.size) { s₄ with gens := s₄.gens.push (.fresh (.compStart (.GeneratorExp elt [⟨tg, iter, [], 0⟩] scope gpos) 0 (.ref it) .none (genEnv scope (cloFrom X.env.cells scope.names []) s₄.heap.objs.size code bi X.env))), toks := s₄.toks + 1 + 1 + 1, heap := h'.push { cls := .type "generator", data := .fields #[.int s₄.gens.size 0, .str "<genexpr>" (s₄.toks + 1), .str (X.env.qual ++ "<genexpr>") (s₄.toks + 1 + 1)] } }) X.xe { s2 with heap := h3, toks := tk } := by
    intro code h3 tk ps' hx hsz hP3 hmore ht3
    obtain ⟨bm, ob, e1, e2, e3, e4, e5, e6, e7, e8⟩ := TB.bm
    obtain ⟨more, em⟩ := hmore
    subst em
    have keep3 : ∀ b u, b ≠ P → s2.heap.get? b = some u → h3.get? b = some u := fun b u hb e => hx b u hb e
    refine wpAny_builtinsFor (m := X.mg) (by rw [I1.ok.glob]; exact (I1.mod.glob.keeps I1.bk).extBut hx TB.gP) e1 e2 (keep3 _ _ e4 (I1.bk _ _ e5)) e6 e7 e8 ?_
    have I4 : Inv X pins σ (L2.upd H1 P (.tbl (ps ++ more))) { s2 with heap := h3, toks := tk } := GxR.inv_tab (g' := s2.gens) (d' := s2.drawn) I1 hP keep3 hP3 I1.bare
    obtain ⟨W, ⟨m, w0⟩, step⟩ := q _ ht3
    generalize hs4 : ({ s2 with heap := h3, toks := tk } : Shared) = s4 at I4
    have e4h : s4.heap = h3 := by rw [← hs4]
    have sz : ∀ b ∈ fp, b < s2.heap.objs.size := fun b hb => by
      obtain ⟨o, e, _⟩ := T.obj _ _ st1 b hb
      exact Heap.lt_size e
    have f4 : ∀ b ∈ fp, FpOk X pins (L2.upd H1 P (.tbl (ps ++ more))) b ∧ b < s4.heap.objs.size := fun b hb => by
      refine ⟨⟨by rw [upd_ne (fpP b hb)]; exact (f1 b hb).1, (f1 b hb).2⟩, ?_⟩
      rw [e4h]
      exact Nat.lt_of_lt_of_le (sz b hb) hsz
    intro h' hn' hs'
    have szh : h'.objs.size = s4.heap.objs.size + 1 := by rw [hs'.1, Heap.size_push]
    generalize hgo : ({ cls := .type "generator", data := .fields #[.int s4.gens.size 0, .str "<genexpr>" (s4.toks + 1), .str (X.env.qual ++ "<genexpr>") (s4.toks + 1 + 1)] } : Obj) = go
    have gc : go.cls = .type "generator" := by rw [← hgo]
    have gd : go.data = .fields #[.int s4.gens.size 0, .str "<genexpr>" (s4.toks + 1), .str (X.env.qual ++ "<genexpr>") (s4.toks + 1 + 1)] := by rw [← hgo]
    have gs : go.slots = #[] := by rw [← hgo]
    have gp : (h'.push go).get? h'.objs.size = some go := by rw [← hgo]; exact Heap.get?_push_size _ rfl
    have isg : ∀ hh : Heap, hh.get? h'.objs.size = some go → hh.IsGen h'.objs.size s4.gens.size := fun hh e => ⟨go, _, _, e, gc, gd, gs⟩
    have keep5 : ∀ b o, s4.heap.get? b = some o → (h'.push go).get? b = some o := fun b o e => Heap.get?_push_of_some _ (hs'.extBut b o (Nat.ne_of_lt (Heap.lt_size e)) (Heap.get?_push_of_some _ e))
    have ns5 : (h'.push go).Ns s4.heap.objs.size (fun y => if y = ".0" then some (Value.ref it) else none) := hn'.push _
    have bare5 : AllBare (s4.gens.push (.fresh (.compStart (.GeneratorExp elt [⟨tg, iter, [], 0⟩] scope gpos) 0 (.ref it) .none (genEnv scope (cloFrom X.env.cells scope.names []) s4.heap.objs.size code builtinsNs X.env)))) := AllBare.push I4.bare rfl
    have I5 := gen_start (code := code) (t5 := s4.toks + 1 + 1 + 1) I4 ok hcell hN f4 keep5 ns5 gp (by omega) (fun v z => by rw [gd] at z; cases z) bare5
    generalize hZ : genX X s4 (L2.upd H1 P (.tbl (ps ++ more))) (genEnv scope (cloFrom X.env.cells scope.names []) s4.heap.objs.size code builtinsNs X.env) fp [(h'.objs.size, go)] = Z at I5
    obtain ⟨pg, pe⟩ := hb s4 (L2.upd H1 P (.tbl (ps ++ more))) s4.heap.objs.size code (cloFrom X.env.cells scope.names []) fp [(h'.objs.size, go)]
    rw [hZ] at pg pe
    have zP : Z.prog = X.prog := by rw [← hZ]
    have zW : Z.w = X.w := by rw [← hZ]
    have zK : Z.K = X.K := by rw [← hZ]
    have zE : Z.env = genEnv scope (cloFrom X.env.cells scope.names []) s4.heap.objs.size code builtinsNs X.env := by rw [← hZ]
    have zA : X.A.in1.in1.deeper Z.env = Z.A := by rw [← hZ]
    have st4 : tn 0 s4.heap := T.keep _ _ _ st1 fun b hb o e => by rw [e4h]; exact keep3 b o (fpP b hb) e
    have st5 : tn 0 (h'.push go) := T.keep _ _ _ st4 fun b hb o e => keep5 b o e
    have n5 : ∀ b ∈ fp, (L2.upd H1 P (.tbl (ps ++ more))) b = none := fun b hb => (f4 b hb).1.1
    refine hQ _ _ ⟨Z, wipe σ (own.map (·.2)), s4.gens.size, m + 1, go, zP, zW, by rw [← hZ]; exact List.mem_singleton_self _, isg, ⟨I4.nolimit.keeps keep5, isg _ gp, bare5, _, Array.getElem?_push_size .., fun s' nap => ⟨rfl, ?_⟩⟩, isg _ gp, fun H' s₁ s' I' l => ?_⟩
    · have T' : Turn Z.prog Z.w Z.K tg J fp it tn := by rw [zP, zW, zK]; exact T
      have I6 := nap_inv I5 nap
      have st6 : tn 0 s'.heap := by rw [nap.heap]; exact st5
      have zx : Z.xe = fun _ _ => False := by rw [← hZ]
      have zc : Z.calm = true := by rw [← hZ]; exact hc
      have lp := seg_gen (iter := iter) (scope := scope) (pos := gpos) zA zc zx (by rw [zE]; exact hco) T' pg pe (by rw [← hZ]; exact fun b hb => hb) (by
        rw [← hZ]
        intro b hb p hp
        have hp : p ∈ [(h'.objs.size, go)] := hp
        rw [List.mem_singleton.mp hp]
        have := (f4 b hb).2
        show h'.objs.size ≠ b
        rw [szh]
        exact Nat.ne_of_gt (Nat.lt_succ_of_lt this)) (wipe_wipe _ _) step (m + 1) 0 m _ s' s' (Nat.lt_succ_self _) I6 st6 n5 w0
      have sg := seg_gen0 T' st6 lp
      rw [zE] at sg
      exact sg
    · have I7 := late_inv I' l
      rw [← hZ] at I7
      exact I4.call' (ch := fp) I7.os I7.base I7.hok I7.bare fun b hb => ⟨(f4 b hb).1.2.2.2.1, (f4 b hb).1.2.1, (f4 b hb).1.2.2.2.2.1, (f4 b hb).1.2.2.2.2.2⟩
  refine ⟨I1.nolimit, ?_⟩
  cases hf : codeAmong gpos ps.toList with
  | none =>
    refine wpAny_genexprCodeX hcode (cd.code hPs ht) (cd.tab hPs) hf fun c' h' tk hx hge hlt hco' _ htab' _ => ?_
    obtain ⟨o1, vs1, f1', tf, fl, tg', inF, tx, tt, op, _, _, _, _, _, _, _, _, _, htr, _⟩ := hco'
    exact cont _ h' tk _ hx (Nat.le_trans hge (Nat.le_of_lt hlt)) htab'.2 ⟨_, rfl⟩ htr
  | some cv =>
    refine wpAny_genexprCode_hit hcode (cd.code hPs ht) hf ?_
    exact cont cv s2.heap s2.toks ps (Heap.ExtBut.refl _ _) (Nat.le_refl _) hPs ⟨#[], by simp⟩ ht
end
end Pu

set_option Elab.async false
set_option linter.all false
set_option maxRecDepth 100000
set_option maxHeartbeats 1000000
/-! PuG5: any, all over a generator expression, as expressions of the language. -/
namespace Pu
open PySem PySem.Spec PyProof.Rows L2
def qN : Bool → Str
  | true => "all"
  | false => "any"
theorem pe_gen {X : Cx} {all : Bool} {c P : Addr} {elt tg iter : Expr} {p pos gpos : Pos} {scope : Scope} {own : List (Str × Nat)} {wi : TI} {g : TG} {te : TE}
    (hg : Gl X (qN all)) (hm : X.mg (qN all) = none) (hc : X.calm = true) (hN : X.N.Nodup) (hh : X.A.handled = none) (hroom : X.A.depth + 3 < recursionLimit) (TB : GxR.TabB X.base X.mg c P) (hcode : X.env.code = .ref c) (hco : scope.isCoroutine = false) (hdot : scope.names.lookup (".0" : Str) = some NameKind.local) (hcell : ∀ y ∈ scope.names, y.2 ≠ .cell) (ok : BlkOk X.N X.env.scope scope own) (hi : PI X tg iter wi)
    (hb : ∀ (s : Shared) (H : Hp) (C : Addr) (code : Value) (cl : List (Str × Addr)) (fp : List Addr) (pn : List (Addr × Obj)), PG (genX X s H (genEnv scope cl C code builtinsNs X.env) fp pn) tg g ∧ PE (genX X s H (genEnv scope cl C code builtinsNs X.env) fp pn) elt te)
    (hs : ∀ v, genFold iter X.env v = pure v) : PE X (.Call (.Name (qN all) p) [.GeneratorExp elt [⟨tg, iter, [], 0⟩] scope gpos] [] pos) (tGen P wi g te (own.map (·.2)) all) := by
  have he : starEach [.GeneratorExp elt [⟨tg, iter, [], 0⟩] scope gpos] X.env = (false, eval (.GeneratorExp elt [⟨tg, iter, [], 0⟩] scope gpos) X.env) :: starEach [] X.env := rfl
  have hr2 : X.A.in1.depth < recursionLimit := by show X.A.depth < _; omega
  constructor
  intro pins s σ H Q I h
  cases all with
  | false =>
    refine wpAny_Call_Name_kw (ld_blt (x := "any") I hg hm boot_any ?_)
    refine PyProof.Rows.callWith_builtin1 ?_ he (by rfl)
    rw [he]
    show wpAny _ _ (spliced ((false, eval (.GeneratorExp elt [⟨tg, iter, [], 0⟩] scope gpos) X.env) :: backTo pos (starEach [] X.env))) _ _ s
    refine Calls.spliced_cons (gen_made hc hN hroom TB hcode hco hdot hcell ok I hi hb hs h fun a s5 M => Calls.spliced_nil ?_)
    obtain ⟨Z, σ0, g, n, go, zP, zW, hgo, isg, S, hG, back⟩ := M
    refine call_function_tree F.kind_any F.plain_any F.entry_any (F.args_any1 _) ?_
    unfold Builtin.«any»
    refine wpAny_bind (m := oneArg "any" _) (wpAny_pure ?_)
    refine wpAny_bind (wpAny_pyIter_gen hG ?_)
    refine wpAny_pure ⟨plainId_quiet F.plain_any_loop _, ?_⟩
    rw [← zP, ← zW]
    exact any_loop rfl hh hr2 hgo isg (fun H s₁ s' I' q l => ⟨.bl false, H, back H s₁ s' I' l, rfl, q⟩) (fun H s₁ s' I' q l => ⟨.bl true, H, back H s₁ s' I' l, rfl, q⟩) n _ S
  | true =>
    refine wpAny_Call_Name_kw (ld_blt (x := "all") I hg hm boot_all ?_)
    refine PyProof.Rows.callWith_builtin1 ?_ he (by rfl)
    rw [he]
    show wpAny _ _ (spliced ((false, eval (.GeneratorExp elt [⟨tg, iter, [], 0⟩] scope gpos) X.env) :: backTo pos (starEach [] X.env))) _ _ s
    refine Calls.spliced_cons (gen_made hc hN hroom TB hcode hco hdot hcell ok I hi hb hs h fun a s5 M => Calls.spliced_nil ?_)
    obtain ⟨Z, σ0, g, n, go, zP, zW, hgo, isg, S, hG, back⟩ := M
    refine call_function_tree F.kind_all F.plain_all F.entry_all (F.args_all1 _) ?_
    unfold Builtin.«all»
    refine wpAny_bind (m := oneArg "all" _) (wpAny_pure ?_)
    refine wpAny_bind (wpAny_pyIter_gen hG ?_)
    refine wpAny_pure ⟨plainId_quiet F.plain_all_loop _, ?_⟩
    rw [← zP, ← zW]
    exact all_loop rfl hh hr2 hgo isg (fun H s₁ s' I' q l => ⟨.bl true, H, back H s₁ s' I' l, rfl, q⟩) (fun H s₁ s' I' q l => ⟨.bl false, H, back H s₁ s' I' l, rfl, q⟩) n _ S

/-! ### in the language -/
def Cf.inner (C : Cf) : Cf := { C with code := none }
theorem ctx_gen {C : Cf} {k : Nat} {N : List Str} {sc scope : Scope} {st st' : List Str} {X : Cx} {W : WX} (hX : CtxOk C (k + 1) N sc st X W) (h : ∀ x ∈ st', scope.names.lookup x = some NameKind.local) (s : Shared) (H : Hp) (c : Addr) (code : Value) (cl : List (Str × Addr)) (fp : List Addr) (pn : List (Addr × Obj)) :
    CtxOk C.inner k N scope st' (genX X s H (genEnv scope cl c code builtinsNs X.env) fp pn) (fun _ _ _ _ => False) where
  eP := hX.eP
  eW := hX.eW
  eK := hX.eK
  eM := hX.eM
  eB := hX.eB
  eN := hX.eN
  nd := hX.nd
  eS := rfl
  calm := hX.calm
  room := by
    have r := hX.room
    exact ⟨r.hd, by have := r.dp; show X.A.depth + 1 + 3 * k + 5 < _; omega, by have := r.un; show X.A.units + 1 + 1 + 3 + 16 * k + 200 < _; omega⟩
  gd := by
    have := hX.gd
    exact this
  takes := fun u s' ⟨_, _, _, _, _, _, _, _, _, _, _, _, _, _, _, _, z⟩ => z
  hst := fun x hx => ⟨.inl (h x hx), .inr (h x hx)⟩
  cod := fun c P e => by cases e
def genF (Φ : Nat → List D → Out (D × List D)) (gv : Nat → D) (t : Tg) (ie : Ex) (ρ0 : List (Option D)) (x : D) : Out Bool := (bindTg t x ρ0).bind fun ρ' => (ev Φ gv ie ρ').bind boolD
theorem Tabs.grow {tabs : List Addr} {H : Hp} {P : Addr} {ps' : Array Value} (h : Tabs tabs H) (ht : TriplesOk ps'.toList) : Tabs tabs (L2.upd H P (.tbl ps')) := fun R hR => by
  obtain ⟨ps, e, t⟩ := h R hR
  by_cases z : R = P
  · rw [z]; exact ⟨ps', upd_same, ht⟩
  · exact ⟨ps, by rw [upd_ne z]; exact e, t⟩
theorem Keep.tab {H : Hp} {P : Addr} {ps ps' : Array Value} (h : H P = some (.tbl ps)) : Keep H (L2.upd H P (.tbl ps')) := fun a u e => by
  by_cases z : a = P
  · rw [z] at e ⊢
    rw [h] at e
    cases e
    exact .inr ⟨rfl, ps', upd_same⟩
  · exact .inl (by rw [upd_ne z]; exact e)
theorem genL_cons {all : Bool} {F : D → Out Bool} {x : D} {xs : List D} {b : Bool} (h : genL all (x :: xs) F = .ok b) : ∃ y, F x = .ok y ∧ (if y = all then genL all xs F = .ok b else b = !all) := by
  simp only [genL] at h
  cases h1 : F x with
  | ok y =>
    rw [h1, Out.bind_ok] at h
    refine ⟨y, rfl, ?_⟩
    by_cases hy : y = all
    · rw [if_pos hy]
      rw [if_pos (by rw [hy]; exact beq_self_eq_true all)] at h
      exact h
    · rw [if_neg hy]
      rw [if_neg (by simpa using hy)] at h
      cases h
      rfl
  | exc _ => rw [h1] at h; cases h
  | bad => rw [h1] at h; cases h
theorem gen_tail {C : Cf} {t : Tg} {ie : Ex} {it : It} {all : Bool} {W : WX} {own : List Nat} {P : Addr} {σ : L2.St} {H : Hp} {Q : VK} (hP : P ∈ C.G.tabs) (ht : ∀ i ∈ tgIx t, i ∈ own) (h : tE C (.gen all own ie t it) W σ H Q) :
    tGen P (tI C it W) (tG C.inner t) (tE C.inner ie (fun _ _ _ _ => False)) own all σ H Q := by
  obtain ⟨B, F0, Lk, ρ, tv, td, h, w⟩ := h
  simp only [ev] at w
  refine ⟨B, F0, Lk, ρ, tv, td, h, w.bind.mono (fun _ z => z) fun r hr w1 J rv rd H1 wk hz h1 => ?_⟩
  obtain ⟨b0, hy, w2⟩ := w1.bind.calm
  have w2 : ∀ v H', Holds C.G B F0 Lk σ ρ (v :: tv) (.bl b0 :: td) H' → Q v H' := w2
  have hy : genL all r.1 (genF C.Φ C.gv t ie (wipeD ρ own)) = .ok b0 := hy
  obtain ⟨ps, eP, tP⟩ := h1.tb P hP
  refine ⟨⟨ps, eP, tP⟩, fun ps' ht' => ?_⟩
  have h1a := h1.keep (Keep.tab (ps' := ps') eP) (h1.tb.grow ht')
  obtain ⟨sv, sd, es, h2, back⟩ := Holds.stash own h1a
  have mv : Holds C.G B F0 Lk (L2.wipe σ own) (wipeD ρ own) (rv ++ (sv ++ tv)) (rd ++ (sd ++ td)) (L2.upd H1 P (.tbl ps')) := h2.re (Keep.refl _) h2.tb fun Fz f2 b => by
    obtain ⟨g1, g2, q1, q2, rfl⟩ := b.split es
    obtain ⟨g3, g4, q3, q4, rfl⟩ := q2.split wk.len
    refine ⟨g3 ++ (g1 ++ g4), Sb.of_perm ?_, fun Fz' m _ => (q3.keep (Keep.refl _) m).append ((q1.keep (Keep.refl _) m).append (q4.keep (Keep.refl _) m))⟩
    rw [← List.append_assoc, ← List.append_assoc]
    exact (List.perm_append_comm).append_right g4
  have done : ∀ {b : Bool} {H' : Hp}, b = b0 → Holds C.G B F0 Lk (L2.wipe σ own) (wipeD ρ own) (rv ++ (sv ++ tv)) (rd ++ (sd ++ td)) H' → Q (.bl b) H' := fun {b H'} e h' => by
    subst e
    exact w2 _ _ ((back _ _ _ (h'.popn wk.len)).push fun _ => .bl _)
  refine ⟨fun i m H' => m = r.1.length - i ∧ i ≤ r.1.length ∧ Holds C.G B F0 Lk (L2.wipe σ own) (wipeD ρ own) (rv ++ (sv ++ tv)) (rd ++ (sd ++ td)) H' ∧ genL all (r.1.drop i) (genF C.Φ C.gv t ie (wipeD ρ own)) = .ok b0, ⟨_, rfl, Nat.zero_le _, mv, hy⟩, ?_⟩
  rintro i m H' ⟨rfl, hi, hh, hz'⟩
  by_cases hlt : i < r.1.length
  · refine .inr ⟨wk.go i hh hlt, fun H'' => Holds C.G B F0 Lk (L2.wipe σ own) (wipeD ρ own) (rv ++ (sv ++ tv)) (rd ++ (sd ++ td)) H'' ∧ genL all (r.1.drop (i + 1)) (genF C.Φ C.gv t ie (wipeD ρ own)) = .ok b0, fun H'' z => ⟨r.1.length - (i + 1), by omega, rfl, hlt, z⟩, fun x H2 hyl => ?_⟩
    have h4 := wk.yld hh (List.getElem?_eq_getElem hlt) hyl
    rw [take_succ_of hlt] at hz'
    obtain ⟨y, hF, rest⟩ := genL_cons hz'
    refine ⟨B, F0, Lk, wipeD ρ own, _, _, _, h4, ?_⟩
    unfold genF at hF
    cases hb : bindTg t r.1[i] (wipeD ρ own) with
    | exc _ => rw [hb] at hF; cases hF
    | bad => rw [hb] at hF; cases hF
    | ok ρ' =>
      rw [hb, Out.bind_ok] at hF
      intro σ2 hs2 h5
      have ew : L2.wipe σ2 own = L2.wipe σ own := by rw [hs2 own ht, wipe_wipe]
      have eD : wipeD ρ' own = wipeD ρ own := by rw [bindTg_wipe hb ht, wipeD_wipeD]
      refine ⟨ew, B, F0, Lk, ρ', _, _, h5, ?_⟩
      show Wish (ev C.Φ C.gv ie ρ') _ _
      cases he : ev C.Φ C.gv ie ρ' with
      | exc _ => rw [he] at hF; cases hF
      | bad => rw [he] at hF; cases hF
      | ok d =>
        rw [he, Out.bind_ok] at hF
        intro v H4 h7
        cases d <;> first | (cases hF; done) | skip
        rename_i b
        cases hF
        obtain ⟨_, _, ob⟩ := Holds.top h7
        have h8 := Holds.wipe (vs := own) (Holds.pop h7)
        rw [ew, eD] at h8
        refine ⟨y, ob.inv_bl, ?_⟩
        by_cases hy' : y = all
        · rw [if_pos hy'] at rest ⊢
          exact ⟨h8, rest⟩
        · rw [if_neg hy'] at rest ⊢
          exact done rest.symm h8
  · have e : i = r.1.length := by omega
    subst e
    rw [List.drop_length] at hz'
    simp only [genL, Out.ok.injEq] at hz'
    exact .inl ⟨wk.stop hh, done hz' hh⟩
section
variable {C : Cf} {k : Nat} {N : List Str} {sc scope : Scope} {st st' : List Str} {elt tg iter : Expr} {ie : Ex} {t : Tg} {it : It} {all : Bool} {p pos gpos : Pos} {c P : Addr}
theorem s_gen {own : List (Str × Nat)} (hcd : C.code = some (c, P)) (hg : sc.names.lookup (qN all) = some .globalImplicit) (hm : C.mg (qN all) = none) (hw : ∀ i ∈ tgIx t, i ∈ own.map (·.2)) (hbk : blkC N sc scope own = true) (hco : scope.isCoroutine = false) (hdot : scope.names.lookup (".0" : Str) = some NameKind.local) (hcell : ∀ y ∈ scope.names, y.2 ≠ .cell)
    (hf : ∀ env x, genFold iter env x = pure x) (h : ∀ x ∈ st', scope.names.lookup x = some NameKind.local) (hi : SI C (k + 1) N sc st tg iter it) (ht : SG C.inner k N scope st' tg t) (he : SE C.inner k N scope st' elt ie) :
    SE C (k + 1) N sc st (.Call (.Name (qN all) p) [.GeneratorExp elt [⟨tg, iter, [], 0⟩] scope gpos] [] pos) (.gen all (own.map (·.2)) ie t it) := fun X W hX => by
  obtain ⟨e1, e2, e3⟩ := hX.cod c P hcd
  have ok : BlkOk X.N X.env.scope scope own := by rw [hX.eN, hX.eS]; exact blkOk_by hbk
  exact PE.imp (pe_gen (by unfold Gl Env.kindOf; rw [hX.eS]; exact hg) (by rw [hX.eM]; exact hm) hX.calm (by rw [hX.eN]; exact hX.nd) hX.room.hd (by have := hX.room.dp; omega) e2 e1 hco hdot hcell ok (hi X W hX) (fun s H cc code cl fp pn => have z := ctx_gen hX h s H cc code cl fp pn; ⟨ht _ _ z, he _ _ z⟩) (hf X.env)) fun σ H Q q => gen_tail e3 hw q
end
end Pu

set_option Elab.async false
set_option linter.all false
set_option maxRecDepth 100000
set_option maxHeartbeats 1000000
/-! Pu14: writing at a place within what a slot owns. -/
namespace Pu
open PySem PySem.Spec PyProof.Rows L2
inductive PEl | ix (j : Nat) | fl (x : Str)
def fIx (x : Str) : List Str → Option Nat
  | [] => none
  | y :: ys => if (x == y) = true then some 0 else (fIx x ys).map (· + 1)
/-- the part at a path of owned nodes -/
def subD : List PEl → D → Option D
  | [], d => some d
  | .ix j :: p, .lst .ow xs => match xs[j]? with | some d => subD p d | none => none
  | .fl x :: p, .obj .ow _ ns xs => match fIx x ns with
    | some j => match xs[j]? with | some d => subD p d | none => none
    | none => none
  | _ :: _, _ => none
/-- .. replaced -/
def updD : List PEl → D → D → Option D
  | [], _, d' => some d'
  | .ix j :: p, .lst .ow xs, d' => match xs[j]? with | some d => (updD p d d').map fun e => .lst .ow (xs.set j e) | none => none
  | .fl x :: p, .obj .ow c ns xs, d' => match fIx x ns with
    | some j => match xs[j]? with | some d => (updD p d d').map fun e => .obj .ow c ns (xs.set j e) | none => none
    | none => none
  | _ :: _, _, _ => none
/-- w lies at the path p behind v -/
def reach (H : Hp) : List PEl → V → V → Prop
  | [], v, w => v = w
  | .ix j :: p, v, w => ∃ a vs v1, v = .ref a ∧ H a = some (.lst vs) ∧ vs[j]? = some v1 ∧ reach H p v1 w
  | .fl x :: p, v, w => ∃ a c dx fvs v1, v = .ref a ∧ H a = some (.ins c dx fvs) ∧ fvs.lookup x = some v1 ∧ reach H p v1 w
theorem fIx_lookup {x : Str} : ∀ {fvs : List (Str × V)} {j : Nat} {v : V}, fIx x (fvs.map (·.1)) = some j → (fvs.map (·.2))[j]? = some v → fvs.lookup x = some v
  | [], _, _, h, _ => by simp [fIx] at h
  | (y, u) :: r, j, v, h, e => by
    simp only [List.map_cons, fIx] at h
    rw [List.lookup_cons]
    cases hq : x == y with
    | true =>
      rw [hq, if_pos rfl] at h
      cases h
      simp only [List.map_cons, List.getElem?_cons_zero, Option.some.injEq] at e
      rw [e]
    | false =>
      rw [hq, if_neg (by decide)] at h
      cases q : fIx x (r.map (·.1)) with
      | none => rw [q] at h; cases h
      | some k =>
        rw [q] at h
        cases h
        exact fIx_lookup q (by simpa using e)
section
variable {K : PySem.W.Frag} {cl : Nat → Addr} {H : Hp} {Fz : Addr → Prop} {a : Addr} {o : HO}
/-- one item of many, and the others about it -/
theorem Owns.at : ∀ {ds : List D} {vs : List V} {f : List Addr} {j : Nat} {d : D}, Owns K cl H Fz vs ds f → ds[j]? = some d → noVws ds = true → ∃ w g fr, vs[j]? = some w ∧ Own K cl H Fz w d g ∧ (g ++ fr).Perm f ∧ noVw d = true ∧
    ∀ (a : Addr) (o : HO) (Fz' : Addr → Prop) (d' : D) (g' : List Addr), MutAt H a → ¬ Fz a → a ∉ fr → (∀ x, L2.upd H a o x ≠ none → Fz x → Fz' x) → Own K cl (L2.upd H a o) Fz' w d' g' → ∃ f', Owns K cl (L2.upd H a o) Fz' vs (ds.set j d') f' ∧ f'.Perm (g' ++ fr)
  | [], _, _, _, _, h, e, _ => by simp at e
  | d0 :: ds, _, _, 0, d, h, e, n => by
    cases h with
    | @cons v vs _ _ f1 f2 h1 h2 =>
      simp only [List.getElem?_cons_zero, Option.some.injEq] at e
      subst e
      simp only [noVws, Bool.and_eq_true] at n
      exact ⟨v, f1, f2, rfl, h1, List.Perm.refl _, n.1, fun a o Fz' d' g' m z na mono o' => ⟨_, .cons o' ((h2.upd m z n.2 na).keep (Keep.refl _) mono), List.Perm.refl _⟩⟩
  | d0 :: ds, _, _, j + 1, d, h, e, n => by
    cases h with
    | @cons v vs _ _ f1 f2 h1 h2 =>
      simp only [noVws, Bool.and_eq_true] at n
      obtain ⟨w, g, fr, e1, ow, p, nw, k⟩ := Owns.at h2 (by simpa using e) n.2
      refine ⟨w, g, f1 ++ fr, by simpa using e1, ow, ?_, nw, fun a o Fz' d' g' m z na mono o' => ?_⟩
      · refine List.Perm.trans ?_ (p.append_left f1)
        rw [← List.append_assoc, ← List.append_assoc]
        exact (List.perm_append_comm).append_right fr
      · obtain ⟨f', q, p'⟩ := k a o Fz' d' g' m z (fun hm => na (List.mem_append_right _ hm)) mono o'
        refine ⟨_, .cons ((h1.upd m z n.1 fun hm => na (List.mem_append_left _ hm)).keep (Keep.refl _) mono) q, ?_⟩
        refine (p'.append_left f1).trans ?_
        rw [← List.append_assoc, ← List.append_assoc]
        exact (List.perm_append_comm).append_right fr
theorem perm_a {α : Type} {a : α} {g1 g fr1 fr2 fp : List α} (p1 : (g1 ++ fr1).Perm fp) (p2 : (g ++ fr2).Perm g1) : (g ++ (a :: (fr2 ++ fr1))).Perm ([a] ++ fp) := by
  refine List.perm_middle.trans (List.Perm.cons a ?_)
  rw [← List.append_assoc]
  exact (p2.append_right fr1).trans p1
theorem perm_b {α : Type} {a : α} {f'' f' g' fr1 fr2 : List α} (p1 : f''.Perm (f' ++ fr1)) (p2 : f'.Perm (g' ++ fr2)) : ([a] ++ f'').Perm (g' ++ (a :: (fr2 ++ fr1))) := by
  refine List.Perm.trans (List.Perm.cons a ?_) List.perm_middle.symm
  refine p1.trans ?_
  rw [← List.append_assoc]
  exact p2.append_right fr1
theorem Own.focus : ∀ (p : List PEl) {d : D} {v : V} {f : List Addr} {d1 : D}, Own K cl H Fz v d f → subD p d = some d1 → noVw d = true → ∃ w g fr, reach H p v w ∧ Own K cl H Fz w d1 g ∧ (g ++ fr).Perm f ∧ noVw d1 = true ∧
    ∀ (a : Addr) (o : HO) (Fz' : Addr → Prop) (d' : D) (g' : List Addr), MutAt H a → ¬ Fz a → a ∉ fr → (∀ x, L2.upd H a o x ≠ none → Fz x → Fz' x) → Own K cl (L2.upd H a o) Fz' w d' g' → ∃ e f', updD p d d' = some e ∧ Own K cl (L2.upd H a o) Fz' v e f' ∧ f'.Perm (g' ++ fr)
  | [], d, v, f, d1, h, e, n => by
    simp only [subD, Option.some.injEq] at e
    subst e
    exact ⟨v, f, [], rfl, h, by rw [List.append_nil], n, fun a o Fz' d' g' _ _ _ _ o' => ⟨d', g', rfl, o', by rw [List.append_nil]⟩⟩
  | .ix j :: p, d, v, f, d1, h, e, n => by
    cases d <;> first | (simp [subD] at e; done) | skip
    rename_i fl xs
    cases fl <;> first | (simp [subD] at e; done) | skip
    simp only [subD] at e
    split at e
    · rename_i d0 hd
      cases h with
      | @lst _ a0 vs _ f0 fp ha b =>
        cases ha with
        | ow ha =>
          simp only [noVw, Bool.and_eq_true] at n
          obtain ⟨w1, g1, fr1, e1, ow1, p1, nw, k1⟩ := b.at hd n.2
          obtain ⟨w, g, fr2, r, ow2, p2, n2, k2⟩ := Own.focus p ow1 e nw
          refine ⟨w, g, a0 :: (fr2 ++ fr1), ⟨a0, vs, w1, rfl, ha, e1, r⟩, ow2, perm_a p1 p2, n2, fun a o Fz' d' g' m z na mono o' => ?_⟩
          have na1 : a ≠ a0 := fun q => na (by rw [q]; exact List.mem_cons_self)
          obtain ⟨e', f', u1, o1, q1⟩ := k2 a o Fz' d' g' m z (fun hm => na (List.mem_cons_of_mem _ (List.mem_append_left _ hm))) mono o'
          obtain ⟨f'', o2, q2⟩ := k1 a o Fz' e' f' m z (fun hm => na (List.mem_cons_of_mem _ (List.mem_append_right _ hm))) mono o1
          exact ⟨_, _, by simp only [updD, hd, u1, Option.map_some], .lst (.ow (upd_at ha na1.symm)) o2, perm_b q2 q1⟩
    · cases e
  | .fl x :: p, d, v, f, d1, h, e, n => by
    cases d <;> first | (simp [subD] at e; done) | skip
    rename_i fl c ns xs
    cases fl <;> first | (simp [subD] at e; done) | skip
    simp only [subD] at e
    split at e
    · rename_i j hj
      split at e
      · rename_i d0 hd
        cases h with
        | @obj _ _ a0 _ vs _ f0 fp ha b =>
          cases ha with
          | @ow _ _ dx fvs ha =>
            simp only [noVw, Bool.and_eq_true] at n
            obtain ⟨w1, g1, fr1, e1, ow1, p1, nw, k1⟩ := b.at hd n.2
            obtain ⟨w, g, fr2, r, ow2, p2, n2, k2⟩ := Own.focus p ow1 e nw
            refine ⟨w, g, a0 :: (fr2 ++ fr1), ⟨a0, _, dx, fvs, w1, rfl, ha, fIx_lookup hj e1, r⟩, ow2, perm_a p1 p2, n2, fun a o Fz' d' g' m z na mono o' => ?_⟩
            have na1 : a ≠ a0 := fun q => na (by rw [q]; exact List.mem_cons_self)
            obtain ⟨e', f', u1, o1, q1⟩ := k2 a o Fz' d' g' m z (fun hm => na (List.mem_cons_of_mem _ (List.mem_append_left _ hm))) mono o'
            obtain ⟨f'', o2, q2⟩ := k1 a o Fz' e' f' m z (fun hm => na (List.mem_cons_of_mem _ (List.mem_append_right _ hm))) mono o1
            exact ⟨_, _, by simp only [updD, hj, hd, u1, Option.map_some], .obj (.ow (upd_at ha na1.symm)) o2, perm_b q2 q1⟩
      · cases e
    · cases e
/-- all that the slots hold is clean -/
def cleanS (ρ : List (Option D)) : Bool := ρ.all fun o => match o with | some d => noVw d | none => true
theorem OwnS.at {σ : L2.St} {ρ : List (Option D)} {f : List Addr} (h : OwnS K cl H Fz σ ρ f) : ∀ {i : Nat} {d : D}, ρ[i]? = some (some d) → cleanS ρ = true → ∃ w g fr, σ[i]? = some (some w) ∧ Own K cl H Fz w d g ∧ (g ++ fr).Perm f ∧ noVw d = true ∧
    ∀ (a : Addr) (o : HO) (Fz' : Addr → Prop) (d' : D) (g' : List Addr), MutAt H a → ¬ Fz a → a ∉ fr → (∀ x, L2.upd H a o x ≠ none → Fz x → Fz' x) → Own K cl (L2.upd H a o) Fz' w d' g' → ∃ f', OwnS K cl (L2.upd H a o) Fz' σ (ρ.set i (some d')) f' ∧ f'.Perm (g' ++ fr) := by
  have all : ∀ {σ : L2.St} {ρ : List (Option D)} {f : List Addr}, OwnS K cl H Fz σ ρ f → cleanS ρ = true → ∀ (a : Addr) (o : HO) (Fz' : Addr → Prop), MutAt H a → ¬ Fz a → a ∉ f → (∀ x, L2.upd H a o x ≠ none → Fz x → Fz' x) → OwnS K cl (L2.upd H a o) Fz' σ ρ f := fun {σ ρ f} h => by
    induction h with
    | nil => intros; exact .nil
    | skip _ ih => intro n a o Fz' m z na mono; exact .skip (ih n a o Fz' m z na mono)
    | put q _ ih =>
      intro n a o Fz' m z na mono
      simp only [cleanS, List.all_cons, Bool.and_eq_true] at n
      exact .put ((q.upd m z n.1 fun hm => na (List.mem_append_left _ hm)).keep (Keep.refl _) mono) (ih n.2 a o Fz' m z (fun hm => na (List.mem_append_right _ hm)) mono)
  induction h with
  | nil => intro i d e; simp at e
  | skip _ ih =>
    intro i d e n
    cases i with
    | zero => simp at e
    | succ i =>
      obtain ⟨w, g, fr, e1, ow, p, nw, k⟩ := ih (i := i) (by simpa using e) n
      exact ⟨w, g, fr, by simpa using e1, ow, p, nw, fun a o Fz' d' g' m z na mono o' => let ⟨f', q, p'⟩ := k a o Fz' d' g' m z na mono o'; ⟨f', .skip q, p'⟩⟩
  | @put v d0 σ ρ f1 f2 q h ih =>
    intro i d e n
    simp only [cleanS, List.all_cons, Bool.and_eq_true] at n
    cases i with
    | zero =>
      simp only [List.getElem?_cons_zero, Option.some.injEq] at e
      subst e
      exact ⟨v, f1, f2, rfl, q, List.Perm.refl _, n.1, fun a o Fz' d' g' m z na mono o' => ⟨_, .put o' (all h n.2 a o Fz' m z na mono), List.Perm.refl _⟩⟩
    | succ i =>
      obtain ⟨w, g, fr, e1, ow, p, nw, k⟩ := ih (i := i) (by simpa using e) n.2
      refine ⟨w, g, f1 ++ fr, by simpa using e1, ow, ?_, nw, fun a o Fz' d' g' m z na mono o' => ?_⟩
      · refine List.Perm.trans ?_ (p.append_left f1)
        rw [← List.append_assoc, ← List.append_assoc]
        exact (List.perm_append_comm).append_right fr
      · obtain ⟨f', q', p'⟩ := k a o Fz' d' g' m z (fun hm => na (List.mem_append_right _ hm)) mono o'
        refine ⟨_, .put ((q.upd m z n.1 fun hm => na (List.mem_append_left _ hm)).keep (Keep.refl _) mono) q', ?_⟩
        refine (p'.append_left f1).trans ?_
        rw [← List.append_assoc, ← List.append_assoc]
        exact (List.perm_append_comm).append_right fr
end
section
variable {G : Gb} {B H : Hp} {F0 : Addr → Prop} {σ : L2.St} {ρ : List (Option D)} {tv tx : List V} {td dx : List D}
theorem Keep.mut {H H' : Hp} {a : Addr} {o : HO} (k : Keep H H') (h : H a = Option.none) : Keep H (L2.upd H' a o) := fun c u e => by
  rw [upd_ne (ne_of_none e h)]
  exact k c u e
/-- the list at path p of slot i gets new items, of its own and of the top ones; what is left goes to the top -/
theorem Holds.mutl {p : List PEl} {i : Nat} {d : D} {xs : List D} (h : Holds G B F0 noH σ ρ (tx ++ tv) (dx ++ td) H) (ex : tx.length = dx.length) (hi : ρ[i]? = some (some d)) (hc : cleanS ρ = true) (ht : noVws td = true) (hx : noVws dx = true) (hp : subD p d = some (.lst .ow xs)) :
    ∃ v0 a vs, σ[i]? = some (some v0) ∧ reach H p v0 (.ref a) ∧ H a = some (.lst vs) ∧ vs.length = xs.length ∧ noVws xs = true ∧
      ∀ (vs' ty : List V) (xs' dy : List D), (∀ {H' : Hp} {Fz : Addr → Prop} {g g2 : List Addr}, Owns G.K G.cl H' Fz vs xs g → Owns G.K G.cl H' Fz tx dx g2 → ∃ g3 g4, Owns G.K G.cl H' Fz vs' xs' g3 ∧ Owns G.K G.cl H' Fz ty dy g4 ∧ Sb (g3 ++ g4) (g ++ g2)) →
        ∃ d', updD p d (.lst .ow xs') = some d' ∧ Holds G B F0 noH σ (ρ.set i (some d')) (ty ++ tv) (dy ++ td) (L2.upd H a (.lst vs')) := by
  obtain ⟨⟨f1, f2, oS, oT, nd, qB⟩, kb, kl, tb⟩ := h
  obtain ⟨t1, t2, o1, o2, rfl⟩ := oT.split ex
  obtain ⟨v0, g0, fr0, e0, w0, p0, n0, k0⟩ := oS.at hi hc
  obtain ⟨w, g, fr, r, w1, p1, n1, k1⟩ := w0.focus p hp n0
  cases w1 with
  | @lst _ a vs _ f0 fp ha b =>
    cases ha with
    | ow ha =>
      simp only [noVw, Bool.and_eq_true] at n1
      refine ⟨v0, a, vs, e0, r, ha, b.length, n1.2, fun vs' ty xs' dy gv => ?_⟩
      -- all the feet, in order
      have pf : (a :: (fp ++ (fr ++ (fr0 ++ (t1 ++ t2))))).Perm (f1 ++ (t1 ++ t2)) := by
        refine List.Perm.trans ?_ (p0.append_right (t1 ++ t2))
        refine List.Perm.trans ?_ ((p1.append_right fr0).append_right (t1 ++ t2))
        simp only [List.append_assoc, List.singleton_append, List.cons_append, List.nil_append]
        exact List.Perm.refl _
      have nd2 := pf.nodup_iff.mpr nd
      have na := (List.nodup_cons.mp nd2).1
      simp only [List.mem_append, not_or] at na
      have aF : a ∈ f1 ++ (t1 ++ t2) := pf.subset List.mem_cons_self
      have mA : MutAt H a := ⟨by rw [ha]; trivial, by rw [ha]; exact fun z => by cases z⟩
      have zA : ¬ Fzp B F0 (f1 ++ (t1 ++ t2)) a := fun z => z.2 aF
      have bU := b.upd (o := .lst vs') mA zA n1.2 na.1
      have o1U := o1.upd (o := .lst vs') mA zA hx na.2.2.2.1
      have o2U := o2.upd (o := .lst vs') mA zA ht na.2.2.2.2
      obtain ⟨g3, g4, n3, n4, sb⟩ := gv bU o1U
      -- the new feet
      have sub : Sb (a :: (g3 ++ (fr ++ (fr0 ++ (g4 ++ t2))))) (a :: (fp ++ (fr ++ (fr0 ++ (t1 ++ t2))))) := by
        have s1 : Sb ((g3 ++ g4) ++ (fr ++ (fr0 ++ t2))) ((fp ++ t1) ++ (fr ++ (fr0 ++ t2))) := sb.app (Sb.refl _)
        have q1 : (a :: (g3 ++ (fr ++ (fr0 ++ (g4 ++ t2))))).Perm ([a] ++ ((g3 ++ g4) ++ (fr ++ (fr0 ++ t2)))) := by
          refine List.Perm.cons a ?_
          simp only [List.append_assoc]
          refine List.Perm.append_left g3 ?_
          rw [← List.append_assoc, ← List.append_assoc, ← List.append_assoc, ← List.append_assoc]
          refine List.Perm.append_right t2 ?_
          refine List.Perm.trans List.perm_append_comm ?_
          rw [List.append_assoc]
        have q2 : ([a] ++ ((fp ++ t1) ++ (fr ++ (fr0 ++ t2)))).Perm (a :: (fp ++ (fr ++ (fr0 ++ (t1 ++ t2))))) := by
          refine List.Perm.cons a ?_
          simp only [List.append_assoc]
          refine List.Perm.append_left fp ?_
          rw [← List.append_assoc, ← List.append_assoc, ← List.append_assoc, ← List.append_assoc]
          refine List.Perm.append_right t2 ?_
          refine List.Perm.trans ?_ List.perm_append_comm
          rw [List.append_assoc]
        exact (Sb.of_perm q1).trans (((Sb.refl [a]).app s1).trans (Sb.of_perm q2))
      have sub2 : Sb (a :: (g3 ++ (fr ++ (fr0 ++ (g4 ++ t2))))) (f1 ++ (t1 ++ t2)) := sub.trans (Sb.of_perm pf)
      generalize hfs : a :: (g3 ++ (fr ++ (fr0 ++ (g4 ++ t2)))) = fs at sub2
      have mono : ∀ x, L2.upd H a (.lst vs') x ≠ none → Fzp B F0 (f1 ++ (t1 ++ t2)) x → Fzp B F0 fs x := fun x _ z => ⟨z.1, fun m => z.2 (sub2.mem x m)⟩
      have node : Own G.K G.cl (L2.upd H a (.lst vs')) (Fzp B F0 fs) (.ref a) (.lst .ow xs') ([a] ++ g3) := .lst (.ow upd_same) (n3.keep (Keep.refl _) mono)
      obtain ⟨e1, f1', u1, oN, q1⟩ := k1 a (.lst vs') (Fzp B F0 fs) _ _ mA zA na.2.1 mono node
      obtain ⟨f2', oN2, q2⟩ := k0 a (.lst vs') (Fzp B F0 fs) _ _ mA zA na.2.2.1 mono oN
      have pe : (f2' ++ (g4 ++ t2)).Perm fs := by
        rw [← hfs]
        refine (q2.append_right _).trans ?_
        refine ((q1.append_right fr0).append_right _).trans ?_
        simp only [List.append_assoc, List.singleton_append, List.cons_append, List.nil_append]
        exact List.Perm.refl _
      have mono2 : ∀ x, L2.upd H a (.lst vs') x ≠ none → Fzp B F0 fs x → Fzp B F0 (f2' ++ (g4 ++ t2)) x := fun x _ z => ⟨z.1, fun m => z.2 (pe.subset m)⟩
      refine ⟨e1, u1, ⟨⟨f2', g4 ++ t2, oN2.keep (Keep.refl _) mono2, ((n4.keep (Keep.refl _) mono).append (o2U.keep (Keep.refl _) mono)).keep (Keep.refl _) mono2, pe.nodup_iff.mpr (sub2.nodup nd), fun x hx => qB x (sub2.mem x (pe.subset hx))⟩, kb.mut (qB a aF), Keep.noH _, tb.mut mA⟩⟩
/-- the object at path p of slot i gets new fields -/
theorem Holds.mutf {p : List PEl} {i : Nat} {d : D} {xs : List D} {c : Nat} {ns : List Str} (h : Holds G B F0 noH σ ρ (tx ++ tv) (dx ++ td) H) (ex : tx.length = dx.length) (hi : ρ[i]? = some (some d)) (hc : cleanS ρ = true) (ht : noVws td = true) (hx : noVws dx = true) (hp : subD p d = some (.obj .ow c ns xs)) :
    ∃ v0 a dx' fvs, σ[i]? = some (some v0) ∧ reach H p v0 (.ref a) ∧ H a = some (.ins (G.cl c) dx' fvs) ∧ ns = fvs.map (·.1) ∧ fvs.length = xs.length ∧ noVws xs = true ∧
      ∀ (fvs' : List (Str × V)) (ty : List V) (xs' dy : List D), (∀ {H' : Hp} {Fz : Addr → Prop} {g g2 : List Addr}, Owns G.K G.cl H' Fz (fvs.map (·.2)) xs g → Owns G.K G.cl H' Fz tx dx g2 → ∃ g3 g4, Owns G.K G.cl H' Fz (fvs'.map (·.2)) xs' g3 ∧ Owns G.K G.cl H' Fz ty dy g4 ∧ Sb (g3 ++ g4) (g ++ g2)) →
        ∃ d', updD p d (.obj .ow c (fvs'.map (·.1)) xs') = some d' ∧ Holds G B F0 noH σ (ρ.set i (some d')) (ty ++ tv) (dy ++ td) (L2.upd H a (.ins (G.cl c) dx' fvs')) := by
  obtain ⟨⟨f1, f2, oS, oT, nd, qB⟩, kb, kl, tb⟩ := h
  obtain ⟨t1, t2, o1, o2, rfl⟩ := oT.split ex
  obtain ⟨v0, g0, fr0, e0, w0, p0, n0, k0⟩ := oS.at hi hc
  obtain ⟨w, g, fr, r, w1, p1, n1, k1⟩ := w0.focus p hp n0
  cases w1 with
  | @obj _ _ a _ vs _ f0 fp ha b =>
    cases ha with
    | @ow _ _ dx' fvs ha =>
      simp only [noVw, Bool.and_eq_true] at n1
      refine ⟨v0, a, dx', fvs, e0, r, ha, rfl, by simpa using b.length, n1.2, fun fvs' ty xs' dy gv => ?_⟩
      -- all the feet, in order
      have pf : (a :: (fp ++ (fr ++ (fr0 ++ (t1 ++ t2))))).Perm (f1 ++ (t1 ++ t2)) := by
        refine List.Perm.trans ?_ (p0.append_right (t1 ++ t2))
        refine List.Perm.trans ?_ ((p1.append_right fr0).append_right (t1 ++ t2))
        simp only [List.append_assoc, List.singleton_append, List.cons_append, List.nil_append]
        exact List.Perm.refl _
      have nd2 := pf.nodup_iff.mpr nd
      have na := (List.nodup_cons.mp nd2).1
      simp only [List.mem_append, not_or] at na
      have aF : a ∈ f1 ++ (t1 ++ t2) := pf.subset List.mem_cons_self
      have mA : MutAt H a := ⟨by rw [ha]; trivial, by rw [ha]; exact fun z => by cases z⟩
      have zA : ¬ Fzp B F0 (f1 ++ (t1 ++ t2)) a := fun z => z.2 aF
      have bU := b.upd (o := .ins (G.cl c) dx' fvs') mA zA n1.2 na.1
      have o1U := o1.upd (o := .ins (G.cl c) dx' fvs') mA zA hx na.2.2.2.1
      have o2U := o2.upd (o := .ins (G.cl c) dx' fvs') mA zA ht na.2.2.2.2
      obtain ⟨g3, g4, n3, n4, sb⟩ := gv bU o1U
      -- the new feet
      have sub : Sb (a :: (g3 ++ (fr ++ (fr0 ++ (g4 ++ t2))))) (a :: (fp ++ (fr ++ (fr0 ++ (t1 ++ t2))))) := by
        have s1 : Sb ((g3 ++ g4) ++ (fr ++ (fr0 ++ t2))) ((fp ++ t1) ++ (fr ++ (fr0 ++ t2))) := sb.app (Sb.refl _)
        have q1 : (a :: (g3 ++ (fr ++ (fr0 ++ (g4 ++ t2))))).Perm ([a] ++ ((g3 ++ g4) ++ (fr ++ (fr0 ++ t2)))) := by
          refine List.Perm.cons a ?_
          simp only [List.append_assoc]
          refine List.Perm.append_left g3 ?_
          rw [← List.append_assoc, ← List.append_assoc, ← List.append_assoc, ← List.append_assoc]
          refine List.Perm.append_right t2 ?_
          refine List.Perm.trans List.perm_append_comm ?_
          rw [List.append_assoc]
        have q2 : ([a] ++ ((fp ++ t1) ++ (fr ++ (fr0 ++ t2)))).Perm (a :: (fp ++ (fr ++ (fr0 ++ (t1 ++ t2))))) := by
          refine List.Perm.cons a ?_
          simp only [List.append_assoc]
          refine List.Perm.append_left fp ?_
          rw [← List.append_assoc, ← List.append_assoc, ← List.append_assoc, ← List.append_assoc]
          refine List.Perm.append_right t2 ?_
          refine List.Perm.trans ?_ List.perm_append_comm
          rw [List.append_assoc]
        exact (Sb.of_perm q1).trans (((Sb.refl [a]).app s1).trans (Sb.of_perm q2))
      have sub2 : Sb (a :: (g3 ++ (fr ++ (fr0 ++ (g4 ++ t2))))) (f1 ++ (t1 ++ t2)) := sub.trans (Sb.of_perm pf)
      generalize hfs : a :: (g3 ++ (fr ++ (fr0 ++ (g4 ++ t2)))) = fs at sub2
      have mono : ∀ x, L2.upd H a (.ins (G.cl c) dx' fvs') x ≠ none → Fzp B F0 (f1 ++ (t1 ++ t2)) x → Fzp B F0 fs x := fun x _ z => ⟨z.1, fun m => z.2 (sub2.mem x m)⟩
      have node : Own G.K G.cl (L2.upd H a (.ins (G.cl c) dx' fvs')) (Fzp B F0 fs) (.ref a) (.obj .ow c (fvs'.map (·.1)) xs') ([a] ++ g3) := .obj (.ow upd_same) (n3.keep (Keep.refl _) mono)
      obtain ⟨e1, f1', u1, oN, q1⟩ := k1 a (.ins (G.cl c) dx' fvs') (Fzp B F0 fs) _ _ mA zA na.2.1 mono node
      obtain ⟨f2', oN2, q2⟩ := k0 a (.ins (G.cl c) dx' fvs') (Fzp B F0 fs) _ _ mA zA na.2.2.1 mono oN
      have pe : (f2' ++ (g4 ++ t2)).Perm fs := by
        rw [← hfs]
        refine (q2.append_right _).trans ?_
        refine ((q1.append_right fr0).append_right _).trans ?_
        simp only [List.append_assoc, List.singleton_append, List.cons_append, List.nil_append]
        exact List.Perm.refl _
      have mono2 : ∀ x, L2.upd H a (.ins (G.cl c) dx' fvs') x ≠ none → Fzp B F0 fs x → Fzp B F0 (f2' ++ (g4 ++ t2)) x := fun x _ z => ⟨z.1, fun m => z.2 (pe.subset m)⟩
      refine ⟨e1, u1, ⟨⟨f2', g4 ++ t2, oN2.keep (Keep.refl _) mono2, ((n4.keep (Keep.refl _) mono).append (o2U.keep (Keep.refl _) mono)).keep (Keep.refl _) mono2, pe.nodup_iff.mpr (sub2.nodup nd), fun x hx => qB x (sub2.mem x (pe.subset hx))⟩, kb.mut (qB a aF), Keep.noH _, tb.mut mA⟩⟩
end
end Pu

set_option Elab.async false
set_option linter.all false
set_option maxRecDepth 100000
set_option maxHeartbeats 1000000
/-! Pu15: statements and their meaning over data. -/
namespace Pu
open PySem PySem.Spec PyProof.Rows L2
inductive Pt | ix (e : Ex) | fl (x : Str)
/-- an expression of an except suite -/
inductive Xb where
  | var (i : Nat)
  | bl (b : Bool)
  | isE (ys ns : List Nat)
  | not (a : Xb)
  | and (a b : Xb)
def evX (x : Exn) : Xb → List (Option D) → Out D
  | .var i, ρ => match ρ[i]? with
    | some (some d) => .ok (vwD d)
    | _ => .bad
  | .bl b, _ => .ok (.bl b)
  | .isE ys ns, _ => if x.c ∈ ys then .ok (.bl true) else if x.c ∈ ns then .ok (.bl false) else .bad
  | .not a, ρ => (evX x a ρ).bind fun d => (Out.ofo (truD d)).bind fun b => .ok (.bl (!b))
  | .and a b, ρ => (evX x a ρ).bind fun d => (Out.ofo (truD d)).bind fun t => if t = true then evX x b ρ else .ok d
/-! ### what such an expression comes to -/
inductive OutE | ok (d : D) (ρ : List (Option D)) | ex (x : Exn) (ρ : List (Option D)) | bad
inductive Xe where
  | pop (i : Nat) (p : List Pt) (es : List Ex)
inductive Sm where
  | set (t : Tg) (e : Ex)
  | par (i j : Nat) (a b : Ex)
  | exp (e : Ex)
  | ret (e : Ex)
  | rtv (i : Nat)
  | rtn
  | ite (c : Ex) (a b : List Sm)
  | fr (t : Tg) (it : It) (b : List Sm)
  | app (i : Nat) (p : List Pt) (e : Ex)
  | popd (i : Nat) (p : List Pt) (e : List Ex)
  | setI (i : Nat) (p : List Pt) (k : Ex) (e : Ex)
  | setF (i : Nat) (p : List Pt) (f : Str) (e : Ex)
  | skip | brk | cnt
  | nev
  | rais (c : Nat)
  | tr (b : List Sm) (i : Nat) (cs : List Nat) (x : Xb)
  | appX (i : Nat) (e : Xe)
/-- what a block comes to -/
inductive Re | nx (ρ : List (Option D)) | rt (d : D) (ρ : List (Option D)) | bk (ρ : List (Option D)) | ct (ρ : List (Option D)) | ex (x : Exn) (ρ : List (Option D)) | bad
def Out.re {α : Type} (o : Out α) (ρ : List (Option D)) (f : α → Re) : Re := match o with
  | .ok a => f a
  | .exc x => .ex x ρ
  | .bad => .bad
def Re.seq (r : Re) (f : List (Option D) → Re) : Re := match r with
  | .nx ρ => f ρ
  | r => r
/-! ### the names an expression speaks of -/
mutual
def fvs : Ex → List Nat
  | .var i => [i]
  | .non => [] | .bl _ => [] | .int _ => [] | .str _ => [] | .gl _ => []
  | .bin _ a b => fvs a ++ fvs b
  | .neg a => fvs a
  | .not a => fvs a
  | .cmp _ a b => fvs a ++ fvs b
  | .chn _ _ a b c => fvs a ++ (fvs b ++ fvs c)
  | .and a b => fvs a ++ fvs b
  | .or a b => fvs a ++ fvs b
  | .ife c a b => fvs c ++ (fvs a ++ fvs b)
  | .tup es => fvss es
  | .lst es => fvss es
  | .idx a i => fvs a ++ fvs i
  | .slc a l h => fvs a ++ (fvss l ++ fvss h)
  | .rev a => fvs a
  | .bi _ es => fvss es
  | .isi a _ => fvs a
  | .call _ es => fvss es
  | .mk _ _ es => fvss es
  | .fld a _ => fvs a
  | .comp _ e _ it cs => fvs e ++ (fvI it ++ fvss cs)
  | .gen _ _ e _ it => fvs e ++ fvI it
  | .fst es => fvss es
  | .stl e es => fvs e ++ fvss es
def fvss : List Ex → List Nat
  | [] => []
  | e :: es => fvs e ++ fvss es
def fvI : It → List Nat
  | .of e => fvs e
  | .rng es => fvss es
  | .enum e => fvs e
  | .zip es => fvss es
  | .rvd e => fvs e
end
/-- slots settled -/
def frz1 (i : Nat) (ρ : List (Option D)) : List (Option D) := match ρ[i]? with
  | some (some d) => ρ.set i (some (fzD d))
  | _ => ρ
def frzs (pi : List Nat) (is : List Nat) (ρ : List (Option D)) : List (Option D) := is.foldr (fun i r => if i ∈ pi then r else frz1 i r) ρ
section
variable (Φ : Nat → List D → Out (D × List D)) (gv : Nat → D) (pi : List Nat)
/-- what is to be settled ahead of e, that its value be clean -/
def prep (e : Ex) (ρ : List (Option D)) : List (Option D) := match ev Φ gv e ρ with
  | .ok d => if noVw d = true then ρ else frzs pi (fvs e) ρ
  | .bad => frzs pi (fvs e) ρ
  | .exc _ => ρ
def prepI (it : It) (ρ : List (Option D)) : List (Option D) := match evIt Φ gv it ρ with
  | .ok r => if r.2 = true ∧ noVws r.1 = true then ρ else frzs pi (fvI it) ρ
  | .bad => frzs pi (fvI it) ρ
  | .exc _ => ρ
/-- a clean value to a target -/
def bindC (t : Tg) (d : D) (ρ : List (Option D)) : Re := if noVw d = true then (match bindTg t d ρ with | .ok ρ' => .nx ρ' | _ => .bad) else .bad
def loopF (f : D → List (Option D) → Re) : List D → List (Option D) → Re
  | [], ρ => .nx ρ
  | x :: xs, ρ => match f x ρ with
    | .nx ρ' => loopF f xs ρ'
    | .ct ρ' => loopF f xs ρ'
    | .bk ρ' => .nx ρ'
    | r => r
/-- a path's own parts -/
def evp : List Pt → List (Option D) → D → Out (List PEl)
  | [], _, _ => .ok []
  | .ix e :: p, ρ, .lst .ow xs => (ev Φ gv e ρ).bind fun k => match k with
    | .int k => (match ixN xs.length k with
      | some j => (match xs[j]? with
        | some d => (evp p ρ d).bind fun q => .ok (.ix j :: q)
        | none => .bad)
      | none => .bad)
    | _ => .bad
  | .fl x :: p, ρ, .obj .ow _ ns xs => (match fIx x ns with
    | some j => (match xs[j]? with
      | some d => (evp p ρ d).bind fun q => .ok (.fl x :: q)
      | none => .bad)
    | none => .bad)
  | _ :: _, _, _ => .bad
def slotD (ρ : List (Option D)) (i : Nat) : Out D := match ρ[i]? with | some (some d) => .ok d | _ => .bad
/-- slot i's part at q, changed -/
def putAt (ρ : List (Option D)) (i : Nat) (q : List PEl) (d' : D) : Re := match ρ[i]? with
  | some (some d) => (match updD q d d' with | some e => .nx (ρ.set i (some e)) | none => .bad)
  | _ => .bad
def subAt (ρ : List (Option D)) (i : Nat) (q : List PEl) : Option D := match ρ[i]? with
  | some (some d) => subD q d
  | _ => none
def popK (xs : List D) : List D → Option Nat
  | [] => if xs.isEmpty then none else some (xs.length - 1)
  | [.int k] => if k.natAbs < 4611686018427387904 then seqIndex? k xs.length else none
  | _ => none
def putN (f : Str) (y : D) : List Str → List D → List Str × List D
  | n :: ns, x :: xs => if n = f then (n :: ns, y :: xs) else let r := putN f y ns xs; (n :: r.1, x :: r.2)
  | ns, xs => (ns ++ [f], xs ++ [y])
end
def evE (Φ : Nat → List D → Out (D × List D)) (gv : Nat → D) : Xe → List (Option D) → OutE
  | .pop i p es, ρ => match (slotD ρ i).bind fun d => evp Φ gv p ρ d with
    | .ok q => (match subAt ρ i q with
      | some (.lst .ow xs) => (match evs Φ gv es ρ with
        | .ok ks => (match popK xs ks with
          | some k => (match xs[k]?, putAt ρ i q (.lst .ow (xs.eraseIdx k)) with
            | some y, .nx ρ' => .ok y ρ'
            | _, _ => .bad)
          | none => .bad)
        | _ => .bad)
      | _ => .bad)
    | _ => .bad
section
variable (Φ : Nat → List D → Out (D × List D)) (gv : Nat → D) (pi : List Nat)
mutual
def run1 : Sm → List (Option D) → Re
  | .set t e, ρ => (ev Φ gv e (prep Φ gv pi e ρ)).re (prep Φ gv pi e ρ) fun d => bindC t d (prep Φ gv pi e ρ)
  | .par i j a b, ρ => (evs Φ gv [a, b] (prep Φ gv pi (.tup [a, b]) ρ)).re (prep Φ gv pi (.tup [a, b]) ρ) fun ds => match ds with
    | [x, y] => if noVw x = true ∧ noVw y = true ∧ i < (prep Φ gv pi (.tup [a, b]) ρ).length ∧ j < (prep Φ gv pi (.tup [a, b]) ρ).length then .nx (((prep Φ gv pi (.tup [a, b]) ρ).set i (some x)).set j (some y)) else .bad
    | _ => .bad
  | .exp e, ρ => (ev Φ gv e ρ).re ρ fun _ => .nx ρ
  | .ret e, ρ => (ev Φ gv e (prep Φ gv pi e ρ)).re (prep Φ gv pi e ρ) fun d => if noVw d = true then .rt d (prep Φ gv pi e ρ) else .bad
  | .rtv i, ρ => match ρ[i]? with
    | some (some d) => .rt d (ρ.set i none)
    | _ => .bad
  | .rtn, ρ => .rt .non ρ
  | .ite c a b, ρ => (((ev Φ gv c ρ).bind fun d => Out.ofo (truD d))).re ρ fun k => if k = true then runs a ρ else runs b ρ
  | .fr t it b, ρ => (evIt Φ gv it (prepI Φ gv pi it ρ)).re (prepI Φ gv pi it ρ) fun r => if r.2 = true then loopF (fun x ρ => (bindC t x ρ).seq fun ρ' => runs b ρ') r.1 (prepI Φ gv pi it ρ) else .bad
  | .app i p e, ρ => ((slotD (prep Φ gv pi e ρ) i).bind fun d => evp Φ gv p (prep Φ gv pi e ρ) d).re (prep Φ gv pi e ρ) fun q => match subAt (prep Φ gv pi e ρ) i q with
    | some (.lst .ow xs) => (ev Φ gv e (prep Φ gv pi e ρ)).re (prep Φ gv pi e ρ) fun y => if noVw y = true ∧ xs.length < sizeLine then putAt (prep Φ gv pi e ρ) i q (.lst .ow (xs ++ [y])) else .bad
    | _ => .bad
  | .popd i p es, ρ => ((slotD ρ i).bind fun d => evp Φ gv p ρ d).re ρ fun q => match subAt ρ i q with
    | some (.lst .ow xs) => (evs Φ gv es ρ).re ρ fun ks => (match popK xs ks with
      | some k => putAt ρ i q (.lst .ow (xs.eraseIdx k))
      | none => .bad)
    | _ => .bad
  | .setI i p k e, ρ => (ev Φ gv e (prep Φ gv pi e ρ)).re (prep Φ gv pi e ρ) fun y => ((slotD (prep Φ gv pi e ρ) i).bind fun d => evp Φ gv p (prep Φ gv pi e ρ) d).re (prep Φ gv pi e ρ) fun q => (ev Φ gv k (prep Φ gv pi e ρ)).re (prep Φ gv pi e ρ) fun z => match subAt (prep Φ gv pi e ρ) i q, z with
    | some (.lst .ow xs), .int k => (match ixN xs.length k with
      | some j => if noVw y = true then putAt (prep Φ gv pi e ρ) i q (.lst .ow (xs.set j y)) else .bad
      | none => .bad)
    | _, _ => .bad
  | .setF i p f e, ρ => (ev Φ gv e (prep Φ gv pi e ρ)).re (prep Φ gv pi e ρ) fun y => ((slotD (prep Φ gv pi e ρ) i).bind fun d => evp Φ gv p (prep Φ gv pi e ρ) d).re (prep Φ gv pi e ρ) fun q => match subAt (prep Φ gv pi e ρ) i q with
    | some (.obj .ow c ns xs) => if noVw y = true ∧ xs.length < 1000 then putAt (prep Φ gv pi e ρ) i q (.obj .ow c (putN f y ns xs).1 (putN f y ns xs).2) else .bad
    | _ => .bad
  | .skip, ρ => .nx ρ
  | .brk, ρ => .bk ρ
  | .cnt, ρ => .ct ρ
  | .nev, _ => .bad
  | .rais c, ρ => .ex ⟨c, [], [], []⟩ ρ
  | .tr b i cs x, ρ => match runs b ρ with
    | .ex y ρ' => if y.c ∈ cs ∧ y.ns = [] ∧ i < ρ'.length then (match evX y x (ρ'.set i none) with
      | .ok v => if noVw v = true then .rt v (ρ'.set i none) else .bad
      | _ => .bad) else .bad
    | r => r
  | .appX i e, ρ => match ρ[i]? with
    | some (some (.lst .ow _)) => (match evE Φ gv e ρ with
      | .ok d ρ' => (match ρ'[i]? with
        | some (some (.lst .ow xs)) => if xs.length < sizeLine then .nx (ρ'.set i (some (.lst .ow (xs ++ [d])))) else .bad
        | _ => .bad)
      | .ex x ρ' => .ex x ρ'
      | .bad => .bad)
    | _ => .bad
def runs : List Sm → List (Option D) → Re
  | [], ρ => .nx ρ
  | s :: ss, ρ => (run1 s ρ).seq fun ρ' => runs ss ρ'
end
end

/-! ### what the machine is asked -/
structure CtxS (C : Cf) (k : Nat) (N : List Str) (sc : Scope) (st : List Str) (X : Cx) (W : WX) : Prop where
  ok : CtxOk C k N sc st X W
  own : PassesOwn (model X.prog X.w) X.A X.env X.xe
  stk : X.stack = X.env :: X.outer
  frm : X.env.frame = some X.env.locals
section
variable (C : Cf) (B : Hp) (F0 : Addr → Prop) (tv : List V) (td : List D) (pi : List Nat) (pv : List (Option (Option V)))
def S8 (ρ : List (Option D)) (P : L2.St → Hp → Prop) : Prop := ∀ σ' H', Holds C.G B F0 noH σ' ρ tv td H' → cleanS ρ = true → pi.map (fun i => σ'[i]?) = pv → P σ' H'
def WR (W : WX) (E : Ends) : Re → Prop
  | .nx ρ => S8 C B F0 tv td pi pv ρ E.nx
  | .bk ρ => S8 C B F0 tv td pi pv ρ E.bk
  | .ct ρ => S8 C B F0 tv td pi pv ρ E.ct
  | .rt d ρ => ∀ v σ' H', Holds C.G B F0 noH σ' ρ (v :: tv) (d :: td) H' → cleanS (ρ) = true → noVw d = true → pi.map (fun i => σ'[i]?) = pv → E.rt v H'
  | .ex x ρ => ∀ σ' H', Holds C.G B F0 noH σ' ρ tv td H' → cleanS ρ = true → pi.map (fun i => σ'[i]?) = pv → ∀ cls dx, ExR C.G H' x cls dx → W cls dx σ' H'
  | .bad => False
end
def tR (C : Cf) (pi : List Nat) (f : List (Option D) → Re) (W : WX) : TS := fun E σ H => ∃ B F0 ρ tv td pv, Holds C.G B F0 noH σ ρ tv td H ∧ cleanS ρ = true ∧ noVws td = true ∧ pi.map (fun i => σ[i]?) = pv ∧ WR C B F0 tv td pi pv W E (f ρ)
def S1 (C : Cf) (k : Nat) (N : List Str) (sc : Scope) (st : List Str) (pi : List Nat) (s : Stmt) (m : Sm) : Prop := ∀ X W, CtxS C k N sc st X W → PS X s (tR C pi (run1 C.Φ C.gv pi m) W)
def SS (C : Cf) (k : Nat) (N : List Str) (sc : Scope) (st : List Str) (pi : List Nat) (ss : List Stmt) (ms : List Sm) : Prop := ∀ X W, CtxS C k N sc st X W → PSs X ss (tR C pi (runs C.Φ C.gv pi ms) W)
theorem PS.imp {X : Cx} {e : Stmt} {t t' : TS} (h : PS X e t) (k : ∀ E σ H, t' E σ H → t E σ H) : PS X e t' := ⟨fun pins s σ H E I q => h.run pins s σ H E I (k _ _ _ q)⟩
theorem PSs.imp {X : Cx} {e : List Stmt} {t t' : TS} (h : PSs X e t) (k : ∀ E σ H, t' E σ H → t E σ H) : PSs X e t' := ⟨fun pins s σ H E I q => h.run pins s σ H E I (k _ _ _ q)⟩
section
variable {C : Cf} {k : Nat} {N : List Str} {sc : Scope} {st : List Str} {pi : List Nat} {B : Hp} {F0 : Addr → Prop} {tv : List V} {td : List D} {pv : List (Option (Option V))} {W : WX} {E E' : Ends} {r : Re}
theorem WR.seq {f : List (Option D) → Re} (h : WR C B F0 tv td pi pv W E (r.seq f)) (n : noVws td = true) : WR C B F0 tv td pi pv W { E with nx := tR C pi f W E } r := by
  cases r with
  | nx ρ => exact fun σ' H' h1 h2 h3 => ⟨B, F0, ρ, tv, td, pv, h1, h2, n, h3, h⟩
  | bk ρ => exact h
  | ct ρ => exact h
  | rt d ρ => exact h
  | ex x ρ => exact h
  | bad => exact h
theorem ss_z : SS C k N sc st pi [] [] := fun X W hX => PSs.imp pss_nil fun E σ H ⟨B, F0, ρ, tv, td, pv, h, c, n, p, w⟩ => by
  simp only [runs] at w
  exact w σ H h c p
theorem ss_c {s : Stmt} {m : Sm} {ss : List Stmt} {ms : List Sm} (h1 : S1 C k N sc st pi s m) (h2 : SS C k N sc st pi ss ms) : SS C k N sc st pi (s :: ss) (m :: ms) := fun X W hX =>
  PSs.imp (pss_cons (h1 X W hX) (h2 X W hX)) fun E σ H ⟨B, F0, ρ, tv, td, pv, h, c, n, p, w⟩ => by
    simp only [runs] at w
    exact ⟨B, F0, ρ, tv, td, pv, h, c, n, p, w.seq n⟩
/-- an outcome and what follows -/
theorem re_ok {α : Type} {o : Out α} {ρ : List (Option D)} {f : α → Re} {σ : L2.St} (h : WR C B F0 tv td pi pv W E (o.re ρ f)) (c : cleanS ρ = true) (p : pi.map (fun i => σ[i]?) = pv) :
    Wish o (Off C W σ B F0 noH ρ tv td) fun a => WR C B F0 tv td pi pv W E (f a) := by
  cases o with
  | ok a => exact h
  | exc x => exact fun H' h' cls dx er => h σ H' h' c p cls dx er
  | bad => exact h
/-! ### settling ahead -/
theorem Holds.takeS {G : Gb} {Lk H : Hp} {σ : L2.St} {ρ : List (Option D)} {i : Nat} {d : D} (h : Holds G B F0 Lk σ ρ tv td H) (hd : ρ[i]? = some (some d)) : ∃ v, σ[i]? = some (some v) ∧ Holds G B F0 Lk (σ.set i none) (ρ.set i none) (v :: tv) (d :: td) H := by
  obtain ⟨⟨f1, f2, a, b, n, q⟩, kb, kl, tb⟩ := h
  obtain ⟨v, g, f', e1, o, a', p⟩ := a.take (x := none) hd
  have pm : (f' ++ (g ++ f2)).Perm (f1 ++ f2) := by rw [← List.append_assoc]; exact p.append_right f2
  have mono : ∀ a, H a ≠ none → Fzp B F0 (f1 ++ f2) a → Fzp B F0 (f' ++ (g ++ f2)) a := fun a _ z => ⟨z.1, fun m => z.2 (pm.subset m)⟩
  exact ⟨v, e1, ⟨f', g ++ f2, a'.keep (Keep.refl _) mono, .cons (o.keep (Keep.refl _) mono) (b.keep (Keep.refl _) mono), pm.nodup_iff.mpr n, fun p hp => q p (pm.subset hp)⟩, kb, kl, tb⟩
theorem set_same {α : Type} {xs : List α} {i : Nat} {x : α} (h : xs[i]? = some x) : xs.set i x = xs := by
  apply List.ext_getElem?
  intro j
  rw [List.getElem?_set]
  by_cases e : i = j
  · subst e; rw [if_pos rfl, if_pos (List.getElem?_eq_some_iff.mp h).1, h]
  · rw [if_neg e]
theorem Holds.frz1 {G : Gb} {Lk H : Hp} {σ : L2.St} {ρ : List (Option D)} (i : Nat) (h : Holds G B F0 Lk σ ρ tv td H) : Holds G B F0 Lk σ (Pu.frz1 i ρ) tv td H := by
  unfold Pu.frz1
  split
  · rename_i d hd
    obtain ⟨v, e1, h1⟩ := h.takeS hd
    have h2 := h1.frz.set (i := i) (by rw [List.length_set]; exact (List.getElem?_eq_some_iff.mp hd).1)
    rw [List.set_set, List.set_set, set_same e1] at h2
    exact h2
  · exact h
theorem cleanS_set {ρ : List (Option D)} {i : Nat} {o : Option D} (h : cleanS ρ = true) (n : ∀ d, o = some d → noVw d = true) : cleanS (ρ.set i o) = true := by
  unfold cleanS at *
  rw [List.all_eq_true] at *
  intro x hx
  rcases List.mem_or_eq_of_mem_set hx with m | rfl
  · exact h x m
  · cases x with
    | none => rfl
    | some d => exact n d rfl
theorem cleanS_get {ρ : List (Option D)} {i : Nat} {d : D} (h : cleanS ρ = true) (e : ρ[i]? = some (some d)) : noVw d = true := by
  unfold cleanS at h
  rw [List.all_eq_true] at h
  exact h _ (List.mem_of_getElem? e)
theorem clean_frz1 (i : Nat) {ρ : List (Option D)} (c : cleanS ρ = true) : cleanS (Pu.frz1 i ρ) = true := by
  unfold Pu.frz1
  split
  · rename_i d hd
    exact cleanS_set c fun d' e => by cases e; exact noVw_fzD d (cleanS_get c hd)
  · exact c
theorem Holds.frzs {G : Gb} {Lk H : Hp} {σ : L2.St} {ρ : List (Option D)} (pi is : List Nat) (h : Holds G B F0 Lk σ ρ tv td H) : Holds G B F0 Lk σ (Pu.frzs pi is ρ) tv td H := by
  induction is with
  | nil => exact h
  | cons i is ih =>
    show Holds G B F0 Lk σ (if i ∈ pi then Pu.frzs pi is ρ else Pu.frz1 i (Pu.frzs pi is ρ)) tv td H
    split
    · exact ih
    · exact ih.frz1 i
theorem clean_frzs (pi is : List Nat) {ρ : List (Option D)} (c : cleanS ρ = true) : cleanS (Pu.frzs pi is ρ) = true := by
  induction is with
  | nil => exact c
  | cons i is ih =>
    show cleanS (if i ∈ pi then Pu.frzs pi is ρ else Pu.frz1 i (Pu.frzs pi is ρ)) = true
    split
    · exact ih
    · exact clean_frz1 i ih
theorem Holds.prep {Φ gv} {G : Gb} {Lk H : Hp} {σ : L2.St} {ρ : List (Option D)} (e : Ex) (h : Holds G B F0 Lk σ ρ tv td H) (c : cleanS ρ = true) : Holds G B F0 Lk σ (Pu.prep Φ gv pi e ρ) tv td H ∧ cleanS (Pu.prep Φ gv pi e ρ) = true := by
  unfold Pu.prep
  split
  · split
    · exact ⟨h, c⟩
    · exact ⟨h.frzs _ _, clean_frzs _ _ c⟩
  · exact ⟨h.frzs _ _, clean_frzs _ _ c⟩
  · exact ⟨h, c⟩
theorem Holds.prepI {Φ gv} {G : Gb} {Lk H : Hp} {σ : L2.St} {ρ : List (Option D)} (e : It) (h : Holds G B F0 Lk σ ρ tv td H) (c : cleanS ρ = true) : Holds G B F0 Lk σ (Pu.prepI Φ gv pi e ρ) tv td H ∧ cleanS (Pu.prepI Φ gv pi e ρ) = true := by
  unfold Pu.prepI
  split
  · split
    · exact ⟨h, c⟩
    · exact ⟨h.frzs _ _, clean_frzs _ _ c⟩
  · exact ⟨h.frzs _ _, clean_frzs _ _ c⟩
  · exact ⟨h, c⟩
end
end Pu

set_option Elab.async false
set_option linter.all false
set_option maxRecDepth 100000
set_option maxHeartbeats 1000000
/-! Pu16: the statements' rules. -/
namespace Pu
open PySem PySem.Spec PyProof.Rows L2
def nlc : Expr → Bool
  | .ListComp _ _ _ _ => false
  | .SetComp _ _ _ _ => false
  | .DictComp _ _ _ _ _ => false
  | _ => true
theorem nlc_swaps {e : Expr} (h : nlc e = true) (t : Option Expr) (l : Nat) (env : Env) : swapsWith e t l env = pure false := by
  cases e <;> first | rfl | cases h
def ntp : Expr → Bool
  | .Tuple _ _ _ => false
  | _ => true
theorem ntp_swapped {t e : Expr} (h : ntp e = true) (env : Env) : swappedStores [t] e env = pure none := by
  cases e <;> first | (cases t <;> rfl) | cases h
def npl : Expr → Bool
  | .Name _ _ => true
  | .Attribute _ _ _ => true
  | .Subscript _ _ _ => true
  | _ => false
theorem npl_base {o : Expr} (h : npl o = true) (a : Str) (env : Env) (w : Sem Value) : attributeBase o a env w = w := by
  cases o <;> first | rfl | cases h
theorem noVws_app {a b : List D} (h : noVws a = true) (g : noVws b = true) : noVws (a ++ b) = true := by
  rw [noVws_eq] at *
  rw [List.all_append, h, g]; rfl
theorem wipe_out {σ σ' : L2.St} {is pi : List Nat} (h : ∀ vs, (∀ i ∈ is, i ∈ vs) → L2.wipe σ' vs = L2.wipe σ vs) (g : ∀ i ∈ is, i ∉ pi) : pi.map (fun i => σ'[i]?) = pi.map (fun i => σ[i]?) := by
  apply List.map_congr_left
  intro i hi
  have e := congrArg (fun s : L2.St => s[i]?) (h is fun _ z => z)
  simp only [wipe_get] at e
  rwa [if_neg (fun z => g i z hi), if_neg (fun z => g i z hi)] at e
theorem clean_putAll : ∀ {is : List Nat} {xs : List D} {ρ ρ' : List (Option D)}, putAll is xs ρ = .ok ρ' → cleanS ρ = true → noVws xs = true → cleanS ρ' = true
  | [], [], ρ, ρ', h, c, _ => by simp only [putAll, Out.ok.injEq] at h; rw [← h]; exact c
  | [], _ :: _, _, _, h, _, _ => by simp [putAll] at h
  | _ :: _, [], _, _, h, _, _ => by simp [putAll] at h
  | i :: is, x :: xs, ρ, ρ', h, c, n => by
    simp only [putAll, Out.chk] at h
    simp only [noVws, Bool.and_eq_true] at n
    split at h
    · exact clean_putAll h (cleanS_set c fun d e => by cases e; exact n.1) n.2
    · cases h
theorem clean_bind {t : Tg} {d : D} {ρ ρ' : List (Option D)} (h : bindTg t d ρ = .ok ρ') (c : cleanS ρ = true) (n : noVw d = true) : cleanS ρ' = true := by
  cases t with
  | nm i =>
    simp only [bindTg, Out.chk] at h
    split at h
    · simp only [Out.ok.injEq] at h
      rw [← h]
      exact cleanS_set c fun d e => by cases e; exact n
    · cases h
  | tp is =>
    cases d <;> first | (simp [bindTg] at h; done) | skip
    exact clean_putAll h c n
section
variable {C : Cf} {k : Nat} {N : List Str} {sc : Scope} {st : List Str} {pi : List Nat} {B Lk H : Hp} {F0 : Addr → Prop} {tv : List V} {td : List D} {pv : List (Option (Option V))} {W : WX} {E : Ends} {r : Re} {a b c e o tg iter : Expr} {ia ib ic ie : Ex} {es : List Expr} {ies : List Ex} {t : Tg} {it : It} {pos pos' : Pos} {σ : L2.St} {ρ : List (Option D)} {d : D} {v : V}
/-- the target, in a statement -/
theorem bind_tail {f : List (Option D) → Re} (hp : ∀ i ∈ tgIx t, i ∉ pi) (h : Holds C.G B F0 noH σ ρ (v :: tv) (d :: td) H) (c : cleanS ρ = true) (p : pi.map (fun i => σ[i]?) = pv) (n : noVws td = true)
    (w : WR C B F0 tv td pi pv W E ((bindC t d ρ).seq f)) : tG C t v σ H fun σ2 H2 => tR C pi f W E σ2 H2 := by
  unfold bindC at w
  split at w
  · rename_i nd
    cases hb : bindTg t d ρ with
    | ok ρ' =>
      rw [hb] at w
      refine ⟨B, F0, noH, ρ, tv, td, d, h, ?_⟩
      rw [hb]
      exact fun σ' hs h' => ⟨B, F0, ρ', tv, td, pv, h', clean_bind hb c nd, n, by rw [wipe_out hs hp]; exact p, w⟩
    | exc _ => rw [hb] at w; exact w.elim
    | bad => rw [hb] at w; exact w.elim
  · exact w.elim
theorem set_tail (hp : ∀ i ∈ tgIx t, i ∉ pi) (h : tR C pi (run1 C.Φ C.gv pi (.set t ie)) W E σ H) : tAsg (tE C ie W) (tG C t) E σ H := by
  obtain ⟨B, F0, ρ, tv, td, pv, h, c, n, p, w⟩ := h
  obtain ⟨h', c'⟩ := h.prep (Φ := C.Φ) (gv := C.gv) (pi := pi) ie c
  simp only [run1] at w
  generalize Pu.prep C.Φ C.gv pi ie ρ = ρ1 at h' c' w
  refine ⟨B, F0, noH, ρ1, tv, td, h', (re_ok w c' p).mono (fun _ z => z) fun d hd w1 v H1 h1 => ?_⟩
  have w2 : WR C B F0 tv td pi pv W E ((bindC t d ρ1).seq .nx) := by cases q : bindC t d ρ1 <;> rw [q] at w1 <;> exact w1
  obtain ⟨B', F', L', ρ', tv', td', d', q1, q2⟩ := bind_tail hp h1 c' p n w2
  exact ⟨B', F', L', ρ', tv', td', d', q1, q2.mono (fun _ z => z) fun ρ2 _ q3 σ' hs h' => let ⟨_, _, _, _, _, _, z1, z2, _, z4, z5⟩ := q3 σ' hs h'; z5 σ' H1 z1 z2 z4⟩
theorem t_set (hn : nlc e = true) (hm : ntp e = true) (hp : ∀ i ∈ tgIx t, i ∉ pi) (ha : ∀ env, (assignEach [tg] env).map (·.2) = [assign tg env]) (he : SE C k N sc st e ie) (hg : SG C k N sc st tg t) : S1 C k N sc st pi (.Assign [tg] e pos) (.set t ie) := fun X W hX =>
  PS.imp (ps_asg (he X W hX.ok) (hg X W hX.ok) (nlc_swaps hn _ _ _) (ntp_swapped hm _) (ha _)) fun E σ H h => set_tail hp h
/-- name = value -/
theorem t_setN {x : Str} {i : Nat} (hn : nlc e = true) (hi : N[i]? = some x) (hx : x ∈ st) (hp : i ∉ pi) (he : SE C k N sc st e ie) : S1 C k N sc st pi (.Assign [.Name x pos'] e pos) (.set (.nm i) ie) := fun X W hX => by
  obtain ⟨h1, h2⟩ := hX.ok.hst _ hx
  refine PS.imp (ps_set (by rw [hX.ok.eN]; exact hX.ok.nd) (by rw [hX.ok.eN]; exact hi) (by rw [hX.ok.eS]; exact h1) (he X W hX.ok) (nlc_swaps hn _ _ _) (by rw [hX.ok.eS]; exact h2)) fun E σ H h => ?_
  obtain ⟨B, F0, Lk, ρ, tv, td, h', w⟩ := set_tail (t := .nm i) (fun j hj => by rw [List.mem_singleton.mp hj]; exact hp) h
  refine ⟨B, F0, Lk, ρ, tv, td, h', w.mono (fun _ z => z) fun d _ q v H1 h1 => ?_⟩
  obtain ⟨B', F', L', ρ', tv', td', d', q1, q2⟩ := q v H1 h1
  obtain ⟨hl, q3⟩ := Wish.chk q2
  exact q3 _ (fun us hu => wipe_set _ _ _ _ (hu i (List.mem_singleton_self _))) (q1.set (of_decide_eq_true hl))
theorem swaps_off {x : Str} {py p2 : Pos} {elt : Expr} {gs : List Comprehension} {scope : Scope} {l : Nat} {env : Env} (h : env.kindOf x = some .cell ∨ (py.line == p2.line) = false) : swapsWith (.ListComp elt gs scope p2) (some (.Name x py)) l env = pure false := by
  unfold swapsWith
  rcases h with h | h
  · simp only [h, show (some NameKind.cell == some NameKind.local) = false from rfl, Bool.and_false, Bool.false_and]
  · simp only [Expr.pos, h, Bool.and_false, Bool.false_and]
/-- name = [..], else -/
theorem t_setL {x : Str} {i : Nat} {elt : Expr} {gs : List Comprehension} {scope : Scope} {p2 : Pos} (hsw : sc.names.lookup x = some .cell ∨ (pos'.line == p2.line) = false) (hi : N[i]? = some x) (hx : x ∈ st) (hp : i ∉ pi) (he : SE C k N sc st (.ListComp elt gs scope p2) ie) : S1 C k N sc st pi (.Assign [.Name x pos'] (.ListComp elt gs scope p2) pos) (.set (.nm i) ie) := fun X W hX => by
  obtain ⟨h1, h2⟩ := hX.ok.hst _ hx
  refine PS.imp (ps_set (by rw [hX.ok.eN]; exact hX.ok.nd) (by rw [hX.ok.eN]; exact hi) (by rw [hX.ok.eS]; exact h1) (he X W hX.ok) (swaps_off (hsw.imp (fun h => by unfold Env.kindOf; rw [hX.ok.eS]; exact h) id)) (by rw [hX.ok.eS]; exact h2)) fun E σ H h => ?_
  obtain ⟨B, F0, Lk, ρ, tv, td, h', w⟩ := set_tail (t := .nm i) (fun j hj => by rw [List.mem_singleton.mp hj]; exact hp) h
  refine ⟨B, F0, Lk, ρ, tv, td, h', w.mono (fun _ z => z) fun d _ q v H1 h1 => ?_⟩
  obtain ⟨B', F', L', ρ', tv', td', d', q1, q2⟩ := q v H1 h1
  obtain ⟨hl, q3⟩ := Wish.chk q2
  exact q3 _ (fun us hu => wipe_set _ _ _ _ (hu i (List.mem_singleton_self _))) (q1.set (of_decide_eq_true hl))
/-- name = [..] on one line -/
theorem t_setC {x : Str} {i : Nat} {elt : Expr} {ifs : List Expr} {scope : Scope} {st' : List Str} {own : List (Str × Nat)} {cs : List Ex} {p2 : Pos} (hi : N[i]? = some x) (hp : i ∉ pi) (hxl : sc.names.lookup x = some .local) (hk : sc.kind = .function) (hl : (pos'.line == p2.line) = true)
    (hna : (scope.names.any fun (n, k) => n == x && (k == .local || k == .cell)) = false) (hw : ∀ i ∈ tgIx t, i ∈ own.map (·.2)) (hbk : blkC N sc scope own = true) (hf : ∀ env x, foldedSetIterable iter env x = pure x)
    (h : ∀ x ∈ st', L2.Loc (relS scope sc) x ∧ ((scope.names.lookup x == some NameKind.cell) = true ∨ (relS scope sc).names.lookup x = some NameKind.local))
    (hit : SI C k N sc st tg iter it) (hg : SG C k N (relS scope sc) st' tg t) (hc : SCs C k N (relS scope sc) st' ifs cs) (he : SE C k N (relS scope sc) st' elt ie) :
    S1 C k N sc st pi (.Assign [.Name x pos'] (.ListComp elt [⟨tg, iter, ifs, 0⟩] scope p2) pos) (.set (.nm i) (.comp (own.map (·.2)) ie t it cs)) := fun X W hX => by
  have ok : BlkOk X.N X.env.scope scope own := by rw [hX.ok.eN, hX.ok.eS]; exact blkOk_by hbk
  refine PS.imp (ps_setLu hX.ok.calm (by rw [hX.ok.eN]; exact hX.ok.nd) (by rw [hX.ok.eN]; exact hi) (by rw [hX.ok.eS]; exact hxl) (sw_true (by rw [hX.ok.eS]; exact hk) (by rw [hX.ok.eS]; exact hxl) hl hna) (hit X W hX.ok) ok (fun s H c cl fp => have z := ctx_blk hX.ok h s H c cl fp; ⟨hg _ _ z, hc _ _ z, he _ _ z⟩) (hf X.env)) fun E σ H h => ?_
  obtain ⟨B, F0, Lk, ρ, tv, td, h', w⟩ := set_tail (t := .nm i) (fun j hj => by rw [List.mem_singleton.mp hj]; exact hp) h
  refine comp_tail hw ⟨B, F0, Lk, ρ, tv, td, h', w.mono (fun _ z => z) fun d _ q v H1 h1 => ?_⟩
  obtain ⟨B', F', L', ρ', tv', td', d', q1, q2⟩ := q v H1 h1
  obtain ⟨hl, q3⟩ := Wish.chk q2
  exact q3 _ (fun us hu => wipe_set _ _ _ _ (hu i (List.mem_singleton_self _))) (q1.set (of_decide_eq_true hl))
theorem t_exp (hn : nlc e = true) (he : SE C k N sc st e ie) : S1 C k N sc st pi (.Expr e pos) (.exp ie) := fun X W hX =>
  PS.imp (ps_expr (he X W hX.ok) (nlc_swaps hn _ _ _)) fun E σ H ⟨B, F0, ρ, tv, td, pv, h, c, n, p, w⟩ => by
    simp only [run1] at w
    exact ⟨B, F0, noH, ρ, tv, td, h, (re_ok w c p).mono (fun _ z => z) fun d _ w1 v H1 h1 => w1 σ H1 h1.pop c p⟩
theorem t_doc {x j p2} : S1 C k N sc st pi (.Expr (.Constant (.str x) j p2) pos) .skip := fun X W hX => PS.imp ps_doc fun E σ H ⟨B, F0, ρ, tv, td, pv, h, c, n, p, w⟩ => w σ H h c p
theorem t_pass : S1 C k N sc st pi (.Pass pos) .skip := fun X W hX => PS.imp ps_pass fun E σ H ⟨B, F0, ρ, tv, td, pv, h, c, n, p, w⟩ => w σ H h c p
theorem t_brk : S1 C k N sc st pi (.Break pos) .brk := fun X W hX => PS.imp ps_break fun E σ H ⟨B, F0, ρ, tv, td, pv, h, c, n, p, w⟩ => w σ H h c p
theorem t_cnt : S1 C k N sc st pi (.Continue pos) .cnt := fun X W hX => PS.imp ps_continue fun E σ H ⟨B, F0, ρ, tv, td, pv, h, c, n, p, w⟩ => w σ H h c p
theorem t_nev {s : Stmt} : S1 C k N sc st pi s .nev := fun X W hX => PS.imp ps_never fun E σ H ⟨B, F0, ρ, tv, td, pv, h, c, n, p, w⟩ => w
theorem t_ret (he : SE C k N sc st e ie) : S1 C k N sc st pi (.Return (some e) pos) (.ret ie) := fun X W hX =>
  PS.imp (ps_ret (he X W hX.ok)) fun E σ H ⟨B, F0, ρ, tv, td, pv, h, c, n, p, w⟩ => by
    obtain ⟨h', c'⟩ := h.prep (Φ := C.Φ) (gv := C.gv) (pi := pi) ie c
    simp only [run1] at w
    generalize Pu.prep C.Φ C.gv pi ie ρ = ρ1 at h' c' w
    refine ⟨B, F0, noH, ρ1, tv, td, h', (re_ok w c' p).mono (fun _ z => z) fun d _ w1 v H1 h1 => ?_⟩
    split at w1
    · rename_i nd
      exact w1 v σ H1 h1 c' nd p
    · exact w1.elim
theorem t_rtn : S1 C k N sc st pi (.Return none pos) .rtn := fun X W hX => PS.imp ps_retN fun E σ H ⟨B, F0, ρ, tv, td, pv, h, c, n, p, w⟩ => w .non σ H (h.push fun _ => .non) c rfl p
theorem t_rtv {x : Str} {i : Nat} (hi : N[i]? = some x) (hv : Vis sc x) (hp : i ∉ pi) (h1 : (x == ("__debug__" : Str)) = false) (h2 : (x == ("__classdict__" : Str)) = false) : S1 C k N sc st pi (.Return (some (.Name x pos')) pos) (.rtv i) := fun X W hX =>
  PS.imp (ps_ret (pe_var (i := i) (by rw [hX.ok.eN]; exact hi) (by rw [hX.ok.eS]; exact hv) h1 h2)) fun E σ H ⟨B, F0, ρ, tv, td, pv, h, c, n, p, w⟩ => by
    simp only [run1] at w
    split at w
    · rename_i d hd
      obtain ⟨v, e1, h'⟩ := h.takeS hd
      refine ⟨v, e1, w v _ H h' (cleanS_set c fun d e => by cases e) (cleanS_get c hd) ?_⟩
      rw [← p]
      apply List.map_congr_left
      intro j hj
      rw [List.getElem?_set_ne (fun z => hp (by rw [z]; exact hj))]
    · exact w.elim
theorem t_ite {x y : List Stmt} {mx my : List Sm} (hc : STt C k N sc st c ic) (h1 : SS C k N sc st pi x mx) (h2 : SS C k N sc st pi y my) : S1 C k N sc st pi (.If c x y pos) (.ite ic mx my) := fun X W hX =>
  PS.imp (ps_if (hc X W hX.ok) (h1 X W hX) (h2 X W hX)) fun E σ H ⟨B, F0, ρ, tv, td, pv, h, c, n, p, w⟩ => by
    simp only [run1] at w
    refine ⟨B, F0, noH, ρ, tv, td, h, (re_ok w c p).mono (fun _ z => z) fun q _ w1 H1 h1 => ?_⟩
    cases q
    · exact ⟨B, F0, ρ, tv, td, pv, h1, c, n, p, w1⟩
    · exact ⟨B, F0, ρ, tv, td, pv, h1, c, n, p, w1⟩
/-- below the loop's roots -/
theorem loop_step {rv : List V} {rd : List D} {f : D → List (Option D) → Re} {x : D} {xs : List D} {ρ : List (Option D)} (el : rv.length = rd.length) (w : WR C B F0 tv td pi pv W E (loopF f (x :: xs) ρ)) :
    WR C B F0 (rv ++ tv) (rd ++ td) pi pv W { E with nx := fun σ' H' => ∃ ρ', Holds C.G B F0 noH σ' ρ' (rv ++ tv) (rd ++ td) H' ∧ cleanS ρ' = true ∧ pi.map (fun i => σ'[i]?) = pv ∧ WR C B F0 tv td pi pv W E (loopF f xs ρ'), ct := fun σ' H' => ∃ ρ', Holds C.G B F0 noH σ' ρ' (rv ++ tv) (rd ++ td) H' ∧ cleanS ρ' = true ∧ pi.map (fun i => σ'[i]?) = pv ∧ WR C B F0 tv td pi pv W E (loopF f xs ρ'), bk := E.nx } (f x ρ) := by
  simp only [loopF] at w
  cases q : f x ρ with
  | nx ρ' => rw [q] at w; exact fun σ' H' h c p => ⟨ρ', h, c, p, w⟩
  | ct ρ' => rw [q] at w; exact fun σ' H' h c p => ⟨ρ', h, c, p, w⟩
  | bk ρ' => rw [q] at w; exact fun σ' H' h c p => w σ' H' (h.popn el) c p
  | rt d ρ' =>
    rw [q] at w
    exact fun v σ' H' h c n p => w v σ' H' (h.re (Keep.refl _) h.tb fun Fz f2 b => by
      cases b with
      | @cons _ _ _ _ g0 _ b1 b2 =>
        obtain ⟨g1, g2, q1, q2, rfl⟩ := b2.split el
        exact ⟨g0 ++ g2, (Sb.refl _).app (Sb.right _ _), fun Fz' m _ => .cons (b1.keep (Keep.refl _) m) (q2.keep (Keep.refl _) m)⟩) c n p
  | ex x ρ' => rw [q] at w; exact fun σ' H' h c p => w σ' H' (h.popn el) c p
  | bad => rw [q] at w; exact w.elim
theorem t_for {x : List Stmt} {mx : List Sm} (hp : ∀ i ∈ tgIx t, i ∉ pi) (hf : ∀ env x, foldedSetIterable iter env x = pure x) (hi : SI C k N sc st tg iter it) (hg : SG C k N sc st tg t) (hb : SS C k N sc st pi x mx) : S1 C k N sc st pi (.For tg iter x [] pos) (.fr t it mx) := fun X W hX =>
  PS.imp (ps_for hX.own hX.ok.calm (hi X W hX.ok) (hg X W hX.ok) (hb X W hX) (hf X.env)) fun E σ H ⟨B, F0, ρ, tv, td, pv, h, c, n, p, w⟩ => by
    obtain ⟨h', c'⟩ := h.prepI (Φ := C.Φ) (gv := C.gv) (pi := pi) it c
    simp only [run1] at w
    generalize Pu.prepI C.Φ C.gv pi it ρ = ρ1 at h' c' w
    refine ⟨B, F0, noH, ρ1, tv, td, h', (re_ok w c' p).mono (fun _ z => z) fun r hr w1 J rv rd H1 wk hz h1 => ?_⟩
    split at w1
    · rename_i r2
      have nr := noVws_app (hz r2) n
      refine ⟨fun i m σ' H' => m = r.1.length - i ∧ i ≤ r.1.length ∧ ∃ ρ', Holds C.G B F0 noH σ' ρ' (rv ++ tv) (rd ++ td) H' ∧ cleanS ρ' = true ∧ pi.map (fun i => σ'[i]?) = pv ∧ WR C B F0 tv td pi pv W E (loopF (fun x ρ => (bindC t x ρ).seq fun ρ' => runs C.Φ C.gv pi mx ρ') (r.1.drop i) ρ'), ⟨_, rfl, Nat.zero_le _, ρ1, h1, c', p, w1⟩, ?_⟩
      rintro i m σ' H' ⟨rfl, hi, ρ', hh, cc, pp, ww⟩
      by_cases hlt : i < r.1.length
      · rw [take_succ_of hlt] at ww
        refine .inr ⟨wk.go i hh hlt, _, fun σ2 H2 z => ⟨r.1.length - (i + 1), by omega, rfl, hlt, z⟩, fun v H2 hy => ?_⟩
        have h4 := wk.yld hh (List.getElem?_eq_getElem hlt) hy
        exact bind_tail hp h4 cc pp nr (loop_step wk.len ww)
      · have e : i = r.1.length := by omega
        subst e
        rw [List.drop_length] at ww
        exact .inl ⟨wk.stop hh, ww σ' H' (hh.popn wk.len) cc pp⟩
    · exact w1.elim
/-- a, b = e, e' with plain local names -/
theorem par_swapped {x y : Str} {px py pt pt2 : Pos} {kt k2 : Nat} {env : Env} (hb : env.blockKind = .function) (hx : env.kindOf x = some .local) (hy : env.kindOf y = some .local) (hl : (px.line == py.line) = true) (hxy : (x == y) = false) (na : nst a = true) (nb : nst b = true)
    (hf : [a, b].all (foldedForSure 8) = false) (hc : [a, b].all (constantsAlone 8) = false) : swappedStores [.Tuple [.Name x px, .Name y py] kt pt] (.Tuple [a, b] k2 pt2) env = pure (some [x, y]) := by
  have hst : ([a, b].any fun e => match e with | .Starred .. => true | _ => false) = false := by
    cases a <;> first | cases na | skip
    all_goals (cases b <;> first | rfl | cases nb)
  have e1 : px.line = py.line := by simpa using hl
  unfold swappedStores
  simp only [List.length_cons, List.length_nil, hb, hst, hf, hc]
  have hyx : (y == x) = false := beq_eq_false_iff_ne.mpr fun z => beq_eq_false_iff_ne.mp hxy z.symm
  simp [hx, hy, e1, Expr.pos, List.eraseDups_cons, hxy, hyx]
  intro z
  rcases z with z | z
  · cases a <;> first | (cases na; done) | (simp at z; done)
  · cases b <;> first | (cases nb; done) | (simp at z; done)
theorem t_par {x y : Str} {i j : Nat} {px py pt pt2 : Pos} {kt k2 : Nat} (hi : N[i]? = some x) (hj : N[j]? = some y) (hij : i ≠ j) (hpi : i ∉ pi) (hpj : j ∉ pi) (hk : sc.kind = .function) (hx : sc.names.lookup x = some .local) (hy : sc.names.lookup y = some .local) (hl : (px.line == py.line) = true) (hxy : (x == y) = false) (na : nst a = true) (nb : nst b = true)
    (hf : [a, b].all (foldedForSure 8) = false) (hc : [a, b].all (constantsAlone 8) = false) (ha : SE C k N sc st a ia) (hb : SE C k N sc st b ib) :
    S1 C k N sc st pi (.Assign [.Tuple [.Name x px, .Name y py] kt pt] (.Tuple [a, b] k2 pt2) pos) (.par i j ia ib) := fun X W hX => by
  have kx : X.env.kindOf x = some .local := by unfold Env.kindOf; rw [hX.ok.eS]; exact hx
  have ky : X.env.kindOf y = some .local := by unfold Env.kindOf; rw [hX.ok.eS]; exact hy
  have kb : X.env.blockKind = .function := by unfold Env.blockKind; rw [hX.ok.eS, hk]; rfl
  refine PS.imp (ps_par hX.ok.calm (by rw [hX.ok.eN]; exact hX.ok.nd) (by rw [hX.ok.eN]; exact hi) (by rw [hX.ok.eN]; exact hj) hij kx ky (ss_cons na ha (ss_cons nb hb ss_nil) X W hX.ok) (par_swapped kb kx ky hl hxy na nb hf hc) (by unfold swapsWithSole; rfl)) fun E σ H ⟨B, F0, ρ, tv, td, pv, h, c, n, p, w⟩ => ?_
  obtain ⟨h', c'⟩ := h.prep (Φ := C.Φ) (gv := C.gv) (pi := pi) (.tup [ia, ib]) c
  simp only [run1] at w
  generalize Pu.prep C.Φ C.gv pi (.tup [ia, ib]) ρ = ρ1 at h' c' w
  refine ⟨B, F0, noH, ρ1, tv, td, h', (re_ok w c' p).mono (fun _ z => z) fun ds hds w1 vs H1 hl h1 => ?_⟩
  have e1 := evs_len hds
  match ds, vs, e1, hl with
  | [d, d'], [v, v'], z1, z2 =>
    clear z1 z2 hds
    dsimp only at w1
    split at w1
    · rename_i cnd
      obtain ⟨n1, n2, l1, l2⟩ := cnd
      have h2 := Holds.set (i := i) (show Holds C.G B F0 noH σ ρ1 (v :: (v' :: tv)) (d :: (d' :: td)) H1 from h1) l1
      have h3 := Holds.set (i := j) h2 (by rw [List.length_set]; exact l2)
      refine ⟨v, v', rfl, w1 _ _ h3 (cleanS_set (cleanS_set c' fun d e => by cases e; exact n1) fun d e => by cases e; exact n2) ?_⟩
      rw [← p]
      apply List.map_congr_left
      intro m hm
      rw [List.getElem?_set_ne (fun z => hpj (by rw [z]; exact hm)), List.getElem?_set_ne (fun z => hpi (by rw [z]; exact hm))]
    · exact w1.elim
end
end Pu

set_option Elab.async false
set_option linter.all false
set_option maxRecDepth 100000
set_option maxHeartbeats 1000000
/-! Pu17: writing statements. -/
namespace Pu
open PySem PySem.Spec PyProof.Rows L2
theorem reach_inj {H : Hp} : ∀ {q : List PEl} {v x y : V}, reach H q v x → reach H q v y → x = y
  | [], _, _, _, h, g => h.symm.trans g
  | .ix j :: q, _, _, _, ⟨a, vs, v1, e1, e2, e3, h⟩, ⟨a', vs', v1', f1, f2, f3, g⟩ => by
    subst e1
    cases f1
    rw [e2] at f2
    cases f2
    rw [e3] at f3
    cases f3
    exact reach_inj h g
  | .fl x :: q, _, _, _, ⟨a, c, dx, fvs, v1, e1, e2, e3, h⟩, ⟨a', c', dx', fvs', v1', f1, f2, f3, g⟩ => by
    subst e1
    cases f1
    rw [e2] at f2
    cases f2
    rw [e3] at f3
    cases f3
    exact reach_inj h g
theorem reach_keep {H H' : Hp} (k : Keep H H') : ∀ {q : List PEl} {v x : V}, reach H q v x → reach H' q v x
  | [], _, _, h => h
  | .ix j :: q, _, _, ⟨a, vs, v1, e1, e2, e3, h⟩ => ⟨a, vs, v1, e1, k.at e2 rfl, e3, reach_keep k h⟩
  | .fl x :: q, _, _, ⟨a, c, dx, fvs, v1, e1, e2, e3, h⟩ => ⟨a, c, dx, fvs, v1, e1, k.at e2 rfl, e3, reach_keep k h⟩
theorem reach_snoc {H : Hp} {p : PEl} : ∀ {q : List PEl} {v x y : V}, reach H q v x → reach H [p] x y → reach H (q ++ [p]) v y
  | [], _, _, _, h, g => by rw [show _ = _ from h]; exact g
  | .ix j :: q, _, _, _, ⟨a, vs, v1, e1, e2, e3, h⟩, g => ⟨a, vs, v1, e1, e2, e3, reach_snoc h g⟩
  | .fl x :: q, _, _, _, ⟨a, c, dx, fvs, v1, e1, e2, e3, h⟩, g => ⟨a, c, dx, fvs, v1, e1, e2, e3, reach_snoc h g⟩
section
variable {G : Gb} {B Lk H : Hp} {F0 : Addr → Prop} {σ : L2.St} {ρ : List (Option D)} {tv : List V} {td : List D}
theorem Holds.lkH (h : Holds G B F0 Lk σ ρ tv td H) : Holds G B F0 H σ ρ tv td H := ⟨h.own, h.kb, Keep.refl H, h.tb⟩
theorem Holds.lk0 (h : Holds G B F0 Lk σ ρ tv td H) : Holds G B F0 noH σ ρ tv td H := ⟨h.own, h.kb, Keep.noH _, h.tb⟩
theorem Holds.lkS (h : Holds G B F0 Lk σ ρ tv td H) {L2' : Hp} (k : Keep L2' H) : Holds G B F0 L2' σ ρ tv td H := ⟨h.own, h.kb, k, h.tb⟩
/-- what lies at a path -/
theorem Holds.sub {i : Nat} {d d1 : D} {v0 v : V} {q : List PEl} (h : Holds G B F0 Lk σ ρ tv td H) (hc : cleanS ρ = true) (hd : ρ[i]? = some (some d)) (hv : σ[i]? = some (some v0)) (hs : subD q d = some d1) (r : reach H q v0 v) : ∃ Fz g, Own G.K G.cl H Fz v d1 g ∧ noVw d1 = true := by
  obtain ⟨⟨f1, f2, a, b, n, qq⟩, kb, kl, tb⟩ := h
  obtain ⟨w, g, fr, e1, o, p, nw, _⟩ := a.at hd hc
  rw [hv] at e1
  cases e1
  obtain ⟨w', g', fr', r', o', _, nw', _⟩ := o.focus q hs nw
  rw [reach_inj r r']
  exact ⟨_, _, o', nw'⟩
end
theorem subD_snoc {pe : PEl} : ∀ {q : List PEl} {d d1 d2 : D}, subD q d = some d1 → subD [pe] d1 = some d2 → subD (q ++ [pe]) d = some d2
  | [], d, d1, d2, h, g => by simp only [subD, Option.some.injEq] at h; rw [h]; exact g
  | .ix j :: q, d, d1, d2, h, g => by
    cases d <;> first | (simp [subD] at h; done) | skip
    rename_i f xs
    cases f <;> first | (simp [subD] at h; done) | skip
    simp only [subD, List.cons_append] at h ⊢
    split at h
    · exact subD_snoc h g
    · cases h
  | .fl x :: q, d, d1, d2, h, g => by
    cases d <;> first | (simp [subD] at h; done) | skip
    rename_i f c ns xs
    cases f <;> first | (simp [subD] at h; done) | skip
    simp only [subD, List.cons_append] at h ⊢
    split at h
    · split at h
      · exact subD_snoc h g
      · cases h
    · cases h
section
variable (Φ : Nat → List D → Out (D × List D)) (gv : Nat → D)
theorem evp_sub : ∀ {p : List Pt} {ρ : List (Option D)} {d : D} {q : List PEl}, evp Φ gv p ρ d = .ok q → ∃ d1, subD q d = some d1
  | [], _, d, q, h => by simp only [evp, Out.ok.injEq] at h; subst h; exact ⟨d, rfl⟩
  | .ix e :: p, ρ, d, q, h => by
    cases d <;> first | (simp [evp] at h; done) | skip
    rename_i f xs
    cases f <;> first | (simp [evp] at h; done) | skip
    simp only [evp] at h
    cases he : ev Φ gv e ρ with
    | exc _ => rw [he] at h; cases h
    | bad => rw [he] at h; cases h
    | ok z =>
      rw [he, Out.bind_ok] at h
      cases z <;> first | (simp at h; done) | skip
      simp only at h
      split at h
      · rename_i j hj
        split at h
        · rename_i d0 hd
          cases hp : evp Φ gv p ρ d0 with
          | exc _ => rw [hp] at h; cases h
          | bad => rw [hp] at h; cases h
          | ok q' =>
            rw [hp, Out.bind_ok] at h
            cases h
            obtain ⟨d1, h1⟩ := evp_sub hp
            exact ⟨d1, by simp only [subD, hd]; exact h1⟩
        · cases h
      · cases h
  | .fl x :: p, ρ, d, q, h => by
    cases d <;> first | (simp [evp] at h; done) | skip
    rename_i f c ns xs
    cases f <;> first | (simp [evp] at h; done) | skip
    simp only [evp] at h
    split at h
    · rename_i j hj
      split at h
      · rename_i d0 hd
        cases hp : evp Φ gv p ρ d0 with
        | exc _ => rw [hp] at h; cases h
        | bad => rw [hp] at h; cases h
        | ok q' =>
          rw [hp, Out.bind_ok] at h
          cases h
          obtain ⟨d1, h1⟩ := evp_sub hp
          exact ⟨d1, by simp only [subD, hj, hd]; exact h1⟩
      · cases h
    · cases h
/-- one part more, at the end -/
def evp1 (pt : Pt) (ρ : List (Option D)) (d : D) (q : List PEl) : Out (List PEl) := match subD q d with
  | some d1 => (evp Φ gv [pt] ρ d1).bind fun r => .ok (q ++ r)
  | none => .bad
theorem evp_snoc {pt : Pt} : ∀ {p : List Pt} {ρ : List (Option D)} {d : D}, evp Φ gv (p ++ [pt]) ρ d = (evp Φ gv p ρ d).bind fun q => evp1 Φ gv pt ρ d q
  | [], ρ, d => by
    show evp Φ gv [pt] ρ d = evp1 Φ gv pt ρ d []
    simp only [evp1, subD, List.nil_append]
    cases evp Φ gv [pt] ρ d <;> rfl
  | .ix e :: p, ρ, d => by
    have ih := fun d => @evp_snoc pt p ρ d
    cases d <;> first | rfl | skip
    rename_i f xs
    cases f <;> first | rfl | skip
    simp only [List.cons_append, evp, Out.bind_assoc]
    congr 1
    funext z
    cases z <;> first | rfl | skip
    rename_i k
    dsimp only
    cases hj : ixN xs.length k with
    | none => rfl
    | some j =>
      dsimp only
      cases hd : xs[j]? with
      | none => rfl
      | some d0 =>
        dsimp only
        rw [ih, Out.bind_assoc, Out.bind_assoc]
        congr 1
        funext q
        simp only [evp1, Out.bind_ok, subD, hd]
        cases subD q d0 with
        | none => rfl
        | some d1 =>
          dsimp only
          rw [Out.bind_assoc]
          congr 1
  | .fl x :: p, ρ, d => by
    have ih := fun d => @evp_snoc pt p ρ d
    cases d <;> first | rfl | skip
    rename_i f c ns xs
    cases f <;> first | rfl | skip
    simp only [List.cons_append, evp]
    cases hj : fIx x ns with
    | none => rfl
    | some j =>
      dsimp only
      cases hd : xs[j]? with
      | none => rfl
      | some d0 =>
        dsimp only
        rw [ih, Out.bind_assoc, Out.bind_assoc]
        congr 1
        funext q
        simp only [evp1, Out.bind_ok, subD, hj, hd]
        cases subD q d0 with
        | none => rfl
        | some d1 =>
          dsimp only
          rw [Out.bind_assoc]
          congr 1
end
/-- a path's expression: what lies there -/
def tP (C : Cf) (i : Nat) (p : List Pt) (W : WX) : TE := fun σ H Q => ∃ B F0 Lk ρ tv td, Holds C.G B F0 Lk σ ρ tv td H ∧ cleanS ρ = true ∧
  Wish ((slotD ρ i).bind fun d => evp C.Φ C.gv p ρ d) (Off C W σ B F0 Lk ρ tv td) fun q => ∀ v v0 H', Holds C.G B F0 Lk σ ρ tv td H' → σ[i]? = some (some v0) → reach H' q v0 v → Q v H'
def SP (C : Cf) (k : Nat) (N : List Str) (sc : Scope) (st : List Str) (o : Expr) (i : Nat) (p : List Pt) : Prop := ∀ X W, CtxOk C k N sc st X W → PE X o (tP C i p W)
section
variable {C : Cf} {k : Nat} {N : List Str} {sc : Scope} {st : List Str} {pi : List Nat} {B Lk H : Hp} {F0 : Addr → Prop} {tv : List V} {td : List D} {pv : List (Option (Option V))} {W : WX} {E : Ends} {a b e o : Expr} {ia ib ie : Ex} {es : List Expr} {ies : List Ex} {pos pos' apos : Pos} {σ : L2.St} {ρ : List (Option D)} {d : D} {v : V} {i : Nat} {p : List Pt}
theorem slotD_ok (h : slotD ρ i = .ok d) : ρ[i]? = some (some d) := by
  unfold slotD at h
  split at h
  · cases h; assumption
  · cases h
theorem slotD_ne {x : Exn} : slotD ρ i ≠ .exc x := by
  unfold slotD
  split <;> exact fun z => by cases z
theorem p_nm {x : Str} (hi : N[i]? = some x) (hv : Vis sc x) (h1 : (x == ("__debug__" : Str)) = false) (h2 : (x == ("__classdict__" : Str)) = false) : SP C k N sc st (.Name x pos) i [] := fun X W hX =>
  PE.imp (pe_var (i := i) (by rw [hX.eN]; exact hi) (by rw [hX.eS]; exact hv) h1 h2) fun σ H Q ⟨B, F0, Lk, ρ, tv, td, h, c, w⟩ => by
    cases hs : slotD ρ i with
    | exc x => exact absurd hs slotD_ne
    | bad => rw [hs] at w; exact w.elim
    | ok d =>
      rw [hs] at w
      obtain ⟨v, e1, _⟩ := h.var (slotD_ok hs)
      exact ⟨v, e1, w v v H h e1 rfl⟩
theorem p_ix (hn : nsl b = true) (ha : SP C k N sc st a i p) (hb : SE C k N sc st b ib) : SP C k N sc st (.Subscript a b pos) i (p ++ [.ix ib]) := fun X W hX =>
  PE.imp (pe_ix (r := rIx C.G.K) (by rw [← hX.eK]; exact ix_seq) (ha X W hX) (hb X W hX) (nsl_eq hn)) fun σ H Q ⟨B, F0, Lk, ρ, tv, td, h, c, w⟩ => by
    cases hs : slotD ρ i with
    | exc x => exact absurd hs slotD_ne
    | bad => rw [hs] at w; exact w.elim
    | ok d =>
      rw [hs, Out.bind_ok, evp_snoc] at w
      have hd := slotD_ok hs
      refine ⟨B, F0, Lk, ρ, tv, td, h, c, ?_⟩
      rw [hs, Out.bind_ok]
      refine w.bind.mono (fun _ z => z) fun q hq w1 v v0 H1 h1 e0 r => ?_
      unfold evp1 at w1
      cases hsub : subD q d with
      | none => rw [hsub] at w1; exact w1.elim
      | some d1 =>
        rw [hsub] at w1
        cases d1 <;> first | exact w1.elim | skip
        rename_i f xs
        cases f <;> first | exact w1.elim | skip
        simp only [evp, Out.bind_assoc] at w1
        refine ⟨B, F0, H1, ρ, tv, td, h1.lkH, w1.bind.mono (fun x z H' h' => z H' (h'.lkS (h1.kl.trans h'.kl))) fun z hz w2 u H2 h2 => ?_⟩
        obtain ⟨_, _, o2⟩ := h2.top
        cases z <;> first | exact w2.elim | skip
        rename_i n
        rw [o2.inv_int]
        dsimp only at w2
        cases hj : ixN xs.length n with
        | none => rw [hj] at w2; exact w2.elim
        | some j =>
          rw [hj] at w2
          dsimp only at w2
          cases hx : xs[j]? with
          | none => rw [hx] at w2; exact w2.elim
          | some d2 =>
            rw [hx] at w2
            have h2' := h2.pop.lkS (h1.kl.trans h2.kl)
            have r2 := reach_keep h2.kl r
            obtain ⟨Fz, g, ow, nw⟩ := h2'.sub c hd e0 hsub r2
            cases ow with
            | @lst _ a0 vs _ f0 fp hl bb =>
              cases hl with
              | ow hl =>
                obtain ⟨v1, _, e1, _⟩ := bb.get hx
                refine .inl ⟨a0, vs, n, v1, rfl, rfl, SqL.of hl, ?_, ?_⟩
                · unfold atI; rw [bb.length, hj]; exact e1
                · have w3 : ∀ v v0 H', Holds C.G B F0 Lk σ ρ tv td H' → σ[i]? = some (some v0) → reach H' (q ++ [.ix j]) v0 v → Q v H' := w2
                  exact w3 v1 v0 H2 h2' e0 (reach_snoc r2 ⟨a0, vs, v1, rfl, hl, e1, rfl⟩)
theorem p_fl {x : Str} (hc : ∀ c, L2.Cls C.G.K (C.G.cl c)) (hf : ∀ c, L2.NoAttr C.G.K (C.G.cl c) x) (hn : npl a = true) (ha : SP C k N sc st a i p) : SP C k N sc st (.Attribute a x pos) i (p ++ [.fl x]) := fun X W hX =>
  PE.imp (pe_fld (ha X W hX) (npl_base hn _ _ _)) fun σ H Q ⟨B, F0, Lk, ρ, tv, td, h, c, w⟩ => by
    cases hs : slotD ρ i with
    | exc x => exact absurd hs slotD_ne
    | bad => rw [hs] at w; exact w.elim
    | ok d =>
      rw [hs, Out.bind_ok, evp_snoc] at w
      have hd := slotD_ok hs
      refine ⟨B, F0, Lk, ρ, tv, td, h, c, ?_⟩
      rw [hs, Out.bind_ok]
      refine w.bind.mono (fun _ z => z) fun q hq w1 v v0 H1 h1 e0 r => ?_
      unfold evp1 at w1
      cases hsub : subD q d with
      | none => rw [hsub] at w1; exact w1.elim
      | some d1 =>
        rw [hsub] at w1
        cases d1 <;> first | exact w1.elim | skip
        rename_i f cc ns xs
        cases f <;> first | exact w1.elim | skip
        simp only [evp] at w1
        cases hj : fIx x ns with
        | none => rw [hj] at w1; exact w1.elim
        | some j =>
          rw [hj] at w1
          dsimp only at w1
          cases hx : xs[j]? with
          | none => rw [hx] at w1; exact w1.elim
          | some d2 =>
            rw [hx] at w1
            obtain ⟨Fz, g, ow, nw⟩ := h1.sub c hd e0 hsub r
            cases ow with
            | @obj _ _ a0 _ vs _ f0 fp hl bb =>
              cases hl with
              | @ow _ _ dx fvs hl =>
                obtain ⟨v1, _, e1, _⟩ := bb.get hx
                have lk := fIx_lookup hj e1
                rw [hX.eK]
                have w3 : ∀ v v0 H', Holds C.G B F0 Lk σ ρ tv td H' → σ[i]? = some (some v0) → reach H' (q ++ [.fl x]) v0 v → Q v H' := w1
                exact ⟨a0, _, dx, fvs, v1, rfl, hl, hc cc, hf cc, lk, w3 v1 v0 H1 h1 e0 (reach_snoc r ⟨a0, _, dx, fvs, v1, rfl, hl, lk, rfl⟩)⟩
theorem subAt_get {q : List PEl} {d1 : D} (h : subAt ρ i q = some d1) : ∃ d, ρ[i]? = some (some d) ∧ subD q d = some d1 := by
  unfold subAt at h
  split at h
  · rename_i d hd
    exact ⟨d, hd, h⟩
  · cases h
theorem Owns.setv {K : PySem.W.Frag} {cl : Nat → Addr} {H : Hp} {Fz : Addr → Prop} : ∀ {vs : List V} {xs : List D} {g g2 : List Addr} {j : Nat} {y : V} {dy : D}, Owns K cl H Fz vs xs g → Owns K cl H Fz [y] [dy] g2 → ∃ g3, Owns K cl H Fz (vs.set j y) (xs.set j dy) g3 ∧ Sb g3 (g ++ g2)
  | [], [], _, _, _, _, _, .nil, _ => ⟨[], .nil, Sb.nil _⟩
  | _ :: _, _ :: _, _, _, 0, _, _, .cons (f1 := f1) (f2 := f2) a b, .cons (f1 := k1) (f2 := k2) c z => by
    cases z
    refine ⟨k1 ++ f2, .cons c b, ?_⟩
    exact (Sb.of_perm List.perm_append_comm).trans ((Sb.right f1 f2).app (Sb.left k1 []))
  | _ :: _, _ :: _, _, _, j + 1, _, _, .cons (f1 := f1) a b, c => by
    obtain ⟨g3, o, s⟩ := Owns.setv (j := j) b c
    exact ⟨f1 ++ g3, .cons a o, by rw [List.append_assoc]; exact (Sb.refl f1).app s⟩
theorem Owns.erase {K : PySem.W.Frag} {cl : Nat → Addr} {H : Hp} {Fz : Addr → Prop} : ∀ {vs : List V} {xs : List D} {g : List Addr} {j : Nat}, Owns K cl H Fz vs xs g → ∃ g3, Owns K cl H Fz (vs.eraseIdx j) (xs.eraseIdx j) g3 ∧ Sb g3 g
  | [], [], _, _, .nil => ⟨[], .nil, Sb.nil _⟩
  | _ :: _, _ :: _, _, 0, .cons (f1 := f1) (f2 := f2) a b => ⟨f2, b, Sb.right _ _⟩
  | _ :: _, _ :: _, _, j + 1, .cons (f1 := f1) a b => by
    obtain ⟨g3, o, s⟩ := Owns.erase (j := j) b
    exact ⟨f1 ++ g3, .cons a o, (Sb.refl f1).app s⟩
theorem noVw_upd {q : List PEl} : ∀ {d d' e : D}, updD q d d' = some e → noVw d = true → noVw d' = true → noVw e = true := by
  induction q with
  | nil => intro d d' e h _ n; simp only [updD, Option.some.injEq] at h; rw [← h]; exact n
  | cons pe q ih =>
    intro d d' e h n n'
    have key : ∀ (xs : List D) (j : Nat) (x e1 : D), noVws xs = true → xs[j]? = some x → updD q x d' = some e1 → noVws (xs.set j e1) = true := fun xs j x e1 nx hx hu => by
      rw [noVws_eq, List.all_eq_true] at nx ⊢
      intro y hy
      rcases List.mem_or_eq_of_mem_set hy with m | rfl
      · exact nx y m
      · exact ih hu (nx x (List.mem_of_getElem? hx)) n'
    cases pe with
    | ix j =>
      cases d <;> first | (simp [updD] at h; done) | skip
      rename_i f xs
      cases f <;> first | (simp [updD] at h; done) | skip
      simp only [updD] at h
      simp only [noVw, Bool.and_eq_true] at n
      split at h
      · rename_i x hx
        cases hu : updD q x d' with
        | none => rw [hu] at h; cases h
        | some e1 =>
          rw [hu] at h
          cases h
          simp only [noVw, Bool.and_eq_true]
          exact ⟨n.1, key xs j x e1 n.2 hx hu⟩
      · cases h
    | fl y =>
      cases d <;> first | (simp [updD] at h; done) | skip
      rename_i f c ns xs
      cases f <;> first | (simp [updD] at h; done) | skip
      simp only [updD] at h
      simp only [noVw, Bool.and_eq_true] at n
      split at h
      · split at h
        · rename_i x hx
          cases hu : updD q x d' with
          | none => rw [hu] at h; cases h
          | some e1 =>
            rw [hu] at h
            cases h
            simp only [noVw, Bool.and_eq_true]
            exact ⟨n.1, key xs _ x e1 n.2 hx hu⟩
        · cases h
      · cases h
theorem pin_keep (p : pi.map (fun i => σ[i]?) = pv) : pi.map (fun i => σ[i]?) = pv := p
/-- the list at the path of a slot, and its new state -/
theorem lst_at {q : List PEl} {xs : List D} {tx : List V} {dx : List D} {v0 v : V} (h : Holds C.G B F0 noH σ ρ (tx ++ tv) (dx ++ td) H) (ex : tx.length = dx.length) (c : cleanS ρ = true) (n : noVws td = true) (nx : noVws dx = true) (hs : subAt ρ i q = some (.lst .ow xs)) (e0 : σ[i]? = some (some v0)) (r : reach H q v0 v) :
    ∃ a vs, v = .ref a ∧ H a = some (.lst vs) ∧ vs.length = xs.length ∧ noVws xs = true ∧ ∀ (vs' : List V) (xs' : List D) (W : WX) (E : Ends), noVws xs' = true → (∀ {H' : Hp} {Fz : Addr → Prop} {g g2 : List Addr}, Owns C.G.K C.G.cl H' Fz vs xs g → Owns C.G.K C.G.cl H' Fz tx dx g2 → ∃ g3, Owns C.G.K C.G.cl H' Fz vs' xs' g3 ∧ Sb g3 (g ++ g2)) → pi.map (fun i => σ[i]?) = pv →
      WR C B F0 tv td pi pv W E (putAt ρ i q (.lst .ow xs')) → E.nx σ (L2.upd H a (.lst vs')) := by
  obtain ⟨d, hd, hs⟩ := subAt_get hs
  obtain ⟨w0, a, vs, e1, r', ha, hl, nxs, k⟩ := h.mutl ex hd c n nx hs
  rw [e0] at e1
  cases e1
  rw [reach_inj r r']
  refine ⟨a, vs, rfl, ha, hl, nxs, fun vs' xs' W E nx' gv p w => ?_⟩
  obtain ⟨d', u, h'⟩ := k vs' [] xs' [] fun o1 o2 => let ⟨g3, o3, s⟩ := gv o1 o2; ⟨g3, [], o3, .nil, by rw [List.append_nil]; exact s⟩
  unfold putAt at w
  rw [hd] at w
  dsimp only at w
  rw [u] at w
  exact w σ _ h' (cleanS_set c fun d e => by cases e; exact noVw_upd u (cleanS_get c hd) (by simp only [noVw, Bool.and_eq_true, decide_eq_true_eq]; exact ⟨(fun z => by cases z), nx'⟩)) p
end
end Pu

set_option Elab.async false
set_option linter.all false
set_option maxRecDepth 100000
set_option maxHeartbeats 1000000
/-! Pu18: append, pop, stores. -/
namespace Pu
open PySem PySem.Spec PyProof.Rows L2
section
variable {C : Cf} {k : Nat} {N : List Str} {sc : Scope} {st : List Str} {pi : List Nat} {B Lk H : Hp} {F0 : Addr → Prop} {tv : List V} {td : List D} {pv : List (Option (Option V))} {W : WX} {E : Ends} {a b e o : Expr} {ia ib ie : Ex} {es : List Expr} {ies : List Ex} {pos pos' apos cpos tpos : Pos} {σ : L2.St} {ρ : List (Option D)} {d : D} {v : V} {i : Nat} {p : List Pt}
theorem few1 (hn : nst e = true) (env : Env) : ((backTo cpos (starEach [e] env)).all (fun x => !x.1) && (backToKw cpos (keywordEach [] env)).all (fun x => x.1.isSome) && decide ([e].length + ([] : List Keyword).length + (if ([] : List Keyword).isEmpty then 0 else 1) < 30)) = true := by
  rw [star_cons hn]; rfl
theorem off_lk {x : Exn} (k : Keep Lk H) (h : Off C W σ B F0 noH ρ tv td x) : Off C W σ B F0 Lk ρ tv td x := fun H' h' => h H' h'.lk0
theorem t_app (hb : npl o = true) (hn : nst e = true) (hm : nlc (.Call (.Attribute o "append" apos) [e] [] cpos) = true) (hl : (apos.endLine == cpos.line) = true) (ho : SP C k N sc st o i p) (he : SE C k N sc st e ie) :
    S1 C k N sc st pi (.Expr (.Call (.Attribute o "append" apos) [e] [] cpos) pos) (.app i p ie) := fun X W hX =>
  PS.imp (ps_expr (pe_bm F.plainAttrs_list F.slot_list_append F.type_list_append mt_append (ho X W hX.ok) (ss_cons hn he ss_nil X W hX.ok) (npl_base hb _ _ _) (few1 hn _) hl (star_cons hn [] _) rfl) (nlc_swaps hm _ _ _)) fun E σ H ⟨B, F0, ρ, tv, td, pv, h, c, n, p', w⟩ => by
    obtain ⟨h', c'⟩ := h.prep (Φ := C.Φ) (gv := C.gv) (pi := pi) ie c
    simp only [run1] at w
    generalize Pu.prep C.Φ C.gv pi ie ρ = ρ1 at h' c' w
    refine ⟨B, F0, noH, ρ1, tv, td, h', c', (re_ok w c' p').mono (fun _ z => z) fun q hq w1 v v0 H1 h1 e0 r => ?_⟩
    split at w1
    · rename_i xs hs
      obtain ⟨a, vs, rfl, ha, hl, nx, _⟩ := lst_at (pv := pv) (pi := pi) (tx := []) (dx := []) h1 rfl c' n rfl hs e0 r
      refine ⟨.inl ⟨rfl, vs, by rw [hX.ok.eK]; exact SqL.of ha⟩, ?_⟩
      have w2 : Wish ((evs C.Φ C.gv [ie] ρ1).bind fun ys => .ok ys) (Off C W σ B F0 H1 ρ1 tv td) fun ys => ∃ y, ys = [y] ∧ WR C B F0 tv td pi pv W E (if noVw y = true ∧ xs.length < sizeLine then putAt ρ1 i q (.lst .ow (xs ++ [y])) else .bad) := by
        have z := re_ok w1 c' p'
        simp only [evs, Out.bind_assoc, Out.bind_ok]
        cases he : ev C.Φ C.gv ie ρ1 with
        | ok y => rw [he] at z; exact ⟨y, rfl, z⟩
        | exc x => rw [he] at z; exact off_lk (H := H1) (Keep.refl _) z
        | bad => rw [he] at z; exact z
      refine gos h1.lkH (fun _ z => z) w2 fun ys us H2 hys hl2 h2 w3 => ?_
      obtain ⟨y, ey, w4⟩ := w3
      have ey : ys = [y] := ey
      subst ey
      match us, hl2 with
      | [u], hl2 =>
      split at w4
      · rename_i cond
        have r2 := reach_keep h2.kl r
        obtain ⟨a', vs', ea, ha', hl', nx', fin⟩ := lst_at (pv := pv) (pi := pi) (tx := [u]) (dx := [y]) h2.lk0 rfl c' n (by simp only [noVws, cond.1, Bool.and_self]) hs e0 r2
        cases ea
        refine ⟨a, vs', u, rfl, rfl, ha', by rw [hl']; exact cond.2, ?_⟩
        exact fin _ _ W E (noVws_app nx' (by simp only [noVws, cond.1, Bool.and_self])) (fun o1 o2 => ⟨_, o1.append o2, Sb.refl _⟩) p' w4
      · exact w4.elim
    · exact w1.elim
theorem popK_len {xs : List D} {ks : List D} {j : Nat} (h : popK xs ks = some j) : j < xs.length := by
  unfold popK at h
  split at h
  · split at h
    · cases h
    · rename_i hx
      cases h
      cases xs with
      | nil => exact absurd rfl hx
      | cons _ _ => simp
  · split at h
    · unfold seqIndex? at h
      dsimp only at h
      rename_i kk _
      generalize (if kk < 0 then kk + (xs.length : Int) else kk) = z at h
      by_cases cnd : (decide (0 ≤ z) && decide (z < (xs.length : Int))) = true
      · rw [if_pos cnd] at h
        simp only [Bool.and_eq_true, decide_eq_true_eq] at cnd
        cases h
        omega
      · rw [if_neg cnd] at h
        cases h
    · cases h
  · cases h
/-- x.pop(k), the value dropped -/
theorem t_pop1 (hb : npl o = true) (hn : nst e = true) (hm : nlc (.Call (.Attribute o "pop" apos) [e] [] cpos) = true) (hl : (apos.endLine == cpos.line) = true) (ho : SP C k N sc st o i p) (he : SE C k N sc st e ie) :
    S1 C k N sc st pi (.Expr (.Call (.Attribute o "pop" apos) [e] [] cpos) pos) (.popd i p [ie]) := fun X W hX =>
  PS.imp (ps_expr (pe_bm F.plainAttrs_list F.slot_list_pop F.type_list_pop mt_popAt (ho X W hX.ok) (ss_cons hn he ss_nil X W hX.ok) (npl_base hb _ _ _) (few1 hn _) hl (star_cons hn [] _) rfl) (nlc_swaps hm _ _ _)) fun E σ H ⟨B, F0, ρ, tv, td, pv, h, c, n, p', w⟩ => by
    simp only [run1] at w
    refine ⟨B, F0, noH, ρ, tv, td, h, c, (re_ok w c p').mono (fun _ z => z) fun q hq w1 v v0 H1 h1 e0 r => ?_⟩
    split at w1
    · rename_i xs hs
      obtain ⟨a, vs, rfl, ha, hl, nx, _⟩ := lst_at (pv := pv) (pi := pi) (tx := []) (dx := []) h1 rfl c n rfl hs e0 r
      refine ⟨.inl ⟨rfl, vs, by rw [hX.ok.eK]; exact SqL.of ha⟩, ?_⟩
      have w2 : Wish ((evs C.Φ C.gv [ie] ρ).bind fun ys => .ok ys) (Off C W σ B F0 H1 ρ tv td) fun ys => WR C B F0 tv td pi pv W E (match popK xs ys with | some k => putAt ρ i q (.lst .ow (xs.eraseIdx k)) | none => .bad) := by
        have z := re_ok w1 c p'
        cases he : evs C.Φ C.gv [ie] ρ with
        | ok y => rw [he] at z; exact z
        | exc x => rw [he] at z; exact off_lk (H := H1) (Keep.refl _) z
        | bad => rw [he] at z; exact z
      refine gos h1.lkH (fun _ z => z) w2 fun ys us H2 hys hl2 h2 w3 => ?_
      have e1 := evs_len hys
      match ys, us, e1, hl2 with
      | [y], [u], z1, hl2 =>
        clear z1 hys
        have w4 : WR C B F0 tv td pi pv W E (match popK xs [y] with | some k => putAt ρ i q (.lst .ow (xs.eraseIdx k)) | none => .bad) := w3
        split at w4
        · rename_i j hj
          have r2 := reach_keep h2.kl r
          obtain ⟨_, _, ou⟩ := Holds.top h2
          obtain ⟨a', vs', ea, ha', hl', nx', fin⟩ := lst_at (pv := pv) (pi := pi) (tx := []) (dx := []) (Holds.pop h2).lk0 rfl c n rfl hs e0 r2
          cases ea
          have hjl := popK_len hj
          unfold popK at hj
          cases y <;> first | (simp at hj; done) | skip
          rename_i kk
          dsimp only at hj
          split at hj
          · rename_i bnd
            rw [ou.inv_int]
            obtain ⟨v1, hv1⟩ := lt_get (xs := vs') (i := j) (by rw [hl']; exact hjl)
            refine ⟨a, vs', kk, j, v1, rfl, rfl, ha', (by omega), (by omega), by rw [hl']; exact hj, hv1, ?_⟩
            exact fin _ _ W E (by rw [noVws_eq, List.all_eq_true] at nx' ⊢; exact fun z hz => nx' z (List.mem_of_mem_eraseIdx hz)) (fun o1 o2 => let ⟨g3, o3, s⟩ := o1.erase (j := j); ⟨g3, o3, s.trans (Sb.left _ _)⟩) p' w4
          · cases hj
        · exact w4.elim
    · exact w1.elim
theorem noVws_set {xs : List D} {j : Nat} {y : D} (h : noVws xs = true) (n : noVw y = true) : noVws (xs.set j y) = true := by
  rw [noVws_eq, List.all_eq_true] at h ⊢
  intro x hx
  rcases List.mem_or_eq_of_mem_set hx with m | rfl
  · exact h x m
  · exact n
theorem sub_assign {o b : Expr} (hn : nsl b = true) (env : Env) (v : Value) : assign (.Subscript o b tpos) env v = (do
      let ov ← holding [v] (eval o env)
      let iv ← holding [v, ov] (eval b env)
      standAt tpos
      holding [v, ov, iv] (setItem ov iv v)
      release [v, ov, iv] []) := by
  cases b <;> first | rfl | cases hn
/-- x[k] = e -/
theorem t_setI (hn : nlc e = true) (hm : ntp e = true) (hs : nsl b = true) (ho : SP C k N sc st o i p) (hb : SE C k N sc st b ib) (he : SE C k N sc st e ie) : S1 C k N sc st pi (.Assign [.Subscript o b tpos] e pos) (.setI i p ib ie) := fun X W hX =>
  PS.imp (ps_asg (he X W hX.ok) (pg_sub (ho X W hX.ok) (hb X W hX.ok) set_list (fun v => sub_assign hs _ v)) (by unfold swapsWithSole; exact nlc_swaps hn _ _ _) (ntp_swapped hm _) rfl) fun E σ H ⟨B, F0, ρ, tv, td, pv, h, c, n, p', w⟩ => by
    obtain ⟨h', c'⟩ := h.prep (Φ := C.Φ) (gv := C.gv) (pi := pi) ie c
    simp only [run1] at w
    generalize Pu.prep C.Φ C.gv pi ie ρ = ρ1 at h' c' w
    refine ⟨B, F0, noH, ρ1, tv, td, h', (re_ok w c' p').mono (fun _ z => z) fun y hy w1 u H0 h0 => ?_⟩
    refine ⟨B, F0, noH, ρ1, u :: tv, y :: td, h0, c', (re_ok w1 c' p').mono (fun _ z => z.push) fun q hq w2 v v0 H1 h1 e0 r => ?_⟩
    have w3 := re_ok w2 c' p'
    refine ⟨B, F0, H1, ρ1, u :: tv, y :: td, h1.lkH, w3.mono (fun _ z => (off_lk (H := H1) (Keep.refl _) z).push) fun z hz w4 kv H2 h2 => ?_⟩
    split at w4
    · rename_i xs kk hs
      split at w4
      · rename_i j hj
        split at w4
        · rename_i ny
          have r2 := reach_keep h2.kl r
          obtain ⟨_, _, ok⟩ := Holds.top h2
          obtain ⟨a', vs', ea, ha', hl', nx', fin⟩ := lst_at (pv := pv) (pi := pi) (tx := [u]) (dx := [y]) (Holds.pop h2).lk0 rfl c' n (by simp only [noVws, ny, Bool.and_self]) hs e0 r2
          rw [ok.inv_int]
          refine ⟨a', vs', kk, j, ea, rfl, ha', by rw [hl']; exact hj, ?_⟩
          exact fin _ _ W E (noVws_set nx' ny) (fun o1 o2 => o1.setv o2) p' w4
        · exact w4.elim
      · exact w4.elim
    · exact w4.elim
theorem putN_eq {f : Str} {y : D} {u : V} : ∀ {fvs : List (Str × V)} {xs : List D}, fvs.length = xs.length → (putF f u fvs).map (·.1) = (putN f y (fvs.map (·.1)) xs).1
  | [], [], _ => rfl
  | (g, x) :: r, z :: zs, e => by
    simp only [putF, List.map_cons, putN]
    split
    · simp
    · simp only [List.map_cons]
      rw [putN_eq (by simpa using e)]
theorem Owns.putF {K : PySem.W.Frag} {cl : Nat → Addr} {H : Hp} {Fz : Addr → Prop} {f : Str} {u : V} {y : D} : ∀ {fvs : List (Str × V)} {xs : List D} {g g2 : List Addr}, Owns K cl H Fz (fvs.map (·.2)) xs g → Owns K cl H Fz [u] [y] g2 → ∃ g3, Owns K cl H Fz ((L2.putF f u fvs).map (·.2)) (putN f y (fvs.map (·.1)) xs).2 g3 ∧ Sb g3 (g ++ g2)
  | [], [], _, _, .nil, c => ⟨_, c, Sb.refl _⟩
  | (g0, x) :: r, z :: zs, _, _, .cons (f1 := f1) (f2 := f2) a b, c => by
    simp only [L2.putF, List.map_cons, putN]
    split
    · cases c with
      | cons c cz =>
        rename_i k1 k2
        cases cz
        exact ⟨_, .cons c b, (Sb.of_perm List.perm_append_comm).trans ((Sb.right f1 f2).app (Sb.left _ _))⟩
    · obtain ⟨g3, o, s⟩ := Owns.putF (f := f) b c
      exact ⟨f1 ++ g3, .cons a o, by rw [List.append_assoc]; exact (Sb.refl f1).app s⟩
theorem putN_noVw {f : Str} {y : D} (n : noVw y = true) : ∀ {ns : List Str} {xs : List D}, noVws xs = true → noVws (putN f y ns xs).2 = true
  | [], xs, h => noVws_app h (by simp only [noVws, n, Bool.and_self])
  | _ :: _, [], h => by simp only [putN, List.nil_append, noVws, n, Bool.and_self]
  | m :: ns, x :: xs, h => by
    simp only [noVws, Bool.and_eq_true] at h
    simp only [putN]
    split
    · simp only [noVws, n, h.2, Bool.and_self]
    · simp only [noVws, h.1, putN_noVw n h.2, Bool.and_self]
/-- o.f = e -/
theorem t_setF {x : Str} (hc : ∀ c, L2.Cls C.G.K (C.G.cl c)) (hf : ∀ c, L2.NoAttr C.G.K (C.G.cl c) x) (hn : nlc e = true) (ho : SP C k N sc st o i p) (he : SE C k N sc st e ie) : S1 C k N sc st pi (.Assign [.Attribute o x tpos] e pos) (.setF i p x ie) := fun X W hX =>
  PS.imp (ps_fld (ho X W hX.ok) (he X W hX.ok) (nlc_swaps hn _ _ _)) fun E σ H ⟨B, F0, ρ, tv, td, pv, h, c, n, p', w⟩ => by
    obtain ⟨h', c'⟩ := h.prep (Φ := C.Φ) (gv := C.gv) (pi := pi) ie c
    simp only [run1] at w
    generalize Pu.prep C.Φ C.gv pi ie ρ = ρ1 at h' c' w
    refine ⟨B, F0, noH, ρ1, tv, td, h', (re_ok w c' p').mono (fun _ z => z) fun y hy w1 u H0 h0 => ?_⟩
    refine ⟨B, F0, noH, ρ1, u :: tv, y :: td, h0, c', (re_ok w1 c' p').mono (fun _ z => z.push) fun q hq w2 v v0 H1 h1 e0 r => ?_⟩
    split at w2
    · rename_i cc ns xs hs
      split at w2
      · rename_i cond
        obtain ⟨d, hd, hsd⟩ := subAt_get hs
        obtain ⟨w0, a, dx, fvs, e1, r', ha, en, hl, nxs, kk⟩ := Holds.mutf (tx := [u]) (dx := [y]) h1 rfl hd c' n (by simp only [noVws, cond.1, Bool.and_self]) hsd
        rw [e0] at e1
        cases e1
        rw [reach_inj r r', hX.ok.eK]
        subst en
        refine ⟨a, _, dx, fvs, rfl, ha, hc cc, hf cc, by rw [hl]; exact cond.2, ?_⟩
        obtain ⟨d', u1, h2⟩ := kk (putF x u fvs) [] (putN x y (fvs.map (·.1)) xs).2 [] fun o1 o2 => let ⟨g3, o3, s⟩ := o1.putF (f := x) o2; ⟨g3, [], o3, .nil, by rw [List.append_nil]; exact s⟩
        rw [putN_eq (y := y) hl] at u1
        unfold putAt at w2
        rw [hd] at w2
        dsimp only at w2
        rw [u1] at w2
        exact w2 σ _ h2 (cleanS_set c' fun d e => by cases e; exact noVw_upd u1 (cleanS_get c' hd) (by simp only [noVw, Bool.and_eq_true, decide_eq_true_eq]; exact ⟨(fun z => by cases z), putN_noVw cond.1 nxs⟩)) p'
      · exact w2.elim
    · exact w2.elim
end
end Pu

set_option Elab.async false
set_option linter.all false
set_option maxRecDepth 100000
set_option maxHeartbeats 1000000
/-! PuE: expressions that change what a name holds. -/
namespace Pu
open PySem PySem.Spec PyProof.Rows L2
section
variable {C : Cf} {k : Nat} {N : List Str} {sc : Scope} {st : List Str} {pi : List Nat} {B Lk H : Hp} {F0 : Addr → Prop} {tv : List V} {td : List D} {pv : List (Option (Option V))} {W : WX} {E : Ends} {a b e o : Expr} {ia ib ie : Ex} {pos pos' apos cpos tpos : Pos} {σ : L2.St} {ρ : List (Option D)} {d : D} {v : V} {i : Nat} {p : List Pt}
/-- the list at the path of a slot, its new state, and what is then on top -/
theorem lst_atX {q : List PEl} {xs : List D} {tx : List V} {dx : List D} {v0 v : V} (h : Holds C.G B F0 noH σ ρ (tx ++ tv) (dx ++ td) H) (ex : tx.length = dx.length) (c : cleanS ρ = true) (n : noVws td = true) (nx : noVws dx = true) (hs : subAt ρ i q = some (.lst .ow xs)) (e0 : σ[i]? = some (some v0)) (r : reach H q v0 v) :
    ∃ a vs, v = .ref a ∧ H a = some (.lst vs) ∧ vs.length = xs.length ∧ noVws xs = true ∧ ∀ (vs' ty : List V) (xs' dy : List D), noVws xs' = true → (∀ {H' : Hp} {Fz : Addr → Prop} {g g2 : List Addr}, Owns C.G.K C.G.cl H' Fz vs xs g → Owns C.G.K C.G.cl H' Fz tx dx g2 → ∃ g3 g4, Owns C.G.K C.G.cl H' Fz vs' xs' g3 ∧ Owns C.G.K C.G.cl H' Fz ty dy g4 ∧ Sb (g3 ++ g4) (g ++ g2)) →
      ∃ ρ', putAt ρ i q (.lst .ow xs') = .nx ρ' ∧ cleanS ρ' = true ∧ Holds C.G B F0 noH σ ρ' (ty ++ tv) (dy ++ td) (L2.upd H a (.lst vs')) := by
  obtain ⟨d, hd, hs⟩ := subAt_get hs
  obtain ⟨w0, a, vs, e1, r', ha, hl, nxs, k⟩ := h.mutl ex hd c n nx hs
  rw [e0] at e1
  cases e1
  rw [reach_inj r r']
  refine ⟨a, vs, rfl, ha, hl, nxs, fun vs' ty xs' dy nx' gv => ?_⟩
  obtain ⟨d', u, h'⟩ := k vs' ty xs' dy gv
  refine ⟨ρ.set i (some d'), ?_, cleanS_set c fun d e => by cases e; exact noVw_upd u (cleanS_get c hd) (by simp only [noVw, Bool.and_eq_true, decide_eq_true_eq]; exact ⟨(fun z => by cases z), nx'⟩), h'⟩
  unfold putAt
  rw [hd]
  dsimp only
  rw [u]
/-- one out of many: its feet and the others' -/
theorem Owns.out {K : PySem.W.Frag} {cl : Nat → Addr} {H : Hp} {Fz : Addr → Prop} : ∀ {vs : List V} {xs : List D} {g : List Addr} {j : Nat} {v : V} {x : D}, Owns K cl H Fz vs xs g → vs[j]? = some v → xs[j]? = some x → ∃ g3 g4, Owns K cl H Fz (vs.eraseIdx j) (xs.eraseIdx j) g3 ∧ Own K cl H Fz v x g4 ∧ (g3 ++ g4).Perm g
  | [], [], _, j, v, x, .nil, e, _ => by simp at e
  | w :: vs, y :: xs, _, 0, v, x, .cons (f1 := f1) (f2 := f2) a b, e1, e2 => by
    simp only [List.getElem?_cons_zero, Option.some.injEq] at e1 e2
    subst e1 e2
    exact ⟨f2, f1, b, a, List.perm_append_comm⟩
  | w :: vs, y :: xs, _, j + 1, v, x, .cons (f1 := f1) (f2 := f2) a b, e1, e2 => by
    obtain ⟨g3, g4, o1, o2, pm⟩ := Owns.out (j := j) b (by simpa using e1) (by simpa using e2)
    refine ⟨f1 ++ g3, g4, .cons a o1, o2, ?_⟩
    rw [List.append_assoc]
    exact pm.append_left f1
/-- .. asked of the machine -/
def tXE (C : Cf) (f : List (Option D) → OutE) (W : WX) : TE := fun σ H Q => ∃ B F0 ρ tv td, Holds C.G B F0 noH σ ρ tv td H ∧ cleanS ρ = true ∧ noVws td = true ∧ match f ρ with
  | .ok d ρ' => ∀ v H', Holds C.G B F0 noH σ ρ' (v :: tv) (d :: td) H' → cleanS ρ' = true → noVw d = true → Q v H'
  | .ex x ρ' => ∀ H', Holds C.G B F0 noH σ ρ' tv td H' → cleanS ρ' = true → ∀ cls dx, ExR C.G H' x cls dx → W cls dx σ H'
  | .bad => False
def SXe (C : Cf) (k : Nat) (N : List Str) (sc : Scope) (st : List Str) (e : Expr) (xe : Xe) : Prop := ∀ X W, CtxS C k N sc st X W → PE X e (tXE C (evE C.Φ C.gv xe) W)
/-- x.pop(k) -/
theorem e_pop (hb : npl o = true) (hn : nst e = true) (hl : (apos.endLine == cpos.line) = true) (ho : SP C k N sc st o i p) (he : SE C k N sc st e ie) :
    SXe C k N sc st (.Call (.Attribute o "pop" apos) [e] [] cpos) (.pop i p [ie]) := fun X W hX =>
  PE.imp (pe_bm F.plainAttrs_list F.slot_list_pop F.type_list_pop mt_popAt (ho X W hX.ok) (ss_cons hn he ss_nil X W hX.ok) (npl_base hb _ _ _) (few1 hn _) hl (star_cons hn [] _) rfl) fun σ H Q ⟨B, F0, ρ, tv, td, h, c, n, w⟩ => by
    simp only [evE] at w
    cases hq : (slotD ρ i).bind fun d => evp C.Φ C.gv p ρ d with
    | exc x => rw [hq] at w; exact w.elim
    | bad => rw [hq] at w; exact w.elim
    | ok q =>
    rw [hq] at w
    dsimp only at w
    refine ⟨B, F0, noH, ρ, tv, td, h, c, ?_⟩
    rw [hq]
    intro v v0 H1 h1 e0 r
    cases hs : subAt ρ i q with
    | none => rw [hs] at w; exact w.elim
    | some d0 =>
    rw [hs] at w
    cases d0 <;> first | exact w.elim | skip
    rename_i fl xs
    cases fl <;> first | exact w.elim | skip
    dsimp only at w
    obtain ⟨a, vs, rfl, ha, hl, nx, _⟩ := lst_at (pv := []) (pi := []) (tx := []) (dx := []) h1 rfl c n rfl hs e0 r
    refine ⟨.inl ⟨rfl, vs, by rw [hX.ok.eK]; exact SqL.of ha⟩, ?_⟩
    cases hks : evs C.Φ C.gv [ie] ρ with
    | exc x => rw [hks] at w; exact w.elim
    | bad => rw [hks] at w; exact w.elim
    | ok ks =>
    rw [hks] at w
    dsimp only at w
    have w2 : Wish ((evs C.Φ C.gv [ie] ρ).bind fun ys => .ok ys) (Off C W σ B F0 H1 ρ tv td) fun ys => ys = ks := by
      rw [hks]; exact rfl
    refine gos h1.lkH (fun _ z => z) w2 fun ys us H2 hys hl2 h2 w3 => ?_
    have w3 : ys = ks := w3
    subst w3
    have e1 := evs_len hys
    match ys, us, e1, hl2 with
    | [y], [u], z1, hl2 =>
      clear z1 hys
      cases hj : popK xs [y] with
      | none => rw [hj] at w; exact w.elim
      | some j =>
      rw [hj] at w
      dsimp only at w
      have r2 := reach_keep h2.kl r
      obtain ⟨_, _, ou⟩ := Holds.top h2
      obtain ⟨a', vs', ea, ha', hl', nx', fin⟩ := lst_atX (tx := []) (dx := []) (Holds.pop h2).lk0 rfl c n rfl hs e0 r2
      cases ea
      have hjl := popK_len hj
      obtain ⟨x1, hx1⟩ := lt_get (xs := xs) (i := j) hjl
      rw [hx1] at w
      unfold popK at hj
      cases y <;> first | (simp at hj; done) | skip
      rename_i kk
      dsimp only at hj
      split at hj
      · rename_i bnd
        rw [ou.inv_int]
        obtain ⟨v1, hv1⟩ := lt_get (xs := vs') (i := j) (by rw [hl']; exact hjl)
        refine ⟨a, vs', kk, j, v1, rfl, rfl, ha', (by omega), (by omega), by rw [hl']; exact hj, hv1, ?_⟩
        obtain ⟨ρ', e3, c3, h3⟩ := fin (vs'.eraseIdx j) [v1] (xs.eraseIdx j) [x1] (by rw [noVws_eq, List.all_eq_true] at nx' ⊢; exact fun z hz => nx' z (List.mem_of_mem_eraseIdx hz)) (fun {H' Fz g g2} o1 o2 => by
          obtain ⟨g3, g4, q1, q2, pm⟩ := o1.out hv1 hx1
          refine ⟨g3, g4 ++ [], q1, .cons q2 .nil, ?_⟩
          rw [List.append_nil]
          exact (Sb.of_perm pm).trans (Sb.left _ _))
        rw [e3] at w
        exact w v1 _ h3 c3 (by rw [noVws_eq, List.all_eq_true] at nx'; exact nx' x1 (List.mem_of_getElem? hx1))
      · cases hj
/-- name.append(e), e of this kind -/
theorem t_appX {x : Str} {p1 : Pos} {xe : Xe} (hi : N[i]? = some x) (hv : Vis sc x) (h1 : (x == ("__debug__" : Str)) = false) (h2 : (x == ("__classdict__" : Str)) = false) (hn : nst e = true) (hm : nlc (.Call (.Attribute (.Name x p1) "append" apos) [e] [] cpos) = true) (hl : (apos.endLine == cpos.line) = true) (he : SXe C k N sc st e xe) :
    S1 C k N sc st pi (.Expr (.Call (.Attribute (.Name x p1) "append" apos) [e] [] cpos) pos) (.appX i xe) := fun X W hX =>
  PS.imp (ps_expr (pe_bm F.plainAttrs_list F.slot_list_append F.type_list_append mt_append (pe_var (i := i) (by rw [hX.ok.eN]; exact hi) (by rw [hX.ok.eS]; exact hv) h1 h2) (pa_cons (he X W hX) pa_nil (hs := star_cons hn [] _)) (npl_base rfl _ _ _) (few1 hn _) hl (star_cons hn [] _) rfl) (nlc_swaps hm _ _ _)) fun E σ H ⟨B, F0, ρ, tv, td, pv, h, c, n, p', w⟩ => by
    simp only [run1] at w
    split at w
    · rename_i xs0 hs0
      obtain ⟨v, e1, hv1⟩ := h.var hs0
      obtain ⟨a, vs, rfl, ha, _⟩ := Holds.openL hv1
      refine ⟨_, e1, .inl ⟨rfl, vs, by rw [hX.ok.eK]; exact ha⟩, B, F0, ρ, tv, td, h, c, n, ?_⟩
      cases q : evE C.Φ C.gv xe ρ with
      | bad => rw [q] at w; exact w.elim
      | ex y ρ' =>
        rw [q] at w
        exact fun H' h' c' cls dx er => w σ H' h' c' p' cls dx er
      | ok d ρ' =>
        rw [q] at w
        intro u H' h' c' nd
        dsimp only at w
        split at w
        · rename_i xs hs
          split at w
          · rename_i hl2
            have hs' : subAt ρ' i [] = some (.lst .ow xs) := by unfold subAt; rw [hs]; rfl
            obtain ⟨a', vs', ea, ha', hl', nx', fin⟩ := lst_at (q := []) (pv := pv) (pi := pi) (tx := [u]) (dx := [d]) h' rfl c' n (by simp only [noVws, nd, Bool.and_self]) hs' e1 rfl
            cases ea
            refine ⟨a, vs', u, rfl, rfl, ha', by rw [hl']; exact hl2, ?_⟩
            refine fin _ (xs ++ [d]) W E (noVws_app nx' (by simp only [noVws, nd, Bool.and_self])) (fun o1 o2 => ⟨_, o1.append o2, Sb.refl _⟩) p' ?_
            have e9 : putAt ρ' i [] (.lst .ow (xs ++ [d])) = .nx (ρ'.set i (some (.lst .ow (xs ++ [d])))) := by unfold putAt; rw [hs]; rfl
            rw [e9]
            exact w
          · exact w.elim
        · exact w.elim
    · exact w.elim
end
end Pu

set_option Elab.async false
set_option linter.all false
set_option maxRecDepth 100000
set_option maxHeartbeats 1000000
/-! PuX: raise and try. -/
namespace Pu
open PySem PySem.Spec PyProof.Rows L2
theorem Holds.clear1 {G : Gb} {B Lk H : Hp} {F0 : Addr → Prop} {σ : L2.St} {ρ : List (Option D)} {tv : List V} {td : List D} {i : Nat} {x : Option V} (h : Holds G B F0 Lk σ ρ tv td H) : Holds G B F0 Lk (σ.set i x) (ρ.set i none) tv td H := by
  obtain ⟨⟨f1, f2, a, b, n, q⟩, kb, kl, tb⟩ := h
  obtain ⟨f', o, s⟩ := OwnS.clear (i := i) (x := x) a
  have s2 : Sb (f' ++ f2) (f1 ++ f2) := s.app (Sb.refl _)
  have mono : ∀ a, H a ≠ none → Fzp B F0 (f1 ++ f2) a → Fzp B F0 (f' ++ f2) a := fun a _ z => ⟨z.1, fun m => z.2 (s2.mem a m)⟩
  exact ⟨⟨f', f2, o.keep (Keep.refl _) mono, b.keep (Keep.refl _) mono, s2.nodup n, fun p hp => q p (s2.mem p hp)⟩, kb, kl, tb⟩
section
variable {C : Cf} {k : Nat} {N : List Str} {sc : Scope} {st : List Str} {pi : List Nat}
/-- what a class of exceptions of the text's own is, that is raised with a text -/
structure Rai (C : Cf) (c : Nat) : Prop where
  ex : ∃ (B newId initId : String) (bmB : List Value), ExcBaseFacts B newId initId bmB ∧ PySem.W.excIn C.G.K (C.G.ec c) bmB newId = true
  kp : PySem.W.keepIn C.G.K (.ref (C.G.ec c)) = true
  sb : PySem.W.subIn C.G.K (.ref (C.G.ec c)) (.type "BaseException") = some true
  ty : PySem.W.typeIn C.G.K (.ref (C.G.ec c)) = some (.type "type")
theorem t_rais {x m : Str} {c j : Nat} {p p2 pos pos' : Pos} (hg : sc.names.lookup x = some .globalImplicit) (hm : C.mg x = some (.ref (C.G.ec c))) (hd : (x == ("__debug__" : Str)) = false) (R : Rai C c) :
    S1 C k N sc st pi (.Raise (some (.Call (.Name x p) [.Constant (.str m) j p2] [] pos)) none pos') (.rais c) := fun X W hX => by
  obtain ⟨B, newId, initId, bmB, F, q⟩ := R.ex
  refine PS.imp (ps_raise hX.ok.calm hX.ok.takes (pmk_own F (by rw [hX.ok.eK]; exact q) (by rw [hX.ok.eM]; exact hm) (by rw [hX.ok.eK]; exact R.kp) (raises_own (by rw [hX.ok.eK]; exact R.sb) (by rw [hX.ok.eK]; exact R.ty)) (by unfold Gl Env.kindOf; rw [hX.ok.eS]; exact hg) hd)) fun E σ H ⟨B, F0, ρ, tv, td, pv, h, cl, n, p, w⟩ => ?_
  simp only [run1] at w
  exact w σ H h cl p _ none ⟨rfl, [], fun _ => rfl, fun z => absurd rfl z, rfl, fun Fz => .nil⟩
/-! ### the suite -/
def tX (C : Cf) (i : Nat) (a : Addr) (f : List (Option D) → Out D) : TE := fun σ H Q => ∃ B F0 ρ tv td, σ[i]? = some (some (.ref a)) ∧ Holds C.G B F0 noH σ ρ tv td H ∧
  Wish (f ρ) (fun _ => False) fun d => ∀ v H', Holds C.G B F0 noH σ ρ (v :: tv) (d :: td) H' → Q v H'
/-- an expression of the suite, whose exception stands in slot i -/
def SX (C : Cf) (N : List Str) (sc : Scope) (i : Nat) (e : Expr) (xb : Xb) : Prop := ∀ (X : Cx) (a : Addr) (oe : Obj) (pn : List (Addr × Obj)) (x : Exn), X.K = C.G.K → X.mg = C.mg → X.N = N → X.env.scope = sc → Zc (.ref (C.G.ec x.c)) none oe → (∃ vs, oe.data = .fields vs) → PE (X.suite a ((a, oe) :: pn)) e (tX C i a (evX x xb))
variable {i : Nat} {a b e : Expr} {xa xb : Xb} {pos : Pos}
theorem x_var {y : Str} {j : Nat} (hj : N[j]? = some y) (hv : Vis sc y) (h1 : (y == ("__debug__" : Str)) = false) (h2 : (y == ("__classdict__" : Str)) = false) : SX C N sc i (.Name y pos) (.var j) := fun X ad oe pn x eK eM eN eS hz hf =>
  PE.imp (pe_var (i := j) (by show X.N[j]? = _; rw [eN]; exact hj) (by show Vis X.env.scope y; rw [eS]; exact hv) h1 h2) fun σ H Q ⟨B, F0, ρ, tv, td, hs, h, w⟩ => by
    simp only [evX] at w
    split at w
    · rename_i d e
      obtain ⟨v, e1, h'⟩ := h.var e
      exact ⟨v, e1, w v H h'⟩
    · exact w.elim
theorem x_bl {c : Bool} {kk} : SX C N sc i (.Constant (.bool c) kk pos) (.bl c) := fun X ad oe pn x eK eM eN eS hz hf =>
  PE.imp pe_bl fun σ H Q ⟨B, F0, ρ, tv, td, hs, h, w⟩ => w _ _ (h.push fun _ => .bl _)
/-- what isinstance asks of a class of exceptions -/
theorem x_isE {n y : Str} {p p1 p2 : Pos} {ys ns : List Nat} {j : Nat} (hb : sc.names.lookup ("isinstance" : Str) = some .globalImplicit) (hbm : C.mg "isinstance" = none) (hi : N[i]? = some n) (hv : Vis sc n) (h1 : (n == ("__debug__" : Str)) = false) (h2 : (n == ("__classdict__" : Str)) = false)
    (hg : sc.names.lookup y = some .globalImplicit) (hm : C.mg y = some (.ref (C.G.ec j))) (hd : (y == ("__debug__" : Str)) = false) (EC : ∀ c ∈ ys ++ ns, ExcC C.G.K (C.G.ec c)) (hy : ∀ c ∈ ys, PySem.W.kitOne C.G.K (.ref (C.G.ec c)) (.ref (C.G.ec j)) = some true) (hn : ∀ c ∈ ns, PySem.W.kitOne C.G.K (.ref (C.G.ec c)) (.ref (C.G.ec j)) = some false) :
    SX C N sc i (.Call (.Name "isinstance" p) [.Name n p1, .Name y p2] [] pos) (.isE ys ns) := fun X ad oe pn x eK eM eN eS hz hf => by
  refine ⟨fun pins s σ H Q I q => ?_⟩
  obtain ⟨B, F0, ρ, tv, td, hs, h, w⟩ := q
  simp only [evX] at w
  obtain ⟨b, hc, hk, w2⟩ : ∃ b : Bool, x.c ∈ ys ++ ns ∧ PySem.W.kitOne C.G.K (.ref (C.G.ec x.c)) (.ref (C.G.ec j)) = some b ∧ ∀ v H', Holds C.G B F0 noH σ ρ (v :: tv) (D.bl b :: td) H' → Q v H' := by
    split at w
    · rename_i z; exact ⟨true, List.mem_append_left _ z, hy _ z, w⟩
    · split at w
      · rename_i z; exact ⟨false, List.mem_append_right _ z, hn _ z, w⟩
      · exact w.elim
  have ec := EC _ hc
  have hG : Gl (X.suite ad ((ad, oe) :: pn)) "isinstance" := by show X.env.kindOf _ = _; unfold Env.kindOf; rw [eS]; exact hb
  have hY : Gl (X.suite ad ((ad, oe) :: pn)) y := by show X.env.kindOf _ = _; unfold Env.kindOf; rw [eS]; exact hg
  exact (pe_callB (call_isE (by rw [eK]; exact ec) hz hf) hG (by show X.mg _ = _; rw [eM]; exact hbm) rfl
    (pa_cons (pe_var (i := i) (by show X.N[i]? = _; rw [eN]; exact hi) (by show Vis X.env.scope n; rw [eS]; exact hv) h1 h2) (pa_cons (pe_glob (v := .ref (C.G.ec j)) hY (by show X.mg _ = _; rw [eM]; exact hm) rfl hd) pa_nil))).run pins s σ H Q I
    ⟨_, hs, .ref (C.G.ec j), .ref (C.G.ec j), b, rfl, fun u r => by cases r; rfl, by rw [eK]; exact hk, w2 _ _ (h.push fun _ => .bl _)⟩
theorem x_not (h : SX C N sc i a xa) : SX C N sc i (.UnaryOp .Not a pos) (.not xa) := fun X ad oe pn x eK eM eN eS hz hf =>
  PE.imp (pe_notT (h X ad oe pn x eK eM eN eS hz hf)) fun σ H Q ⟨B, F0, ρ, tv, td, hs, h, w⟩ => by
    simp only [evX] at w
    refine ⟨B, F0, ρ, tv, td, hs, h, w.bind.mono (fun _ z => z) fun d hd w' v H' h' => ?_⟩
    obtain ⟨t, ht, w2⟩ := Wish.ofob w'
    exact ⟨t, by have z := tru_of h' ht; rw [← eK] at z; exact z, w2 _ _ (h'.pop.push fun _ => .bl _)⟩
theorem x_one {op : BoolOp} (h : SX C N sc i a xa) : SX C N sc i (.BoolOp op [a] pos) xa := fun X ad oe pn x eK eM eN eS hz hf => pe_one (h X ad oe pn x eK eM eN eS hz hf)
theorem x_and {rest : List Expr} (ha : SX C N sc i a xa) (hb : SX C N sc i (.BoolOp .And (b :: rest) pos) xb) : SX C N sc i (.BoolOp .And (a :: b :: rest) pos) (.and xa xb) := fun X ad oe pn x eK eM eN eS hz hf =>
  PE.imp (pe_andT (ha X ad oe pn x eK eM eN eS hz hf) (hb X ad oe pn x eK eM eN eS hz hf)) fun σ H Q ⟨B, F0, ρ, tv, td, hs, h, w⟩ => by
    simp only [evX] at w
    refine ⟨B, F0, ρ, tv, td, hs, h, w.bind.mono (fun _ z => z) fun d hd w' v H' h' => ?_⟩
    obtain ⟨t, ht, w2⟩ := Wish.ofob w'
    refine ⟨t, by have z := tru_of h' ht; rw [← eK] at z; exact z, ?_⟩
    cases t with
    | true => exact ⟨B, F0, ρ, tv, td, hs, h'.pop, w2⟩
    | false => exact w2 _ _ h'
/-! ### try .. except C as n: return e -/
theorem t_try {body : List Stmt} {mb : List Sm} {x n : Str} {j : Nat} {cs : List Nat} {np rp pos' : Pos} (hb : SS C k N sc st pi body mb) (hi : N[i]? = some n) (hln : sc.names.lookup n = some .local) (hpi : i ∉ pi)
    (hg : sc.names.lookup x = some .globalImplicit) (hm : C.mg x = some (.ref (C.G.ec j))) (hd : (x == ("__debug__" : Str)) = false) (hcs : ∀ c ∈ cs, PySem.W.exmOne C.G.K (.ref (C.G.ec c)) (.ref (C.G.ec j)) = some true) (hx : SX C N sc i e xb) :
    S1 C k N sc st pi (.Try body [.ExceptHandler (some (.Name x np)) (some n) [.Return (some e) rp] pos'] [] [] pos) (.tr mb i cs xb) := fun X W hX => by
  have kx : X.env.kindOf n = some .local := by unfold Env.kindOf; rw [hX.ok.eS]; exact hln
  refine PS.imp (ps_try_as (i := i) (c := .ref (C.G.ec j)) (tb := fun W => tR C pi (runs C.Φ C.gv pi mb) W)
    (ts := fun a cls d E σ H => ∃ (x : Exn) (B : Hp) (F0 : Addr → Prop) (ρ : List (Option D)) (tv : List V) (td : List D) (v : D), cls = .ref (C.G.ec x.c) ∧ d = none ∧ σ[i]? = some (some (.ref a)) ∧ Holds C.G B F0 noH σ ρ tv td H ∧ evX x xb ρ = .ok v ∧ ∀ u H', Holds C.G B F0 noH σ ρ (u :: tv) (v :: td) H' → E.rt u H')
    (Wout := W) hX.stk hX.frm (by rw [hX.ok.eN]; exact hX.ok.nd) (by rw [hX.ok.eN]; exact hi) kx ⟨by unfold Gl Env.kindOf; rw [hX.ok.eS]; exact hg, hd, .inl (by rw [hX.ok.eM]; exact hm)⟩ hX.ok.takes
    (fun W' pn xe tk po => hb (X.tr pn xe) W' ⟨⟨hX.ok.eP, hX.ok.eW, hX.ok.eK, hX.ok.eM, hX.ok.eB, hX.ok.eN, hX.ok.nd, hX.ok.eS, hX.ok.calm, hX.ok.room, hX.ok.gd, tk, hX.ok.hst, hX.ok.cod⟩, po, hX.stk, hX.frm⟩)
    (fun a oe cls d pn hz hf => ⟨fun pins s σ H E I q => ?_⟩)) fun E σ H ⟨B, F0, ρ, tv, td, pv, h, c, n, p, w⟩ => ?_
  · obtain ⟨x, B, F0, ρ, tv, td, v, rfl, rfl, hs, h, hv, q⟩ := q
    exact (pss_one (ps_ret (hx X a oe pn x hX.ok.eK hX.ok.eM hX.ok.eN hX.ok.eS hz hf))).run pins s σ H E I ⟨B, F0, ρ, tv, td, hs, h, by rw [hv]; exact fun u H' h' => q u H' h'⟩
  · simp only [run1] at w
    refine ⟨B, F0, ρ, tv, td, pv, h, c, n, p, ?_⟩
    cases q : runs C.Φ C.gv pi mb ρ with
    | nx ρ' => rw [q] at w; exact w
    | bk ρ' => rw [q] at w; exact w
    | ct ρ' => rw [q] at w; exact w
    | rt d ρ' => rw [q] at w; exact w
    | bad => rw [q] at w; exact w.elim
    | ex y ρ' =>
      rw [q] at w
      dsimp only at w
      split at w
      · rename_i hc
        obtain ⟨hc, hns, hl0⟩ := hc
        intro σ' H' h' c' p' cls dx er
        obtain ⟨rfl, fvs, f0, _, fn, _⟩ := er
        have f1 : fvs = [] := by rw [hns] at fn; simpa using fn.symm
        have dn := f0 f1
        subst dn
        refine ⟨true, by rw [hX.ok.eK]; exact hcs _ hc, fun _ a na => ?_, fun z => by cases z⟩
        split at w
        · rename_i v hv
          split at w
          · rename_i nv
            have hl : i < σ'.length := by
              obtain ⟨⟨_, _, o, _⟩, _⟩ := h'
              rw [o.length]; exact hl0
            refine ⟨y, B, F0, ρ'.set i none, tv, td, v, rfl, rfl, List.getElem?_set_self hl, h'.clear1, hv, fun u H2 h2 => ?_⟩
            refine w u _ H2 h2 (cleanS_set c' fun d e => by cases e) nv ?_
            rw [← p']
            apply List.map_congr_left
            intro m hm
            rw [List.getElem?_set_ne (fun z => hpi (by rw [z]; exact hm))]
          · exact w.elim
        · exact w.elim
      · exact w.elim
end
end Pu

set_option Elab.async false
set_option linter.all false
set_option maxRecDepth 100000
set_option maxHeartbeats 1000000
/-! Pu19: functions. -/
namespace Pu
open PySem PySem.Spec PyProof.Rows L2
/-- the slots is, all held -/
def selD (ρ : List (Option D)) : List Nat → Option (List D)
  | [] => some []
  | i :: is => match ρ[i]?, selD ρ is with
    | some (some d), some ds => some (d :: ds)
    | _, _ => none
/-- a function's meaning: n slots, the places of what it may change, its body -/
structure Fun where
  np : Nat
  n : Nat
  is : List Nat
  b : List Sm
def fnD (Φ : Nat → List D → Out (D × List D)) (gv : Nat → D) (F : Fun) (ds : List D) : Out (D × List D) :=
  if ds.length = F.np then (match runs Φ gv F.is F.b (ds.map some ++ List.replicate (F.n - F.np) none) with
    | .nx ρ => (match selD ρ F.is with | some ms => .ok (.non, ms) | none => .bad)
    | .rt d ρ => (match selD ρ F.is with | some ms => .ok (d, ms) | none => .bad)
    | .ex x ρ => (match selD ρ F.is with | some ms => .exc ⟨x.c, x.ns, x.xs, ms⟩ | none => .bad)
    | _ => .bad) else .bad
def PhiN (T : Nat → Option Fun) (gv : Nat → D) : Nat → Nat → List D → Out (D × List D)
  | 0, _, _ => .bad
  | n + 1, j, ds => match T j with
    | some F => fnD (PhiN T gv n) gv F ds
    | none => .bad
section
variable {G : Gb} {B Lk H H' : Hp} {F0 : Addr → Prop} {σ : L2.St} {ρ : List (Option D)} {tv : List V} {td : List D}
theorem Holds.noS (h : Holds G B F0 Lk σ ρ tv td H) : Holds G B F0 Lk [] [] tv td H := by
  obtain ⟨⟨f1, f2, a, b, n, q⟩, kb, kl, tb⟩ := h
  have s : Sb ([] ++ f2) (f1 ++ f2) := Sb.right _ _
  have mono : ∀ a, H a ≠ none → Fzp B F0 (f1 ++ f2) a → Fzp B F0 ([] ++ f2) a := fun a _ z => ⟨z.1, fun m => z.2 (s.mem a m)⟩
  exact ⟨⟨[], f2, .nil, b.keep (Keep.refl _) mono, s.nodup n, fun p hp => q p (s.mem p hp)⟩, kb, kl, tb⟩
theorem OwnS.of {K : PySem.W.Frag} {cl : Nat → Addr} {Fz : Addr → Prop} (m : Nat) : ∀ {vs : List V} {ds : List D} {f : List Addr}, Owns K cl H Fz vs ds f → OwnS K cl H Fz (vs.map some ++ List.replicate m none) (ds.map some ++ List.replicate m none) f
  | [], [], _, .nil => by
    show OwnS K cl H Fz (List.replicate m none) (List.replicate m none) []
    induction m with
    | zero => exact .nil
    | succ m ih => exact .skip ih
  | _ :: _, _ :: _, _, .cons a b => .put a (OwnS.of m b)
theorem Holds.toS {vs : List V} {ds : List D} (m : Nat) (h : Holds G B F0 Lk [] [] vs ds H) : Holds G B F0 Lk (vs.map some ++ List.replicate m none) (ds.map some ++ List.replicate m none) [] [] H := by
  obtain ⟨⟨f1, f2, a, b, n, q⟩, kb, kl, tb⟩ := h
  have e1 : f1 = [] := by cases a; rfl
  subst e1
  rw [List.nil_append] at *
  exact ⟨⟨f2, [], by rw [List.append_nil]; exact OwnS.of m b, .nil, by rw [List.append_nil]; exact n, by rw [List.append_nil]; exact q⟩, kb, kl, tb⟩
/-- the slots is, taken out -/
theorem Holds.takeAll : ∀ {is : List Nat} {ms : List D}, Holds G B F0 Lk σ ρ tv td H → is.Nodup → selD ρ is = some ms → ∃ us, is.map (fun i => σ[i]?) = us.map (fun v => some (some v)) ∧ us.length = ms.length ∧ ∃ σ' ρ', Holds G B F0 Lk σ' ρ' (us ++ tv) (ms ++ td) H ∧ ∀ i, i ∉ is → σ'[i]? = σ[i]? ∧ ρ'[i]? = ρ[i]?
  | [], ms, h, _, e => by
    simp only [selD, Option.some.injEq] at e
    subst e
    exact ⟨[], rfl, rfl, σ, ρ, h, fun _ _ => ⟨rfl, rfl⟩⟩
  | i :: is, ms, h, n, e => by
    simp only [selD] at e
    split at e
    · rename_i d ds hd hs
      cases e
      obtain ⟨n1, n2⟩ := List.nodup_cons.mp n
      obtain ⟨us, e1, e2, σ', ρ', h', k⟩ := h.takeAll n2 hs
      obtain ⟨v, e3, h2⟩ := h'.takeS (by rw [(k i n1).2]; exact hd)
      refine ⟨v :: us, by rw [List.map_cons, List.map_cons, e1, ← (k i n1).1, e3], by simp [e2], _, _, h2, fun j hj => ?_⟩
      have hj := not_or.mp (fun z => hj (List.mem_cons.mpr z))
      rw [List.getElem?_set_ne (Ne.symm hj.1), List.getElem?_set_ne (Ne.symm hj.1)]
      exact k j hj.2
    · cases e
end
theorem start_get {N : List Str} {vs : List V} {i : Nat} {v : V} (h : vs[i]? = some v) : (L2.start N vs)[i]? = some (some v) := by
  unfold L2.start
  have hl := (List.getElem?_eq_some_iff.mp h).1
  rw [List.getElem?_append_left (by simpa using hl), List.getElem?_map, h]
  rfl
theorem sel_map {vs : List V} : ∀ {is : List Nat}, (∀ i ∈ is, i < vs.length) → (sel is vs).map (fun v => some (some v)) = is.map (fun i => (vs.map some)[i]?)
  | [], _ => rfl
  | i :: is, h => by
    have hl := h i List.mem_cons_self
    have e : vs[i]? = some vs[i] := List.getElem?_eq_getElem hl
    have ih := sel_map (vs := vs) (is := is) fun j hj => h j (List.mem_cons_of_mem _ hj)
    unfold sel at ih ⊢
    rw [List.filterMap_cons, e, List.map_cons, List.map_cons, ih, List.getElem?_map, e]
    rfl
theorem cleanS_args {ds : List D} (h : noVws ds = true) (m : Nat) : cleanS (ds.map some ++ List.replicate m none) = true := by
  unfold cleanS
  rw [List.all_eq_true]
  intro x hx
  rcases List.mem_append.mp hx with hx | hx
  · obtain ⟨d, hd, rfl⟩ := List.mem_map.mp hx
    rw [noVws_eq, List.all_eq_true] at h
    exact h d hd
  · rw [(List.mem_replicate.mp hx).2]
/-- what is fixed, but for the meaning of calls -/
structure C0 where
  G : Gb
  P : Program
  w : World
  mg : Str → Option Value
  base : Heap
  gv : Nat → D
def C0.at (c : C0) (T : Nat → Option Fun) (n : Nat) : Cf := ⟨c.G, c.P, c.w, c.mg, c.base, PhiN T c.gv n, c.gv, none⟩
/-- .. in a def whose code object has a table -/
def C0.of (c : C0) (T : Nat → Option Fun) (n : Nat) (cp : Option (Addr × Addr)) : Cf := ⟨c.G, c.P, c.w, c.mg, c.base, PhiN T c.gv n, c.gv, cp⟩
/-- THE RULE of a def: by its body's meaning -/
theorem fn_G {c : C0} {T : Nat → Option Fun} {n j k : Nat} {F : Fun} {f : Addr} {name qual : Str} {params : Arguments} {body : List Stmt} {scope : Scope} {dV kV doc pm cdv ct oc : Value} {an od : Option Addr} {osl : Array (Option Value)} {N ps : List Str}
    (hT : T j = some F) (lk : c.G.K.lookup f = some ⟨oc, od, .func (PySem.W.fnOf name qual params body scope dV kV doc pm an cdv ct), osl⟩) (hcd : PySem.W.codeIn c.G.K cdv qual = true) (S : FnScope N ps scope) (hn : F.n = N.length) (hp : F.np = ps.length) (hpn : ps.length ≤ N.length)
    (hi : F.is.Nodup) (hil : ∀ i ∈ F.is, i < ps.length) {st : List Str} (hst : ∀ x ∈ st, L2.Loc scope x) {cp : Option (Addr × Addr)} (hcp : ∀ cc P, cp = some (cc, P) → cdv = .ref cc ∧ GxR.TabB c.base c.mg cc P ∧ P ∈ c.G.tabs)
    (hb : SS (c.of T n cp) k N scope st F.is body F.b) : FnG (c.at T (n + 1)) (k + 1) f (PySem.W.fnOf name qual params body scope dV kV doc pm an cdv ct) ps (spF (c.at T (n + 1)) j F.np F.is) where
  len := fun vs H Q E h => by rw [h.1, hp]
  run := fun A outer s H us vs Q E hr hg e0 hbd r hsp => by
    have hl : vs.length = ps.length := by rw [hsp.1, hp]
    have KX : c.G.K.In s.heap := e0.mod.kin.keeps fun b o e => (e0.bs b o e).1
    have lim : s.heap.NoLimit := e0.mod.nolimit.keeps fun b o e => (e0.bs b o e).1
    have hkind : ∀ y ∈ ps.zip us, scope.names.lookup y.1 = some .local ∨ (scope.names.lookup y.1 = some .cell ∧ ((cellsFrom (s.heap.objs.size + 1) scope.names []).lookup y.1).isSome = true) := fun ⟨m, v⟩ hy => by
      rcases S.par m (List.of_mem_zip hy).1 with q | q
      · exact .inl q
      · exact .inr ⟨q, PySem.W.cellsFrom_some _ _ _ (.inl q)⟩
    refine codeAny_call_function hr.depth (KX _ _ lk) rfl S.co S.gen rfl (PySem.W.codeRec_of KX hcd) (hbd _ _ _ _ ?_)
    refine wpAny_newFunctionEnv_cells S.kind hkind fun env he s1 x => ?_
    subst he
    refine ⟨lim.keeps x.toInCall.keep, codeAny_func ?_⟩
    generalize hX : cxOf (L2.CX c.P c.w) c.P c.w c.G.K c.mg c.base N qual scope f cdv A outer s H E = X
    have I : Inv X [] (start N vs) H s1 := by rw [← hX]; exact inv_start S hr.hd e0 hl r x
    have ctx : CtxS (c.of T n cp) k N scope st X (fun cls d _ H => E cls d H) := by
      subst hX
      refine ⟨⟨rfl, rfl, rfl, rfl, rfl, rfl, S.nd, rfl, rfl, hr.deeper _, ?_, takes_of rfl rfl rfl rfl, fun x hx => ⟨hst x hx, .inl rfl⟩, fun cc P e => hcp cc P e⟩, passes_of rfl, rfl, rfl⟩
      exact hg
    have hP := hb X _ ctx
    obtain ⟨hv, B, F0, ds, e1, ok, nv, h0, w⟩ := hsp
    have w : Wish (PhiN T c.gv (n + 1) j ds) _ _ := w
    simp only [PhiN, hT] at w
    unfold fnD at w
    split at w
    · rename_i hds
      have ew : F.n - F.np = N.length - vs.length := by rw [hn, hv]
      have h1 : Holds c.G B F0 noH (start N vs) (ds.map some ++ List.replicate (F.n - F.np) none) [] [] H := by
        rw [ew]; exact h0.toS _
      -- the end
      have fin : ∀ {ρ : List (Option D)} {ms : List D} {v : V} {d : D} {σ' : L2.St} {H' : Hp}, Holds c.G B F0 noH σ' ρ [v] [d] H' → F.is.map (fun i => σ'[i]?) = F.is.map (fun i => (start N vs)[i]?) → selD ρ F.is = some ms → Holds c.G B F0 noH [] [] (v :: sel F.is vs) (d :: ms) H' := fun {ρ ms v d σ' H'} h p e => by
        obtain ⟨us, q1, q2, σ2, ρ2, h2, _⟩ := h.takeAll hi e
        have eu : us = sel F.is vs := by
          rw [p] at q1
          have q3 := sel_map (vs := vs) (is := F.is) fun i hi' => by rw [hl]; exact hil i hi'
          have q4 : F.is.map (fun i => (start N vs)[i]?) = F.is.map (fun i => (vs.map some)[i]?) := by
            apply List.map_congr_left
            intro i hi'
            have hlt : i < vs.length := by rw [hl]; exact hil i hi'
            have e : vs[i]? = some vs[i] := List.getElem?_eq_getElem hlt
            rw [start_get e, List.getElem?_map, e]
            rfl
          rw [q4, ← q3] at q1
          have inj : ∀ {a b : List V}, a.map (fun v => some (some v)) = b.map (fun v => some (some v)) → a = b := fun {a} => by
            induction a with
            | nil => intro b h; cases b with | nil => rfl | cons _ _ => simp at h
            | cons x xs ih =>
              intro b h
              cases b with
              | nil => simp at h
              | cons y ys =>
                simp only [List.map_cons, List.cons.injEq, Option.some.injEq] at h
                rw [h.1, ih h.2]
          exact (inj q1).symm
        subst eu
        exact (Holds.up h2 q2).noS.re (Keep.refl _) h.tb fun Fz f2 b => ⟨f2, Sb.refl _, fun Fz' m _ => by
          have b' := b.keep (Keep.refl _) m
          rwa [List.append_nil, List.append_nil] at b'⟩
      have finE : ∀ {ρ : List (Option D)} {ms : List D} {σ' : L2.St} {H' : Hp}, Holds c.G B F0 noH σ' ρ [] [] H' → F.is.map (fun i => σ'[i]?) = F.is.map (fun i => (start N vs)[i]?) → selD ρ F.is = some ms → Holds c.G B F0 noH [] [] (sel F.is vs) ms H' := fun {ρ ms σ' H'} h p e => (fin (v := .non) (d := .non) (h.push fun _ => .non) p e).pop
      have hw : tR (c.of T n cp) F.is (runs (PhiN T c.gv n) c.gv F.is F.b) (fun cls d _ H => E cls d H) { nx := fun _ H' => Q .non H', rt := Q } (start N vs) H := by
        refine ⟨B, F0, _, [], [], _, h1, cleanS_args nv _, rfl, rfl, ?_⟩
        cases q : runs (PhiN T c.gv n) c.gv F.is F.b (ds.map some ++ List.replicate (F.n - F.np) none) with
        | nx ρ =>
          rw [q] at w
          dsimp only at w
          intro σ' H' h' c' p'
          cases e : selD ρ F.is with
          | none => rw [e] at w; exact w.elim
          | some ms => rw [e] at w; exact w .non H' (fin (h'.push fun _ => .non) p' e) rfl
        | rt d ρ =>
          rw [q] at w
          dsimp only at w
          intro v σ' H' h' c' n' p'
          cases e : selD ρ F.is with
          | none => rw [e] at w; exact w.elim
          | some ms => rw [e] at w; exact w v H' (fin h' p' e) n'
        | ex x ρ =>
          rw [q] at w
          dsimp only at w
          intro σ' H' h' c' p' cls dx er
          cases e : selD ρ F.is with
          | none => rw [e] at w; exact w.elim
          | some ms => rw [e] at w; exact w H' (finE h' p' e) cls dx er
        | bk ρ => rw [q] at w; exact w.elim
        | ct ρ => rw [q] at w; exact w.elim
        | bad => rw [q] at w; exact w.elim
      have run := hP.run [] s1 (start N vs) H _ I hw
      subst hX
      refine wpAny_mono run (fun fl s' hs => ?_) fun e s' hs => hs
      have done : ∀ {σ' : L2.St} {H' : Hp} {v : V} {u : Value}, Inv (cxOf (L2.CX c.P c.w) c.P c.w c.G.K c.mg c.base N qual scope f cdv A outer s H E) [] σ' H' s' → RelV v u → Q v H' → CE outer c.P c.w H s Q u s' :=
        fun {σ' H' v u} J rv q => ⟨v, H', J.os, J.bare, J.base, J.hok, rv, q⟩
      cases fl with
      | ret u => obtain ⟨v, σ', H', J, rv, q⟩ := hs; exact done J rv q
      | next => obtain ⟨σ', H', J, q⟩ := hs; exact done (v := V.non) (u := Value.none) J rfl q
      | brk => obtain ⟨_, _, _, q⟩ := hs; exact False.elim q
      | cont => obtain ⟨_, _, _, q⟩ := hs; exact False.elim q
    · exact w.elim
/-- nothing is promised without fuel -/
theorem fn_0 {c : C0} {T : Nat → Option Fun} {j np : Nat} {is : List Nat} {f : Addr} {fd : FuncData} {ps : List Str} (hp : np = ps.length) : FnG (c.at T 0) 0 f fd ps (spF (c.at T 0) j np is) where
  len := fun vs H Q E h => by rw [h.1, hp]
  run := fun A outer s H us vs Q E hr hg e0 hbd r hsp => by
    obtain ⟨hv, B, F0, ds, e1, ok, nv, h0, w⟩ := hsp
    exact w.elim
end Pu

set_option Elab.async false
set_option linter.all false
set_option maxRecDepth 100000
set_option maxHeartbeats 1000000
/-! Pu20: from a text to the language: expressions. -/
namespace Pu
open PySem PySem.Spec PyProof.Rows L2
/-- what a text's names mean -/
structure CE where
  N : List Str
  fs : List (Str × Nat × Nat)
  cs : List (Str × Nat × Nat × Nat)
  gs : List (Str × Nat)
  fl : List Str
  gen : Bool
  es : List (Str × Nat × List Nat × List Nat) := []
  rs : List Nat := []
def bltNames : List Str := ["len", "int", "str", "tuple", "list", "bool", "dict", "isinstance", "range", "enumerate", "zip", "reversed", "any", "all", "sorted", "repr", "max", "min"]
/-- what is known of them -/
structure Kn (C : Cf) (k : Nat) (ce : CE) : Prop where
  bl : ∀ x ∈ bltNames, C.mg x = none
  fn : ∀ x j np, ce.fs.lookup x = some (j, np) → ∃ f fd ps kl, FnG C kl f fd ps (spF C j np []) ∧ kl + 1 + (if ce.gen = true then 1 else 0) ≤ k ∧ Binds C.G.K fd ps [] ∧ C.mg x = some (.ref f) ∧ PySem.W.keepIn C.G.K (.ref f) = true
  cl : ∀ x c j np, ce.cs.lookup x = some (c, j, np) → ∃ f fd ps kl, L2.Mk C.G.K (C.G.cl c) f ∧ FnG C kl f fd ps (spF C j np [0]) ∧ kl + 1 + (if ce.gen = true then 1 else 0) ≤ k ∧ Binds C.G.K fd ps [] ∧ C.mg x = some (.ref (C.G.cl c))
  gl : ∀ x j, ce.gs.lookup x = some j → ∃ v u, C.mg x = some u ∧ RelV v u ∧ ∀ H Fz, Own C.G.K C.G.cl H Fz v (C.gv j) []
  gk : ce.gen = true → 1 ≤ k ∧ ∃ c P, C.code = some (c, P)
  fa : ∀ c, L2.Cls C.G.K (C.G.cl c)
  fb : ∀ x ∈ ce.fl, ∀ c, L2.NoAttr C.G.K (C.G.cl c) x
  ex : ∀ x j ys ns, ce.es.lookup x = some (j, ys, ns) → C.mg x = some (.ref (C.G.ec j)) ∧ (∀ c ∈ ys ++ ns, ExcC C.G.K (C.G.ec c)) ∧ (∀ c ∈ ys, PySem.W.kitOne C.G.K (.ref (C.G.ec c)) (.ref (C.G.ec j)) = some true) ∧ (∀ c ∈ ys, PySem.W.exmOne C.G.K (.ref (C.G.ec c)) (.ref (C.G.ec j)) = some true) ∧ ∀ c ∈ ns, PySem.W.kitOne C.G.K (.ref (C.G.ec c)) (.ref (C.G.ec j)) = some false
  rs : ∀ c ∈ ce.rs, Rai C c
def visB (sc : Scope) (x : Str) : Bool := match sc.names.lookup x with
  | some .local => true
  | some .cell => true
  | some .free => true
  | _ => false
theorem visB_eq {sc : Scope} {x : Str} (h : visB sc x = true) : Vis sc x := by
  unfold visB at h
  split at h <;> first | (rename_i e; first | exact .inl e | exact .inr (.inl e) | exact .inr (.inr e)) | cases h
def glB (sc : Scope) (x : Str) : Bool := decide (sc.names.lookup x = some .globalImplicit) && !(x == ("__debug__" : Str)) && !(x == ("__name__" : Str))
def idx (N : List Str) (x : Str) : Option Nat := (N.findIdx? (· == x)).bind fun i => if N[i]? = some x then some i else none
theorem idx_eq {N : List Str} {x : Str} {i : Nat} (h : idx N x = some i) : N[i]? = some x := by
  unfold idx at h
  cases q : N.findIdx? (· == x) with
  | none => rw [q] at h; cases h
  | some j =>
    rw [q] at h
    simp only [Option.bind_some] at h
    split at h
    · cases h; assumption
    · cases h
def ndB (x : Str) : Bool := !(x == ("__debug__" : Str)) && !(x == ("__classdict__" : Str))
def bop : Operator → Option Bop
  | .Add => some .add | .Sub => some .sub | .Mult => some .mul | .FloorDiv => some .fdiv | .Mod => some .mod | .Pow => some .pow
  | _ => none
def cop : CmpOp → Option Cop
  | .Eq => some .eq | .NotEq => some .ne | .Lt => some .lt | .LtE => some .le | .Gt => some .gt | .GtE => some .ge | .In => some .isIn | .NotIn => some .notIn | .Is => some .isNon | .IsNot => some .notNon
def biN (x : Str) : Option Bi := if x = "len" then some .len else if x = "int" then some .int else if x = "str" then some .str else if x = "tuple" then some .tuple else if x = "list" then some .list else if x = "sorted" then some .sorted else if x = "max" then some .max else if x = "min" then some .min else none
def btN (x : Str) : Option Bt := if x = "int" then some .int else if x = "str" then some .str else if x = "list" then some .list else if x = "tuple" then some .tuple else if x = "bool" then some .bool else if x = "dict" then some .dict else none
def opt2 {α β γ : Type} (a : Option α) (b : Option β) (f : α → β → γ) : Option γ := match a, b with
  | some x, some y => some (f x y)
  | _, _ => none
theorem opt2_eq {α β γ : Type} {a : Option α} {b : Option β} {f : α → β → γ} {z : γ} (h : opt2 a b f = some z) : ∃ x y, a = some x ∧ b = some y ∧ z = f x y := by
  cases a <;> cases b <;> first | (simp [opt2] at h; done) | skip
  simp only [opt2, Option.some.injEq] at h
  exact ⟨_, _, rfl, rfl, h.symm⟩
def chkO {α : Type} (b : Bool) (o : Option α) : Option α := if b = true then o else none
theorem chkO_eq {α : Type} {b : Bool} {o : Option α} {z : α} (h : chkO b o = some z) : b = true ∧ o = some z := by
  unfold chkO at h
  split at h
  · exact ⟨by assumption, h⟩
  · cases h
def one {α : Type} : List α → Option α
  | [x] => some x
  | _ => none
theorem one_eq {α : Type} {l : List α} {x : α} (h : one l = some x) : l = [x] := by
  unfold one at h
  split at h
  · cases h; rfl
  · cases h
def isStl : List Expr → Option (Expr × List Expr)
  | .Starred e _ :: es => some (e, es)
  | _ => none
/-- a list of them -/
def cList (f : Expr → Option Ex) : List Expr → Option (List Ex)
  | [] => some []
  | e :: es => opt2 (f e) (cList f es) List.cons
/-- and, or -/
def cBool (f : Expr → Option Ex) (op : BoolOp) : List Expr → Option Ex
  | [] => none
  | [a] => f a
  | a :: b :: r => opt2 (f a) (cBool f op (b :: r)) fun x y => match op with | .And => .and x y | .Or => .or x y
def cOpt (f : Expr → Option Ex) : Option Expr → Option (List Ex)
  | none => some []
  | some e => (f e).map fun x => [x]
def cCmp (f : Expr → Option Ex) (a : Expr) : List CmpOp → List Expr → Option Ex
  | [o], [b] => chkO (!behindInMarks o b) (opt2 (cop o) (opt2 (f a) (f b) fun x y => (x, y)) fun o p => .cmp o p.1 p.2)
  | [o, o'], [b, c] => chkO (!lastMarks [o, o'] [b, c]) (opt2 (opt2 (cop o) (cop o') fun x y => (x, y)) (opt2 (f a) (opt2 (f b) (f c) fun x y => (x, y)) fun x y => (x, y)) fun o p => .chn o.1 o.2 p.1 p.2.1 p.2.2)
  | _, _ => none
def isIsi : List Expr → Option (Expr × Str)
  | [e, .Name x _] => some (e, x)
  | _ => none
def cCall (f : Expr → Option Ex) (ce : CE) (sc : Scope) (x : Str) (es : List Expr) : Option Ex := chkO (glB sc x && es.all nst) (match ce.fs.lookup x with
  | some (j, np) => chkO (decide (es.length = np)) ((cList f es).map fun ies => .call j ies)
  | none => match ce.cs.lookup x with
    | some (c, j, np) => chkO (decide (es.length + 1 = np) && !es.isEmpty) ((cList f es).map fun ies => .mk c j ies)
    | none => if x = "isinstance" then (match isIsi es with
        | some (e, t) => chkO (glB sc t) (opt2 (f e) (btN t) fun ie b => .isi ie (.b b))
        | none => none)
      else if x = "repr" then (match one es with
        | some e => (f e).map fun ie => .bi .repr [ie]
        | none => none)
      else chkO (!es.isEmpty) (opt2 (biN x) (cList f es) fun b ies => .bi b ies))
def isMinusOne : Option Expr → Bool
  | some (.UnaryOp .USub (.Constant (.int i) _ _) _) => decide (i = 1)
  | _ => false
def cSub (f : Expr → Option Ex) (a : Expr) : Expr → Option Ex
  | .Slice lo hi st _ => match st with
    | none => opt2 (f a) (opt2 (cOpt f lo) (cOpt f hi) fun x y => (x, y)) fun x y => .slc x y.1 y.2
    | some m => chkO (isMinusOne (some m) && lo.isNone && hi.isNone) ((f a).map .rev)
  | b => opt2 (f a) (f b) .idx
def isTup : Expr → Bool
  | .Tuple _ _ _ => true
  | _ => false
/-- the names of a target -/
def cNms (N st : List Str) : List Expr → Option (List Nat)
  | [] => some []
  | .Name x _ :: es => chkO (decide (x ∈ st)) (opt2 (idx N x) (cNms N st es) List.cons)
  | _ :: _ => none
def cTg (N st : List Str) : Expr → Option Tg
  | .Name x _ => chkO (decide (x ∈ st)) ((idx N x).map .nm)
  | .Tuple es _ _ => (cNms N st es).map .tp
  | _ => none
def cIt1 (f : Expr → Option Ex) (ce : CE) (sc : Scope) (tg : Expr) (x : Str) : List Expr → Option It
  | [a] => if x = "range" then (f a).map fun z => .rng [z] else if x = "enumerate" then chkO (isTup tg) ((f a).map .enum) else if x = "reversed" then (f a).map .rvd else none
  | [a, b] => if x = "range" then opt2 (f a) (f b) fun y z => .rng [y, z] else if x = "zip" then chkO (isTup tg) (opt2 (f a) (f b) fun y z => .zip [y, z]) else none
  | _ => none
def itN (x : Str) : Bool := decide (x = "range") || decide (x = "enumerate") || decide (x = "reversed") || decide (x = "zip")
def isIt : Expr → Option (Str × List Expr)
  | .Call (.Name x _) es [] _ => if itN x = true then some (x, es) else none
  | _ => none
def cIt (f : Expr → Option Ex) (ce : CE) (sc : Scope) (tg iter : Expr) : Option It := match isIt iter with
  | some (x, es) => chkO (glB sc x && es.all nst) (cIt1 f ce sc tg x es)
  | none => (f iter).map .of
def nfs : Expr → Bool
  | .Set _ _ _ => false
  | _ => true
/-- a comprehension's own names -/
def ownOf (N : List Str) (scope : Scope) : List (Str × Nat) := scope.names.filterMap fun y => match y.2 with
  | .local => (idx N y.1).map fun i => (y.1, i)
  | .cell => (idx N y.1).map fun i => (y.1, i)
  | _ => none
def locB (sc : Scope) (x : Str) : Bool := match sc.names.lookup x with
  | some .local => true
  | some .cell => true
  | _ => false
def ownC (sc scope : Scope) (st : List Str) : Bool := st.all fun x => locB (relS scope sc) x && ((scope.names.lookup x == some NameKind.cell) || decide ((relS scope sc).names.lookup x = some NameKind.local))
def isGen : List Expr → Option (Expr × List Comprehension × Scope)
  | [.GeneratorExp elt gs scope _] => some (elt, gs, scope)
  | _ => none
def nfg : Expr → Bool
  | .Set _ _ _ => false
  | .List _ _ => false
  | _ => true
def genC (N : List Str) (sc scope : Scope) (own : List (Str × Nat)) : Bool := blkC N sc scope own && decide (scope.isCoroutine = false) && decide (scope.names.lookup (".0" : Str) = some NameKind.local) && (scope.names.all fun y => decide (y.2 ≠ .cell)) && (own.all fun p => decide (scope.names.lookup p.1 = some NameKind.local))
def qB (x : Str) : Option Bool := if x = "all" then some true else if x = "any" then some false else none
def CE.dry (ce : CE) : CE := { ce with gen := false }
mutual
def cE : Nat → CE → Scope → Expr → Option Ex
  | 0, _, _, _ => none
  | n + 1, ce, sc, .Constant c _ _ => match c with
    | .none => some .non
    | .bool b => some (.bl b)
    | .int i => some (.int i)
    | .str s => some (.str s)
    | _ => none
  | n + 1, ce, sc, .Name x _ => if visB sc x = true then chkO (ndB x) ((idx ce.N x).map .var) else chkO (glB sc x) ((ce.gs.lookup x).map .gl)
  | n + 1, ce, sc, .BinOp a op b _ => opt2 (bop op) (opt2 (cE n ce sc a) (cE n ce sc b) fun x y => (x, y)) fun o p => .bin o p.1 p.2
  | n + 1, ce, sc, .UnaryOp op a _ => match op with
    | .Not => (cE n ce sc a).map .not
    | .USub => (cE n ce sc a).map .neg
    | _ => none
  | n + 1, ce, sc, .BoolOp op es _ => cBool (cE n ce sc) op es
  | n + 1, ce, sc, .IfExp c a b _ => opt2 (cT n ce sc c) (opt2 (cE n ce sc a) (cE n ce sc b) fun x y => (x, y)) fun c p => .ife c p.1 p.2
  | n + 1, ce, sc, .Compare a ops es _ => cCmp (cE n ce sc) a ops es
  | n + 1, ce, sc, .Tuple es _ _ => chkO (es.all nst) ((cList (cE n ce sc) es).map .tup)
  | n + 1, ce, sc, .List es _ => match isStl es with
    | some (e, es) => chkO (es.all nst) (opt2 (cE n ce sc e) (cList (cE n ce sc) es) .stl)
    | none => chkO (es.all nst) ((cList (cE n ce sc) es).map .lst)
  | n + 1, ce, sc, .Subscript a b _ => cSub (cE n ce sc) a b
  | n + 1, ce, sc, .Attribute a x _ => chkO (npl a && decide (x ∈ ce.fl)) ((cE n ce sc a).map fun z => .fld z x)
  | n + 1, ce, sc, .Call (.Name x _) es [] _ => match isGen es with
    | some (elt, gs, scope) => (match one gs, qB x with
      | some g, some a => cG n ce sc a elt g scope
      | _, _ => none)
    | none => cCall (cE n ce sc) ce sc x es
  | n + 1, ce, sc, .ListComp elt gs scope _ => match one gs with
    | some g => cC n ce sc elt g scope
    | none => none
  | _ + 1, _, _, _ => none
def cT : Nat → CE → Scope → Expr → Option Ex
  | 0, _, _, _ => none
  | n + 1, ce, sc, .BoolOp op es _ => cBool (cT n ce sc) op es
  | n + 1, ce, sc, .UnaryOp .Not a _ => (cT n ce sc a).map .not
  | n + 1, ce, sc, .Compare a ops es _ => cCmp (cE n ce sc) a ops es
  | n + 1, ce, sc, e => chkO (tst e) (cE n ce sc e)
def cC : Nat → CE → Scope → Expr → Comprehension → Scope → Option Ex
  | 0, _, _, _, _, _ => none
  | n + 1, ce, sc, elt, g, scope => chkO (decide (g.is_async = 0) && nfs g.iter && blkC ce.N sc scope (ownOf ce.N scope) && ownC sc scope ((ownOf ce.N scope).map (·.1)))
    ((opt2 (cIt (cE n ce sc) ce sc g.target g.iter) (opt2 (cTg ce.N ((ownOf ce.N scope).map (·.1)) g.target) (opt2 (cCs n ce (relS scope sc) g.ifs) (cE n ce (relS scope sc) elt) fun x y => (x, y)) fun x y => (x, y)) fun it p => (it, p)).bind fun q =>
      chkO ((tgIx q.2.1).all fun i => decide (i ∈ (ownOf ce.N scope).map (·.2))) (some (.comp ((ownOf ce.N scope).map (·.2)) q.2.2.2 q.2.1 q.1 q.2.2.1)))
def cG : Nat → CE → Scope → Bool → Expr → Comprehension → Scope → Option Ex
  | 0, _, _, _, _, _, _ => none
  | n + 1, ce, sc, a, elt, g, scope => chkO (ce.gen && glB sc (qN a) && decide (g.is_async = 0) && nfg g.iter && g.ifs.isEmpty && genC ce.N sc scope (ownOf ce.N scope))
    ((opt2 (cIt (cE n ce sc) ce sc g.target g.iter) (opt2 (cTg ce.N ((ownOf ce.N scope).map (·.1)) g.target) (cE n ce.dry scope elt) fun x y => (x, y)) fun it p => (it, p)).bind fun q =>
      chkO ((tgIx q.2.1).all fun i => decide (i ∈ (ownOf ce.N scope).map (·.2))) (some (.gen a ((ownOf ce.N scope).map (·.2)) q.2.2 q.2.1 q.1)))
def cCs : Nat → CE → Scope → List Expr → Option (List Ex)
  | 0, _, _, _ => none
  | n + 1, ce, sc, [] => some []
  | n + 1, ce, sc, [c] => (cT n ce sc c).map fun x => [x]
  | n + 1, _, _, _ => none
end
/-! ### it is sound -/
theorem map_some {α β : Type} {o : Option α} {f : α → β} {z : β} (h : o.map f = some z) : ∃ x, o = some x ∧ z = f x := by
  cases o with
  | none => cases h
  | some x => simp only [Option.map_some, Option.some.injEq] at h; exact ⟨x, rfl, h.symm⟩
theorem glB_eq {sc : Scope} {x : Str} (h : glB sc x = true) : sc.names.lookup x = some .globalImplicit ∧ (x == ("__debug__" : Str)) = false ∧ x ≠ ("__name__" : Str) := by
  unfold glB at h
  simp only [Bool.and_eq_true, decide_eq_true_eq, Bool.not_eq_true'] at h
  exact ⟨h.1.1, h.1.2, fun e => by rw [e] at h; simp at h⟩
section
variable {C : Cf} {k : Nat} {ce : CE} {N : List Str} {sc : Scope} {st : List Str} {f : Expr → Option Ex} {pos p : Pos}
theorem cList_ok (hf : ∀ e ie, f e = some ie → SE C k N sc st e ie) : ∀ {es : List Expr} {ies : List Ex}, cList f es = some ies → es.all nst = true → SEs C k N sc st es ies
  | [], ies, h, _ => by simp only [cList, Option.some.injEq] at h; subst h; exact ss_nil
  | e :: es, ies, h, n => by
    obtain ⟨x, xs, h1, h2, rfl⟩ := opt2_eq h
    rw [List.all_cons, Bool.and_eq_true] at n
    exact ss_cons n.1 (hf _ _ h1) (cList_ok hf h2 n.2)
theorem cBool_ok (hf : ∀ e ie, f e = some ie → SE C k N sc st e ie) {op : BoolOp} : ∀ {es : List Expr} {ie : Ex}, cBool f op es = some ie → SE C k N sc st (.BoolOp op es pos) ie
  | [], _, h => by cases h
  | [a], _, h => s_bool1 (hf _ _ h)
  | a :: b :: r, ie, h => by
    obtain ⟨x, y, h1, h2, rfl⟩ := opt2_eq h
    cases op
    · exact s_and (hf _ _ h1) (cBool_ok hf h2)
    · exact s_or (hf _ _ h1) (cBool_ok hf h2)
theorem cBoolT_ok (hf : ∀ e ie, f e = some ie → STt C k N sc st e ie) {op : BoolOp} : ∀ {es : List Expr} {ie : Ex}, cBool f op es = some ie → SW C k N sc st (.BoolOp op es pos) ie
  | [], _, h => by cases h
  | [a], _, h => by
    cases op
    · exact sw_and1 (hf _ _ h)
    · exact sw_or1 (hf _ _ h)
  | a :: b :: r, ie, h => by
    obtain ⟨x, y, h1, h2, rfl⟩ := opt2_eq h
    cases op
    · exact sw_and (hf _ _ h1) (cBoolT_ok hf h2)
    · exact sw_or (hf _ _ h1) (cBoolT_ok hf h2)
theorem cop_ok {op : CmpOp} {o : Cop} (h : cop op = some o) : Nonempty (CmpR C k op o) := by
  cases op <;> cases h
  · exact ⟨R_eq⟩
  · exact ⟨R_ne⟩
  · exact ⟨R_lt⟩
  · exact ⟨R_le⟩
  · exact ⟨R_gt⟩
  · exact ⟨R_ge⟩
  · exact ⟨R_isN⟩
  · exact ⟨R_noN⟩
  · exact ⟨R_in⟩
  · exact ⟨R_ni⟩
theorem cOpt_ok (hf : ∀ e ie, f e = some ie → SE C k N sc st e ie) : ∀ {o : Option Expr} {os : List Ex}, cOpt f o = some os → SO C k N sc st o os
  | none, _, h => by simp only [cOpt, Option.some.injEq] at h; subst h; exact so_none
  | some e, _, h => by obtain ⟨x, h1, rfl⟩ := map_some h; exact so_some (hf _ _ h1)
theorem cCmp_ok (hf : ∀ e ie, f e = some ie → SE C k N sc st e ie) {a : Expr} {ie : Ex} : ∀ {ops : List CmpOp} {es : List Expr}, cCmp f a ops es = some ie → SE C k N sc st (.Compare a ops es pos) ie ∧ STt C k N sc st (.Compare a ops es pos) ie
  | [o], [b], h => by
    obtain ⟨hm, h⟩ := chkO_eq h
    obtain ⟨x, p, h1, h2, rfl⟩ := opt2_eq h
    obtain ⟨y, z, h3, h4, rfl⟩ := opt2_eq h2
    obtain ⟨R⟩ := cop_ok (C := C) (k := k) h1
    have hm : behindInMarks o b = false := by simpa using hm
    exact ⟨s_cmp R (hf _ _ h3) (hf _ _ h4) hm, st_cmp R (hf _ _ h3) (hf _ _ h4) hm⟩
  | [o, o'], [b, c], h => by
    obtain ⟨hm, h⟩ := chkO_eq h
    obtain ⟨x, p, h1, h2, rfl⟩ := opt2_eq h
    obtain ⟨x1, x2, g1, g2, rfl⟩ := opt2_eq h1
    obtain ⟨y, z, h3, h4, rfl⟩ := opt2_eq h2
    obtain ⟨z1, z2, h5, h6, rfl⟩ := opt2_eq h4
    obtain ⟨R⟩ := cop_ok (C := C) (k := k) g1
    obtain ⟨R'⟩ := cop_ok (C := C) (k := k) g2
    have hm : lastMarks [o, o'] [b, c] = false := by simpa using hm
    exact ⟨s_chn R R' (hf _ _ h3) (hf _ _ h5) (hf _ _ h6) hm, st_chn R R' (hf _ _ h3) (hf _ _ h5) (hf _ _ h6) hm⟩
  | [], _, h => by simp [cCmp] at h
  | [_], [], h => by simp [cCmp] at h
  | [_], _ :: _ :: _, h => by simp [cCmp] at h
  | [_, _], [], h => by simp [cCmp] at h
  | [_, _], [_], h => by simp [cCmp] at h
  | [_, _], _ :: _ :: _ :: _, h => by simp [cCmp] at h
  | _ :: _ :: _ :: _, _, h => by simp [cCmp] at h
theorem biN_ok {x : Str} {b : Bi} {es : List Expr} {e : Expr} {ies : List Ex} (K : Kn C k ce) (hg : glB sc x = true) (hb : biN x = some b) (hn : (e :: es).all nst = true) (h : SEs C k N sc st (e :: es) ies) : SE C k N sc st (.Call (.Name x p) (e :: es) [] pos) (.bi b ies) := by
  obtain ⟨g1, g2, g3⟩ := glB_eq hg
  have hm : ∀ y ∈ bltNames, C.mg y = none := K.bl
  unfold biN at hb
  split at hb
  · rename_i e1; subst e1; cases hb
    exact s_biB B_len g1 (hm _ (by decide)) (by decide +kernel) hn g3 g2 h
  · split at hb
    · rename_i e1; subst e1; cases hb
      exact s_biT B_int g1 (hm _ (by decide)) (by decide +kernel) hn g3 g2 h
    · split at hb
      · rename_i e1; subst e1; cases hb
        exact s_biT B_str g1 (hm _ (by decide)) (by decide +kernel) hn g3 g2 h
      · split at hb
        · rename_i e1; subst e1; cases hb
          exact s_biT B_tuple g1 (hm _ (by decide)) (by decide +kernel) hn g3 g2 h
        · split at hb
          · rename_i e1; subst e1; cases hb
            exact s_biT B_list g1 (hm _ (by decide)) (by decide +kernel) hn g3 g2 h
          · split at hb
            · rename_i e1; subst e1; cases hb
              exact s_biB B_sorted g1 (hm _ (by decide)) (by decide +kernel) hn g3 g2 h
            · split at hb
              · rename_i e1; subst e1; cases hb
                exact s_biB B_max g1 (hm _ (by decide)) (by decide +kernel) hn g3 g2 h
              · split at hb
                · rename_i e1; subst e1; cases hb
                  exact s_biB B_min g1 (hm _ (by decide)) (by decide +kernel) hn g3 g2 h
                · cases hb
theorem btN_ok {x : Str} {b : Bt} (h : btN x = some b) : x = Str.ofString b.nm ∧ x ∈ bltNames := by
  unfold btN at h
  repeat' (split at h)
  all_goals first | (rename_i e1; subst e1; cases h; exact ⟨rfl, by decide⟩) | cases h
theorem isIsi_ok {es : List Expr} {e : Expr} {t : Str} (h : isIsi es = some (e, t)) : ∃ p, es = [e, .Name t p] := by
  unfold isIsi at h
  split at h
  · cases h; exact ⟨_, rfl⟩
  · cases h
theorem cCall_ok (K : Kn C k ce) (hf : ∀ e ie, f e = some ie → SE C k N sc st e ie) {x : Str} {es : List Expr} {ie : Ex} (h : cCall f ce sc x es = some ie) : SE C k N sc st (.Call (.Name x p) es [] pos) ie := by
  obtain ⟨h1, h0⟩ := chkO_eq h
  clear h
  have h := h0
  clear h0
  rw [Bool.and_eq_true] at h1
  obtain ⟨hg, hn⟩ := h1
  obtain ⟨g1, g2, g3⟩ := glB_eq hg
  split at h
  · rename_i j np hx
    obtain ⟨hl, h⟩ := chkO_eq h
    obtain ⟨ies, h2, rfl⟩ := map_some h
    obtain ⟨fa, fd, ps, kl, F, hk, hb, hm, kp⟩ := K.fn x j np hx
    have hl := of_decide_eq_true hl
    subst hl
    have hS := cList_ok hf h2 hn
    cases es with
    | nil =>
      have e0 : ies = [] := by simp only [cList, Option.some.injEq] at h2; exact h2.symm
      subst e0
      exact s_call0 F (by omega) hb g1 hm kp g2
    | cons e es =>
      have el : ies.length = (e :: es).length := cList_len h2
      rw [← el] at F
      exact s_call F (by omega) hb g1 hm kp g2 hn hS
  · split at h
    · rename_i c j np hx
      obtain ⟨hl, h⟩ := chkO_eq h
      obtain ⟨ies, h2, rfl⟩ := map_some h
      obtain ⟨fa, fd, ps, kl, M, F, hk, hb, hm⟩ := K.cl x c j np hx
      rw [Bool.and_eq_true] at hl
      obtain ⟨hl, hne⟩ := hl
      have hl := of_decide_eq_true hl
      subst hl
      cases es with
      | nil => cases hne
      | cons e es =>
        have el : ies.length = (e :: es).length := cList_len h2
        rw [← el] at F
        exact s_mk M F (by omega) hb g1 hm g2 hn (cList_ok hf h2 hn)
    · split at h
      · rename_i ex
        subst ex
        split at h
        · rename_i e t ht
          obtain ⟨q, rfl⟩ := isIsi_ok ht
          obtain ⟨hg2, h⟩ := chkO_eq h
          obtain ⟨ie', b, h3, h4, rfl⟩ := opt2_eq h
          obtain ⟨rfl, hbn⟩ := btN_ok h4
          rw [List.all_cons, Bool.and_eq_true] at hn
          exact s_isi hn.1 g1 (K.bl _ (by decide)) (glB_eq hg2).1 (K.bl _ hbn) (hf _ _ h3)
        · cases h
      · split at h
        · rename_i ex
          subst ex
          split at h
          · rename_i a ha
            have e1 := one_eq ha
            subst e1
            obtain ⟨ie', h3, rfl⟩ := map_some h
            rw [List.all_cons, Bool.and_eq_true] at hn
            exact s_repr hn.1 g1 (K.bl _ (by decide)) (hf _ _ h3)
          · cases h
        obtain ⟨hne, h⟩ := chkO_eq h
        obtain ⟨b, ies, h3, h4, rfl⟩ := opt2_eq h
        cases es with
        | nil => cases hne
        | cons e es => exact biN_ok K hg h3 hn (cList_ok hf h4 hn)
where
  cList_len {f : Expr → Option Ex} : ∀ {es : List Expr} {ies : List Ex}, cList f es = some ies → ies.length = es.length
    | [], ies, h => by simp only [cList, Option.some.injEq] at h; subst h; rfl
    | e :: es, ies, h => by
      obtain ⟨x, xs, h1, h2, rfl⟩ := opt2_eq h
      rw [List.length_cons, List.length_cons, cList_len h2]
theorem isMinusOne_ok {e : Expr} (h : isMinusOne (some e) = true) : ∃ kk p1 p2, e = .UnaryOp .USub (.Constant (.int 1) kk p1) p2 := by
  unfold isMinusOne at h
  split at h
  · rename_i i kk p1 p2 e1
    cases e1
    rw [of_decide_eq_true h]
    exact ⟨_, _, _, rfl⟩
  · cases h
theorem cSub_ok (hf : ∀ e ie, f e = some ie → SE C k N sc st e ie) {a b : Expr} {ie : Ex} (h : cSub f a b = some ie) : SE C k N sc st (.Subscript a b pos) ie := by
  by_cases hb : nsl b = true
  · have h' : opt2 (f a) (f b) .idx = some ie := by
      cases b <;> first | exact h | cases hb
    obtain ⟨x, y, h1, h2, rfl⟩ := opt2_eq h'
    exact s_idx hb (hf _ _ h1) (hf _ _ h2)
  · cases b <;> first | exact absurd rfl hb | skip
    rename_i lo hi stp p2
    cases stp with
    | none =>
      obtain ⟨x, y, h1, h2, rfl⟩ := opt2_eq h
      obtain ⟨y1, y2, h3, h4, rfl⟩ := opt2_eq h2
      exact s_slc (hf _ _ h1) (cOpt_ok hf h3) (cOpt_ok hf h4)
    | some m =>
      obtain ⟨c, h⟩ := chkO_eq h
      simp only [Bool.and_eq_true] at c
      obtain ⟨⟨c1, c2⟩, c3⟩ := c
      obtain ⟨kk, q1, q2, rfl⟩ := isMinusOne_ok c1
      cases lo <;> first | cases c2 | skip
      cases hi <;> first | cases c3 | skip
      obtain ⟨x, h1, rfl⟩ := map_some h
      exact s_rev (hf _ _ h1)
theorem cNms_ok : ∀ {es : List Expr} {is : List Nat}, cNms N st es = some is → Nms N st es is
  | [], _, h => by simp only [cNms, Option.some.injEq] at h; subst h; exact .nil
  | e :: es, is, h => by
    cases e <;> first | (simp [cNms] at h; done) | skip
    obtain ⟨hx, h⟩ := chkO_eq h
    obtain ⟨i, is', h1, h2, rfl⟩ := opt2_eq h
    exact .cons (idx_eq h1) (of_decide_eq_true hx) (cNms_ok h2)
theorem cTg_ok {tg : Expr} {t : Tg} (h : cTg N st tg = some t) : SG C k N sc st tg t := by
  cases tg <;> first | (simp [cTg] at h; done) | skip
  · obtain ⟨hx, h⟩ := chkO_eq h
    obtain ⟨i, h1, rfl⟩ := map_some h
    exact g_nm (idx_eq h1) (of_decide_eq_true hx)
  · obtain ⟨is, h1, rfl⟩ := map_some h
    exact g_tp (cNms_ok h1)
theorem isTup_ok {tg : Expr} (h : isTup tg = true) : ∃ es kk q, tg = .Tuple es kk q := by
  cases tg <;> first | exact ⟨_, _, _, rfl⟩ | cases h
theorem cIt_ok (K : Kn C k ce) (hf : ∀ e ie, f e = some ie → SE C k N sc st e ie) {tg iter : Expr} {it : It} (h : cIt f ce sc tg iter = some it) : SI C k N sc st tg iter it := by
  unfold cIt at h
  split at h
  · rename_i x es hx
    obtain ⟨h1, h0⟩ := chkO_eq h
    clear h
    have h := h0
    clear h0
    rw [Bool.and_eq_true] at h1
    obtain ⟨g1, g2, g3⟩ := glB_eq h1.1
    have hn := h1.2
    obtain ⟨q, q2, rfl⟩ : ∃ q q2, iter = .Call (.Name x q) es [] q2 := by
      unfold isIt at hx
      split at hx
      · split at hx
        · cases hx; exact ⟨_, _, rfl⟩
        · cases hx
      · cases hx
    have hm : ∀ y ∈ bltNames, C.mg y = none := K.bl
    clear hx h1
    rcases es with _ | ⟨a, _ | ⟨b, _ | ⟨_, _⟩⟩⟩
    · simp [cIt1] at h
    · rw [List.all_cons, Bool.and_eq_true] at hn
      simp only [cIt1] at h
      split at h
      · rename_i e1; subst e1
        obtain ⟨z, h1, rfl⟩ := map_some h
        exact i_rng1 g1 (hm _ (by decide)) hn.1 (hf _ _ h1)
      · split at h
        · rename_i e1; subst e1
          obtain ⟨ht, h⟩ := chkO_eq h
          obtain ⟨z, h1, rfl⟩ := map_some h
          obtain ⟨_, _, _, rfl⟩ := isTup_ok ht
          exact i_enum g1 (hm _ (by decide)) hn.1 (hf _ _ h1)
        · split at h
          · rename_i e1; subst e1
            obtain ⟨z, h1, rfl⟩ := map_some h
            exact i_rvd g1 (hm _ (by decide)) hn.1 (hf _ _ h1)
          · cases h
    · simp only [List.all_cons, Bool.and_eq_true] at hn
      simp only [cIt1] at h
      split at h
      · rename_i e1; subst e1
        obtain ⟨z, y, h1, h2, rfl⟩ := opt2_eq h
        exact i_rng2 g1 (hm _ (by decide)) hn.1 hn.2.1 (hf _ _ h1) (hf _ _ h2)
      · split at h
        · rename_i e1; subst e1
          obtain ⟨ht, h⟩ := chkO_eq h
          obtain ⟨z, y, h1, h2, rfl⟩ := opt2_eq h
          obtain ⟨_, _, _, rfl⟩ := isTup_ok ht
          exact i_zip g1 (hm _ (by decide)) hn.1 hn.2.1 (hf _ _ h1) (hf _ _ h2)
        · cases h
    · simp [cIt1] at h
  · obtain ⟨z, h1, rfl⟩ := map_some h
    exact i_of (hf _ _ h1)
theorem nfs_ok {iter : Expr} (h : nfs iter = true) (env : Env) (x : Value) : foldedSetIterable iter env x = pure x := by
  cases iter <;> first | rfl | cases h
theorem locB_eq {x : Str} (h : locB sc x = true) : L2.Loc sc x := by
  unfold locB at h
  split at h <;> first | (rename_i e; first | exact .inl e | exact .inr e) | cases h
end
theorem nfg_ok {iter : Expr} (h : nfg iter = true) (env : Env) (x : Value) : genFold iter env x = pure x := by
  cases iter <;> first | rfl | cases h
theorem qN_blt (a : Bool) : qN a ∈ bltNames := by cases a <;> decide
theorem Kn.inner {C : Cf} {k : Nat} {ce : CE} (K : Kn C (k + 1) ce) (hg : ce.gen = true) : Kn C.inner k ce.dry where
  bl := K.bl
  fn := fun x j np h => by
    obtain ⟨f, fd, ps, kl, F, hk, r⟩ := K.fn x j np h
    rw [if_pos hg] at hk
    exact ⟨f, fd, ps, kl, ⟨F.len, F.run⟩, by show kl + 1 + (if false = true then 1 else 0) ≤ k; rw [if_neg (by decide)]; omega, r⟩
  cl := fun x c j np h => by
    obtain ⟨f, fd, ps, kl, M, F, hk, r⟩ := K.cl x c j np h
    rw [if_pos hg] at hk
    exact ⟨f, fd, ps, kl, M, ⟨F.len, F.run⟩, by show kl + 1 + (if false = true then 1 else 0) ≤ k; rw [if_neg (by decide)]; omega, r⟩
  gl := K.gl
  gk := fun h => by cases h
  fa := K.fa
  fb := K.fb
  ex := K.ex
  rs := fun c h => let r := K.rs c h; ⟨r.ex, r.kp, r.sb, r.ty⟩
theorem c_ok : ∀ (n : Nat) {C : Cf} {k : Nat} {ce : CE} (K : Kn C k ce), (∀ sc st e ie, cE n ce sc e = some ie → SE C k ce.N sc st e ie) ∧ (∀ sc st e ie, cT n ce sc e = some ie → STt C k ce.N sc st e ie) ∧
    (∀ sc st elt g scope pos ie, cC n ce sc elt g scope = some ie → SE C k ce.N sc st (.ListComp elt [g] scope pos) ie) ∧ (∀ sc st a elt g scope p pos gpos ie, cG n ce sc a elt g scope = some ie → SE C k ce.N sc st (.Call (.Name (qN a) p) [.GeneratorExp elt [g] scope gpos] [] pos) ie) ∧ (∀ sc st es ies, cCs n ce sc es = some ies → SCs C k ce.N sc st es ies)
  | 0, _, _, _, _ => ⟨fun _ _ _ _ h => by simp [cE] at h, fun _ _ _ _ h => by simp [cT] at h, fun _ _ _ _ _ _ _ h => by simp [cC] at h, fun _ _ _ _ _ _ _ _ _ _ h => by simp [cG] at h, fun _ _ _ _ h => by simp [cCs] at h⟩
  | n + 1, C, k, ce, K => by
    obtain ⟨iE, iT, iC, iG, iS⟩ := c_ok n K
    refine ⟨fun sc st e ie h => ?_, fun sc st e ie h => ?_, fun sc st elt g scope pos ie h => ?_, fun sc st a elt g scope p pos gpos ie h => ?_, fun sc st es ies h => ?_⟩
    · cases e with
      | Constant c _ _ =>
        simp only [cE] at h
        split at h <;> first | (cases h; done) | skip
        all_goals (cases h)
        · exact s_non
        · exact s_bl
        · exact s_int
        · exact s_str
      | Name x _ =>
        simp only [cE] at h
        split at h
        · rename_i hv
          obtain ⟨hd, h⟩ := chkO_eq h
          obtain ⟨i, h1, rfl⟩ := map_some h
          unfold ndB at hd
          simp only [Bool.and_eq_true, Bool.not_eq_true'] at hd
          exact s_var (idx_eq h1) (visB_eq hv) hd.1 hd.2
        · obtain ⟨hg, h⟩ := chkO_eq h
          obtain ⟨j, h1, rfl⟩ := map_some h
          obtain ⟨v, u, m, r, o⟩ := K.gl x j h1
          obtain ⟨g1, g2, _⟩ := glB_eq hg
          exact s_gl g1 m r (fun H Fz => o H Fz) g2
      | BinOp a op b _ =>
        simp only [cE] at h
        obtain ⟨o, p, h1, h2, rfl⟩ := opt2_eq h
        obtain ⟨x, y, h3, h4, rfl⟩ := opt2_eq h2
        have ha := iE sc st _ _ h3
        have hb := iE sc st _ _ h4
        cases op <;> first | (cases h1; done) | skip
        all_goals (cases h1)
        · exact s_add ha hb
        · exact s_sub ha hb
        · exact s_mul ha hb
        · exact s_mod ha hb
        · exact s_pow ha hb
        · exact s_fdiv ha hb
      | UnaryOp op a _ =>
        simp only [cE] at h
        split at h
        · obtain ⟨x, h1, rfl⟩ := map_some h
          exact s_not (iE sc st _ _ h1)
        · obtain ⟨x, h1, rfl⟩ := map_some h
          exact s_neg (iE sc st _ _ h1)
        · cases h
      | BoolOp op es _ => simp only [cE] at h; exact cBool_ok (iE sc st) h
      | IfExp c a b _ =>
        simp only [cE] at h
        obtain ⟨x, p, h1, h2, rfl⟩ := opt2_eq h
        obtain ⟨y, z, h3, h4, rfl⟩ := opt2_eq h2
        exact s_ife (iT sc st _ _ h1) (iE sc st _ _ h3) (iE sc st _ _ h4)
      | Compare a ops es _ => simp only [cE] at h; exact (cCmp_ok (iE sc st) h).1
      | Tuple es _ _ =>
        simp only [cE] at h
        obtain ⟨hn, h⟩ := chkO_eq h
        obtain ⟨x, h1, rfl⟩ := map_some h
        exact s_tup (cList_ok (iE sc st) h1 hn)
      | List es _ =>
        simp only [cE] at h
        split at h
        · rename_i a es' ha
          unfold isStl at ha
          split at ha
          · cases ha
            obtain ⟨hn, h⟩ := chkO_eq h
            obtain ⟨x, y, h1, h2, rfl⟩ := opt2_eq h
            exact s_stl (iE sc st _ _ h1) (cList_ok (iE sc st) h2 hn)
          · cases ha
        obtain ⟨hn, h⟩ := chkO_eq h
        obtain ⟨x, h1, rfl⟩ := map_some h
        exact s_lst (cList_ok (iE sc st) h1 hn)
      | Subscript a b _ => simp only [cE] at h; exact cSub_ok (iE sc st) h
      | Attribute a x _ =>
        simp only [cE] at h
        obtain ⟨hn, h⟩ := chkO_eq h
        obtain ⟨z, h1, rfl⟩ := map_some h
        rw [Bool.and_eq_true] at hn
        exact s_fld K.fa (K.fb x (of_decide_eq_true hn.2)) (fun env => npl_base hn.1 _ _ _) (iE sc st _ _ h1)
      | Call f es kws _ =>
        cases f <;> first | (simp [cE] at h; done) | skip
        cases kws <;> first | (simp [cE] at h; done) | skip
        simp only [cE] at h
        split at h
        · rename_i elt gs scope hes
          unfold isGen at hes
          split at hes
          · cases hes
            split at h
            · rename_i g a hg ha
              have e1 := one_eq hg
              subst e1
              unfold qB at ha
              split at ha
              · rename_i e1; subst e1; cases ha
                exact iG sc st true _ _ _ _ _ _ _ h
              · split at ha
                · rename_i e1; subst e1; cases ha
                  exact iG sc st false _ _ _ _ _ _ _ h
                · cases ha
            · cases h
          · cases hes
        · exact cCall_ok K (iE sc st) h
      | ListComp elt gs scope _ =>
        simp only [cE] at h
        split at h
        · rename_i g hg
          have e1 : gs = [g] := by
            unfold one at hg
            split at hg
            · cases hg; rfl
            · cases hg
          subst e1
          exact iC sc st _ _ _ _ _ h
        · cases h
      | _ => simp [cE] at h
    · have gen : ∀ e ie, chkO (tst e) (cE n ce sc e) = some ie → STt C k ce.N sc st e ie := fun e ie h => by
        obtain ⟨ht, h⟩ := chkO_eq h
        exact st_plain (iE sc st _ _ h) ht
      cases e <;> first | (simp only [cT] at h; exact gen _ _ h) | skip
      · simp only [cT] at h
        exact sw_pt (cBoolT_ok (iT sc st) h)
      · rename_i op a _
        cases op <;> first | (simp only [cT] at h; exact gen _ _ h) | skip
        simp only [cT] at h
        obtain ⟨x, h1, rfl⟩ := map_some h
        exact st_not (iT sc st _ _ h1)
      · simp only [cT] at h
        exact (cCmp_ok (iE sc st) h).2
    · simp only [cC] at h
      obtain ⟨h1, h2⟩ := chkO_eq h
      simp only [Bool.and_eq_true] at h1
      obtain ⟨⟨⟨a1, a2⟩, a3⟩, a4⟩ := h1
      cases hq : (opt2 (cIt (cE n ce sc) ce sc g.target g.iter) (opt2 (cTg ce.N ((ownOf ce.N scope).map (·.1)) g.target) (opt2 (cCs n ce (relS scope sc) g.ifs) (cE n ce (relS scope sc) elt) fun x y => (x, y)) fun x y => (x, y)) fun it p => (it, p)) with
      | none => rw [hq] at h2; cases h2
      | some q =>
        rw [hq, Option.bind_some] at h2
        obtain ⟨hw, h3⟩ := chkO_eq h2
        obtain ⟨it, p, q1, q2, rfl⟩ := opt2_eq hq
        obtain ⟨t, p, q3, q4, rfl⟩ := opt2_eq q2
        obtain ⟨cs, ie', q5, q6, rfl⟩ := opt2_eq q4
        cases h3
        obtain ⟨tg, iter, ifs, asy⟩ := g
        have e0 : asy = 0 := of_decide_eq_true a1
        subst e0
        rw [List.all_eq_true] at hw
        refine s_comp (st' := (ownOf ce.N scope).map (·.1)) (fun i hi => of_decide_eq_true (hw i hi)) a3 (nfs_ok a2) (fun x hx => ?_) (cIt_ok K (iE sc st) q1) (cTg_ok q3) (iS _ _ _ _ q5) (iE _ _ _ _ q6)
        unfold ownC at a4
        rw [List.all_eq_true] at a4
        have z := a4 x hx
        rw [Bool.and_eq_true, Bool.or_eq_true] at z
        exact ⟨locB_eq z.1, z.2.imp id fun w => of_decide_eq_true w⟩
    · simp only [cG] at h
      obtain ⟨h1, h2⟩ := chkO_eq h
      simp only [Bool.and_eq_true] at h1
      obtain ⟨⟨⟨⟨⟨a1, a2⟩, a3⟩, a4⟩, a5⟩, a6⟩ := h1
      obtain ⟨hk, cc, P, hcode⟩ := K.gk a1
      obtain ⟨j, rfl⟩ : ∃ j, k = j + 1 := ⟨k - 1, by omega⟩
      obtain ⟨iE', _⟩ := c_ok n (K.inner a1)
      cases hq : (opt2 (cIt (cE n ce sc) ce sc g.target g.iter) (opt2 (cTg ce.N ((ownOf ce.N scope).map (·.1)) g.target) (cE n ce.dry scope elt) fun x y => (x, y)) fun it p => (it, p)) with
      | none => rw [hq] at h2; cases h2
      | some q =>
        rw [hq, Option.bind_some] at h2
        obtain ⟨hw, h3⟩ := chkO_eq h2
        obtain ⟨it, p, q1, q2, rfl⟩ := opt2_eq hq
        obtain ⟨t, ie', q3, q4, rfl⟩ := opt2_eq q2
        cases h3
        obtain ⟨tg, iter, ifs, asy⟩ := g
        have e0 : asy = 0 := of_decide_eq_true a3
        subst e0
        have e1 : ifs = [] := by cases ifs with | nil => rfl | cons _ _ => cases a5
        subst e1
        rw [List.all_eq_true] at hw
        unfold genC at a6
        simp only [Bool.and_eq_true, decide_eq_true_eq] at a6
        obtain ⟨⟨⟨⟨b1, b2⟩, b3⟩, b4⟩, b5⟩ := a6
        rw [List.all_eq_true] at b4 b5
        refine s_gen (st' := (ownOf ce.N scope).map (·.1)) hcode (glB_eq a2).1 (K.bl _ (qN_blt a)) (fun i hi => of_decide_eq_true (hw i hi)) b1 b2 b3 (fun y hy => of_decide_eq_true (b4 y hy)) (nfg_ok a4) (fun x hx => ?_) (cIt_ok K (iE sc st) q1) (cTg_ok q3) (iE' _ _ _ _ q4)
        obtain ⟨p, hp, rfl⟩ := List.mem_map.mp hx
        exact of_decide_eq_true (b5 p hp)
    · match es, h with
      | [], h => simp only [cCs, Option.some.injEq] at h; subst h; exact c_nil
      | [c], h =>
        simp only [cCs] at h
        obtain ⟨x, h1, rfl⟩ := map_some h
        exact c_one (iT sc st _ _ h1)
      | _ :: _ :: _, h => simp [cCs] at h
end Pu

set_option Elab.async false
set_option linter.all false
set_option maxRecDepth 100000
set_option maxHeartbeats 1000000
/-! Pu21: from a text to the language: statements. -/
namespace Pu
open PySem PySem.Spec PyProof.Rows L2
def cP (f : Expr → Option Ex) (ce : CE) (sc : Scope) : Expr → Option (Nat × List Pt)
  | .Name x _ => chkO (visB sc x && ndB x) ((idx ce.N x).map fun i => (i, []))
  | .Subscript o b _ => chkO (nsl b) (opt2 (cP f ce sc o) (f b) fun q z => (q.1, q.2 ++ [.ix z]))
  | .Attribute o x _ => chkO (npl o && decide (x ∈ ce.fl)) ((cP f ce sc o).map fun q => (q.1, q.2 ++ [.fl x]))
  | _ => none
def out (pi is : List Nat) : Bool := is.all fun i => decide (i ∉ pi)
/-- target = e -/
def cAsg (f : Expr → Option Ex) (ce : CE) (sc : Scope) (st : List Str) (pi : List Nat) (t e : Expr) : Option Sm := match t with
  | .Name x _ => chkO (nlc e && decide (x ∈ st)) (opt2 (idx ce.N x) (f e) fun i z => (i, z)) |>.bind fun q => chkO (decide (q.1 ∉ pi)) (some (.set (.nm q.1) q.2))
  | .Tuple es _ _ => chkO (nlc e && ntp e) (opt2 (cNms ce.N st es) (f e) fun is z => (is, z)) |>.bind fun q => chkO (out pi q.1) (some (.set (.tp q.1) q.2))
  | .Subscript o b _ => chkO (nlc e && ntp e && nsl b) (opt2 (cP f ce sc o) (opt2 (f b) (f e) fun x y => (x, y)) fun q p => .setI q.1 q.2 p.1 p.2)
  | .Attribute o x _ => chkO (nlc e && decide (x ∈ ce.fl)) (opt2 (cP f ce sc o) (f e) fun q z => .setF q.1 q.2 x z)
  | _ => none
/-- a, b = e, e' -/
def isPar : Expr → Expr → Option (Str × Nat × Str × Nat × Expr × Expr)
  | .Tuple [.Name x px, .Name y py] _ _, .Tuple [a, b] _ _ => some (x, px.line, y, py.line, a, b)
  | _, _ => none
def cPar (f : Expr → Option Ex) (ce : CE) (sc : Scope) (pi : List Nat) (x : Str) (l : Nat) (y : Str) (l2 : Nat) (a b : Expr) : Option Sm :=
  chkO (decide (sc.kind = .function) && decide (sc.names.lookup x = some .local) && decide (sc.names.lookup y = some .local) && (l == l2) && !(x == y) && nst a && nst b && !([a, b].all (foldedForSure 8)) && !([a, b].all (constantsAlone 8)))
    ((opt2 (opt2 (idx ce.N x) (idx ce.N y) fun i j => (i, j)) (opt2 (f a) (f b) fun u v => (u, v)) fun p q => (p, q)).bind fun q => chkO (decide (q.1.1 ≠ q.1.2) && decide (q.1.1 ∉ pi) && decide (q.1.2 ∉ pi)) (some (.par q.1.1 q.1.2 q.2.1 q.2.2)))
/-- name = [..] on one line -/
def cAsgC (n : Nat) (ce : CE) (sc : Scope) (st : List Str) (pi : List Nat) (x : Str) (l : Nat) (elt : Expr) (gs : List Comprehension) (scope : Scope) (l2 : Nat) : Option Sm := match one gs with
  | some g => if (decide (sc.names.lookup x = some .cell) || !(l == l2)) = true then chkO (decide (x ∈ st)) ((opt2 (idx ce.N x) (cC n ce sc elt g scope) fun i z => (i, z)).bind fun q => chkO (decide (q.1 ∉ pi)) (some (.set (.nm q.1) q.2)))
    else chkO (decide (sc.names.lookup x = some .local) && decide (sc.kind = .function) && (l == l2) && !(scope.names.any fun (n, k) => n == x && (k == .local || k == .cell))) ((opt2 (idx ce.N x) (cC n ce sc elt g scope) fun i z => (i, z)).bind fun q => chkO (decide (q.1 ∉ pi)) (some (.set (.nm q.1) q.2)))
  | none => none
def cMeth (f : Expr → Option Ex) (ce : CE) (sc : Scope) (o : Expr) (m : Str) (es : List Expr) (l l2 : Nat) : Option Sm := match one es with
  | some e => chkO (npl o && nst e && (l == l2)) (if m = "append" then opt2 (cP f ce sc o) (f e) fun q z => .app q.1 q.2 z else if m = "pop" then opt2 (cP f ce sc o) (f e) fun q z => .popd q.1 q.2 [z] else none)
  | none => none
def isMeth : Expr → Option (Expr × Str × List Expr × Nat × Nat)
  | .Call (.Attribute o m apos) es [] cpos => some (o, m, es, apos.endLine, cpos.line)
  | _ => none
def isDoc : Expr → Bool
  | .Constant (.str _) _ _ => true
  | _ => false
/-- name.append(o.pop(k)) -/
def cAppPop (f : Expr → Option Ex) (ce : CE) (sc : Scope) : Expr → Option Sm
  | .Call (.Attribute (.Name x _) m apos) [.Call (.Attribute o m2 ap2) [k] [] cp2] [] cpos => chkO (decide (m = "append") && decide (m2 = "pop") && visB sc x && ndB x && npl o && nst k && (apos.endLine == cpos.line) && (ap2.endLine == cp2.line))
    (opt2 (idx ce.N x) (opt2 (cP f ce sc o) (f k) fun q z => Xe.pop q.1 q.2 [z]) fun i xe => .appX i xe)
  | _ => none
def cExp0 (f : Expr → Option Ex) (ce : CE) (sc : Scope) (e : Expr) : Option Sm := match isMeth e with
  | some (o, m, es, l, l2) => cMeth f ce sc o m es l l2
  | none => if isDoc e = true then some .skip else chkO (nlc e) ((f e).map .exp)
def cExp (f : Expr → Option Ex) (ce : CE) (sc : Scope) (e : Expr) : Option Sm := match cAppPop f ce sc e with
  | some m => some m
  | none => cExp0 f ce sc e
def cRet (f : Expr → Option Ex) (ce : CE) (sc : Scope) (pi : List Nat) : Option Expr → Option Sm
  | none => some .rtn
  | some (.Name x p) => if visB sc x = true then (chkO (ndB x) (idx ce.N x)).bind fun i => chkO (decide (i ∉ pi)) (some (.rtv i)) else (f (.Name x p)).map .ret
  | some e => (f e).map .ret
def isLC : Expr → Option (Expr × List Comprehension × Scope × Nat)
  | .ListComp elt gs scope p => some (elt, gs, scope, p.line)
  | _ => none
def isNm : Expr → Option (Str × Nat)
  | .Name x p => some (x, p.line)
  | _ => none
def isRais : Option Expr → Option Expr → Option Str
  | some (.Call (.Name x _) [.Constant (.str _) _ _] [] _), none => some x
  | _, _ => none
def cRais (ce : CE) (sc : Scope) (e c : Option Expr) : Sm := match isRais e c with
  | some x => (match ce.es.lookup x with
    | some (j, _, _) => if (glB sc x && decide (j ∈ ce.rs)) = true then .rais j else .nev
    | none => .nev)
  | none => .nev
def isTry : List ExceptHandler → List Stmt → List Stmt → Option (Str × Str × Expr)
  | [.ExceptHandler (some (.Name x _)) (some n) [.Return (some e) _] _], [], [] => some (x, n, e)
  | _, _, _ => none
/-- an expression of the suite; the exception's name is m, in slot i -/
def cX : Nat → CE → Scope → Nat → Str → Expr → Option Xb
  | 0, _, _, _, _, _ => none
  | _ + 1, ce, sc, _, _, .Name y _ => chkO (visB sc y && ndB y) ((idx ce.N y).map .var)
  | _ + 1, _, _, _, _, .Constant (.bool b) _ _ => some (.bl b)
  | n + 1, ce, sc, i, m, .UnaryOp .Not a _ => (cX n ce sc i m a).map .not
  | n + 1, ce, sc, i, m, .BoolOp .And [a] _ => cX n ce sc i m a
  | n + 1, ce, sc, i, m, .BoolOp .And (a :: b :: r) p => opt2 (cX n ce sc i m a) (cX n ce sc i m (.BoolOp .And (b :: r) p)) .and
  | _ + 1, ce, sc, i, m, .Call (.Name f _) [.Name u _, .Name y _] [] _ => chkO (decide (f = "isinstance") && glB sc f && decide (u = m) && visB sc m && ndB m && decide (idx ce.N m = some i) && glB sc y) (match ce.es.lookup y with
    | some (_, ys, ns) => some (.isE ys ns)
    | none => none)
  | _ + 1, _, _, _, _, _ => none
mutual
def cS : Nat → CE → Scope → List Str → List Nat → Stmt → Option Sm
  | 0, _, _, _, _, _ => none
  | n + 1, ce, sc, st, pi, .Assign ts e _ => match one ts with
    | some t => (match isLC e, isNm t with
      | some (elt, gs, scope, l2), some (x, l) => cAsgC n ce sc st pi x l elt gs scope l2
      | _, _ => match isPar t e with
        | some (x, l, y, l2, a, b) => cPar (cE n ce sc) ce sc pi x l y l2 a b
        | none => cAsg (cE n ce sc) ce sc st pi t e)
    | none => none
  | n + 1, ce, sc, st, pi, .Expr e _ => cExp (cE n ce sc) ce sc e
  | n + 1, ce, sc, st, pi, .Return e _ => cRet (cE n ce sc) ce sc pi e
  | n + 1, ce, sc, st, pi, .If c a b _ => opt2 (cT n ce sc c) (opt2 (cB n ce sc st pi a) (cB n ce sc st pi b) fun x y => (x, y)) fun c p => .ite c p.1 p.2
  | n + 1, ce, sc, st, pi, .For t it b els _ => (chkO (els.isEmpty && nfs it) (opt2 (cTg ce.N st t) (opt2 (cIt (cE n ce sc) ce sc t it) (cB n ce sc st pi b) fun x y => (x, y)) fun t p => (t, p))).bind fun q => chkO (out pi (tgIx q.1)) (some (.fr q.1 q.2.1 q.2.2))
  | n + 1, ce, sc, st, pi, .Pass _ => some .skip
  | n + 1, ce, sc, st, pi, .Break _ => some .brk
  | n + 1, ce, sc, st, pi, .Continue _ => some .cnt
  | n + 1, ce, sc, st, pi, .Raise e c _ => some (cRais ce sc e c)
  | n + 1, ce, sc, st, pi, .Try b hs els fin _ => match isTry hs els fin with
    | some (x, m, e) => (match ce.es.lookup x, idx ce.N m with
      | some (_, ys, _), some i => chkO (glB sc x && decide (sc.names.lookup m = some .local) && decide (i ∉ pi)) (opt2 (cB n ce sc st pi b) (cX n ce sc i m e) fun mb xb => .tr mb i ys xb)
      | _, _ => none)
    | none => none
  | _ + 1, _, _, _, _, _ => none
def cB : Nat → CE → Scope → List Str → List Nat → List Stmt → Option (List Sm)
  | 0, _, _, _, _, _ => none
  | n + 1, ce, sc, st, pi, [] => some []
  | n + 1, ce, sc, st, pi, s :: ss => opt2 (cS n ce sc st pi s) (cB n ce sc st pi ss) List.cons
end
section
variable {C : Cf} {k : Nat} {ce : CE} {sc : Scope} {st : List Str} {pi : List Nat} {f : Expr → Option Ex} {pos p : Pos}
theorem cP_ok (K : Kn C k ce) (hf : ∀ e ie, f e = some ie → SE C k ce.N sc st e ie) : ∀ {o : Expr} {q : Nat × List Pt}, cP f ce sc o = some q → SP C k ce.N sc st o q.1 q.2 := by
  intro o
  induction o using cP.induct with
  | case1 x _ =>
    intro q h
    simp only [cP] at h
    obtain ⟨h1, h⟩ := chkO_eq h
    obtain ⟨i, h2, rfl⟩ := map_some h
    unfold ndB at h1
    simp only [Bool.and_eq_true, Bool.not_eq_true'] at h1
    exact p_nm (idx_eq h2) (visB_eq h1.1) h1.2.1 h1.2.2
  | case2 o b _ ih =>
    intro q h
    simp only [cP] at h
    obtain ⟨h1, h⟩ := chkO_eq h
    obtain ⟨q', z, h2, h3, rfl⟩ := opt2_eq h
    exact p_ix h1 (ih h2) (hf _ _ h3)
  | case3 o x _ ih =>
    intro q h
    simp only [cP] at h
    obtain ⟨h1, h⟩ := chkO_eq h
    obtain ⟨q', h2, rfl⟩ := map_some h
    rw [Bool.and_eq_true] at h1
    exact p_fl K.fa (K.fb x (of_decide_eq_true h1.2)) h1.1 (ih h2)
  | case4 o h1 h2 h3 =>
    intro q h
    rw [cP] at h
    · cases h
    all_goals assumption
theorem bindO {α β : Type} {o : Option α} {g : α → Option β} {z : β} (h : o.bind g = some z) : ∃ x, o = some x ∧ g x = some z := by
  cases o with
  | none => cases h
  | some x => exact ⟨x, rfl, h⟩
theorem out_ok {is : List Nat} (h : out pi is = true) : ∀ i ∈ is, i ∉ pi := fun i hi => by
  unfold out at h
  rw [List.all_eq_true] at h
  exact of_decide_eq_true (h i hi)
theorem cAsg_ok (K : Kn C k ce) (hf : ∀ e ie, f e = some ie → SE C k ce.N sc st e ie) {t e : Expr} {m : Sm} (h : cAsg f ce sc st pi t e = some m) : S1 C k ce.N sc st pi (.Assign [t] e pos) m := by
  cases t <;> first | (simp [cAsg] at h; done) | skip
  all_goals simp only [cAsg] at h
  all_goals first
    | (obtain ⟨q, h1, h2⟩ := bindO h
       obtain ⟨hp, h2⟩ := chkO_eq h2
       cases h2
       obtain ⟨c, h1⟩ := chkO_eq h1
       rw [Bool.and_eq_true] at c
       obtain ⟨i, z, a1, a2, rfl⟩ := opt2_eq h1
       first
         | exact t_setN c.1 (idx_eq a1) (of_decide_eq_true c.2) (of_decide_eq_true hp) (hf _ _ a2)
         | exact t_set c.1 c.2 (out_ok hp) (fun _ => rfl) (hf _ _ a2) (g_tp (cNms_ok a1)))
    | (obtain ⟨c, h1⟩ := chkO_eq h
       obtain ⟨q, p, a1, a2, rfl⟩ := opt2_eq h1
       obtain ⟨x, y, a3, a4, rfl⟩ := opt2_eq a2
       simp only [Bool.and_eq_true] at c
       exact t_setI c.1.1 c.1.2 c.2 (cP_ok K hf a1) (hf _ _ a3) (hf _ _ a4))
    | (obtain ⟨c, h1⟩ := chkO_eq h
       obtain ⟨q, p, a1, a2, rfl⟩ := opt2_eq h1
       rw [Bool.and_eq_true] at c
       exact t_setF K.fa (K.fb _ (of_decide_eq_true c.2)) c.1 (cP_ok K hf a1) (hf _ _ a2))
theorem cPar_ok (hf : ∀ e ie, f e = some ie → SE C k ce.N sc st e ie) {x y : Str} {px py pt pt2 : Pos} {kt k2 : Nat} {a b : Expr} {m : Sm} (h : cPar f ce sc pi x px.line y py.line a b = some m) : S1 C k ce.N sc st pi (.Assign [.Tuple [.Name x px, .Name y py] kt pt] (.Tuple [a, b] k2 pt2) pos) m := by
  obtain ⟨c, h1⟩ := chkO_eq h
  simp only [Bool.and_eq_true, decide_eq_true_eq, Bool.not_eq_true'] at c
  obtain ⟨⟨⟨⟨⟨⟨⟨⟨c1, c2⟩, c3⟩, c4⟩, c5⟩, c6⟩, c7⟩, c8⟩, c9⟩ := c
  obtain ⟨q, h2, h3⟩ := bindO h1
  obtain ⟨d, h3⟩ := chkO_eq h3
  simp only [Bool.and_eq_true, decide_eq_true_eq] at d
  cases h3
  obtain ⟨p, r, g1, g2, rfl⟩ := opt2_eq h2
  obtain ⟨i, j, g3, g4, rfl⟩ := opt2_eq g1
  obtain ⟨u, v, g5, g6, rfl⟩ := opt2_eq g2
  exact t_par (idx_eq g3) (idx_eq g4) d.1.1 d.1.2 d.2 c1 c2 c3 c4 c5 c6 c7 c8 c9 (hf _ _ g5) (hf _ _ g6)
theorem cAsgC_ok (K : Kn C k ce) {n : Nat} {x : Str} {elt : Expr} {gs : List Comprehension} {scope : Scope} {p2 : Pos} {m : Sm} (h : cAsgC n ce sc st pi x p.line elt gs scope p2.line = some m) : S1 C k ce.N sc st pi (.Assign [.Name x p] (.ListComp elt gs scope p2) pos) m := by
  unfold cAsgC at h
  split at h
  · rename_i g hg
    have e1 := one_eq hg
    subst e1
    split at h
    · rename_i cnd
      obtain ⟨c, h⟩ := chkO_eq h
      obtain ⟨q, h1, h2⟩ := bindO h
      obtain ⟨hp, h2⟩ := chkO_eq h2
      cases h2
      obtain ⟨i, z, a1, a2, rfl⟩ := opt2_eq h1
      obtain ⟨iE, iT, iC, iG, iS⟩ := c_ok n K
      refine t_setL ?_ (idx_eq a1) (of_decide_eq_true c) (of_decide_eq_true hp) (iC _ _ _ _ _ _ _ a2)
      rw [Bool.or_eq_true, decide_eq_true_eq, Bool.not_eq_true'] at cnd
      exact cnd
    obtain ⟨c, h⟩ := chkO_eq h
    simp only [Bool.and_eq_true, decide_eq_true_eq, Bool.not_eq_true'] at c
    obtain ⟨⟨⟨c1, c2⟩, c3⟩, c4⟩ := c
    obtain ⟨q, h1, h2⟩ := bindO h
    obtain ⟨hp, h2⟩ := chkO_eq h2
    cases h2
    obtain ⟨i, z, a1, a2, rfl⟩ := opt2_eq h1
    cases n with
    | zero => simp [cC] at a2
    | succ n =>
      obtain ⟨iE, iT, iC, iG, iS⟩ := c_ok n K
      simp only [cC] at a2
      obtain ⟨b1, b2⟩ := chkO_eq a2
      simp only [Bool.and_eq_true] at b1
      obtain ⟨⟨⟨d1, d2⟩, d3⟩, d4⟩ := b1
      obtain ⟨q, hq, b3⟩ := bindO b2
      obtain ⟨hw, b4⟩ := chkO_eq b3
      obtain ⟨it, p', q1, q2, rfl⟩ := opt2_eq hq
      obtain ⟨t, p', q3, q4, rfl⟩ := opt2_eq q2
      obtain ⟨cs, ie', q5, q6, rfl⟩ := opt2_eq q4
      cases b4
      obtain ⟨tg, iter, ifs, asy⟩ := g
      have e0 : asy = 0 := of_decide_eq_true d1
      subst e0
      rw [List.all_eq_true] at hw
      refine t_setC (st' := (ownOf ce.N scope).map (·.1)) (idx_eq a1) (of_decide_eq_true hp) c1 c2 c3 c4 (fun i hi => of_decide_eq_true (hw i hi)) d3 (nfs_ok d2) (fun x hx => ?_) (cIt_ok K (iE sc st) q1) (cTg_ok q3) (iS _ _ _ _ q5) (iE _ _ _ _ q6)
      unfold ownC at d4
      rw [List.all_eq_true] at d4
      have z := d4 x hx
      rw [Bool.and_eq_true, Bool.or_eq_true] at z
      exact ⟨locB_eq z.1, z.2.imp id fun w => of_decide_eq_true w⟩
  · cases h
theorem cAppPop_ok (K : Kn C k ce) (hf : ∀ e ie, f e = some ie → SE C k ce.N sc st e ie) {e : Expr} {m : Sm} (h : cAppPop f ce sc e = some m) : S1 C k ce.N sc st pi (.Expr e pos) m := by
  unfold cAppPop at h
  split at h
  · obtain ⟨c, h2⟩ := chkO_eq h
    clear h
    simp only [Bool.and_eq_true, decide_eq_true_eq] at c
    obtain ⟨⟨⟨⟨⟨⟨⟨rfl, rfl⟩, c3⟩, c4⟩, c5⟩, c6⟩, c7⟩, c8⟩ := c
    obtain ⟨i, xe, a1, a2, rfl⟩ := opt2_eq h2
    obtain ⟨q, z, a3, a4, rfl⟩ := opt2_eq a2
    unfold ndB at c4
    simp only [Bool.and_eq_true, Bool.not_eq_true'] at c4
    exact t_appX (idx_eq a1) (visB_eq c3) c4.1 c4.2 rfl rfl c7 (e_pop c5 c6 c8 (cP_ok K hf a3) (hf _ _ a4))
  · cases h
theorem cExp0_ok (K : Kn C k ce) (hf : ∀ e ie, f e = some ie → SE C k ce.N sc st e ie) {e : Expr} {m : Sm} (h : cExp0 f ce sc e = some m) : S1 C k ce.N sc st pi (.Expr e pos) m := by
  unfold cExp0 at h
  split at h
  · rename_i o mm es l l2 hm
    unfold isMeth at hm
    split at hm
    · cases hm
      unfold cMeth at h
      split at h
      · rename_i a hes
        have e1 := one_eq hes
        subst e1
        obtain ⟨c, h1⟩ := chkO_eq h
        simp only [Bool.and_eq_true] at c
        clear h
        split at h1
        · rename_i em; subst em
          obtain ⟨q, z, a1, a2, rfl⟩ := opt2_eq h1
          exact t_app c.1.1 c.1.2 rfl c.2 (cP_ok K hf a1) (hf _ _ a2)
        · split at h1
          · rename_i em; subst em
            obtain ⟨q, z, a1, a2, rfl⟩ := opt2_eq h1
            exact t_pop1 c.1.1 c.1.2 rfl c.2 (cP_ok K hf a1) (hf _ _ a2)
          · cases h1
      · cases h
    · cases hm
  · split at h
    · rename_i hd
      unfold isDoc at hd
      split at hd
      · cases h; exact t_doc
      · cases hd
    · obtain ⟨hn, h⟩ := chkO_eq h
      obtain ⟨z, h1, rfl⟩ := map_some h
      exact t_exp hn (hf _ _ h1)
theorem cExp_ok (K : Kn C k ce) (hf : ∀ e ie, f e = some ie → SE C k ce.N sc st e ie) {e : Expr} {m : Sm} (h : cExp f ce sc e = some m) : S1 C k ce.N sc st pi (.Expr e pos) m := by
  unfold cExp at h
  split at h
  · rename_i m' hm
    cases h
    exact cAppPop_ok K hf hm
  · exact cExp0_ok K hf h
theorem cRet_ok (hf : ∀ e ie, f e = some ie → SE C k ce.N sc st e ie) {e : Option Expr} {m : Sm} (h : cRet f ce sc pi e = some m) : S1 C k ce.N sc st pi (.Return e pos) m := by
  unfold cRet at h
  split at h
  · cases h; exact t_rtn
  · split at h
    · rename_i hv
      obtain ⟨i, h1, h2⟩ := bindO h
      obtain ⟨hp, h2⟩ := chkO_eq h2
      cases h2
      obtain ⟨hd, h1⟩ := chkO_eq h1
      unfold ndB at hd
      simp only [Bool.and_eq_true, Bool.not_eq_true'] at hd
      exact t_rtv (idx_eq h1) (visB_eq hv) (of_decide_eq_true hp) hd.1 hd.2
    · obtain ⟨z, h1, rfl⟩ := map_some h
      exact t_ret (hf _ _ h1)
  · obtain ⟨z, h1, rfl⟩ := map_some h
    exact t_ret (hf _ _ h1)
end
theorem cRais_ok {C : Cf} {k : Nat} {ce : CE} {sc : Scope} {st : List Str} {pi : List Nat} {pos : Pos} (K : Kn C k ce) {e c : Option Expr} : S1 C k ce.N sc st pi (.Raise e c pos) (cRais ce sc e c) := by
  unfold cRais
  split
  · rename_i x hr
    unfold isRais at hr
    split at hr
    · cases hr
      split
      · rename_i j ys ns hl
        split
        · rename_i hc
          rw [Bool.and_eq_true, decide_eq_true_eq] at hc
          obtain ⟨g1, g2, _⟩ := glB_eq hc.1
          exact t_rais g1 (K.ex _ _ _ _ hl).1 g2 (K.rs _ hc.2)
        · exact t_nev
      · exact t_nev
    · cases hr
  · exact t_nev
theorem cX_ok {C : Cf} {k : Nat} {ce : CE} {sc : Scope} {i : Nat} {m : Str} (K : Kn C k ce) : ∀ (n : Nat) {e : Expr} {xb : Xb}, cX n ce sc i m e = some xb → SX C ce.N sc i e xb := by
  intro n e
  induction n, ce, sc, i, m, e using cX.induct with
  | case1 => intro xb h; rw [cX] at h; cases h
  | case2 _ ce sc _ _ y _ =>
    intro xb h
    rw [cX] at h
    obtain ⟨c, h⟩ := chkO_eq h
    obtain ⟨j, h1, rfl⟩ := map_some h
    unfold ndB at c
    simp only [Bool.and_eq_true, Bool.not_eq_true'] at c
    exact x_var (idx_eq h1) (visB_eq c.1) c.2.1 c.2.2
  | case3 => intro xb h; rw [cX] at h; cases h; exact x_bl
  | case4 n ce sc i m a _ ih =>
    intro xb h
    rw [cX] at h
    obtain ⟨x, h1, rfl⟩ := map_some h
    exact x_not (ih K h1)
  | case5 n ce sc i m a _ ih =>
    intro xb h
    rw [cX] at h
    exact x_one (ih K h)
  | case6 n ce sc i m a b r p ih1 ih2 =>
    intro xb h
    rw [cX] at h
    obtain ⟨x, y, h1, h2, rfl⟩ := opt2_eq h
    exact x_and (ih1 K h1) (ih2 K h2)
  | case7 _ ce sc i m f _ u _ y _ _ =>
    intro xb h
    rw [cX] at h
    obtain ⟨c, h2⟩ := chkO_eq h
    clear h
    simp only [Bool.and_eq_true, decide_eq_true_eq] at c
    obtain ⟨⟨⟨⟨⟨⟨rfl, c2⟩, rfl⟩, c4⟩, c5⟩, c6⟩, c7⟩ := c
    unfold ndB at c5
    simp only [Bool.and_eq_true, Bool.not_eq_true'] at c5
    split at h2
    · rename_i j ys ns hl
      cases h2
      obtain ⟨z1, z2, z3, z4, z5⟩ := K.ex _ _ _ _ hl
      obtain ⟨g1, g2, _⟩ := glB_eq c7
      exact x_isE (glB_eq c2).1 (K.bl _ (by decide)) (idx_eq c6) (visB_eq c4) c5.1 c5.2 g1 z1 g2 z2 z3 z5
    · cases h2
  | case8 => intro xb h; rw [cX] at h <;> first | (cases h; done) | assumption
theorem b_ok {C : Cf} {k : Nat} {ce : CE} (K : Kn C k ce) : ∀ n, (∀ sc st pi s m, cS n ce sc st pi s = some m → S1 C k ce.N sc st pi s m) ∧ (∀ sc st pi ss ms, cB n ce sc st pi ss = some ms → SS C k ce.N sc st pi ss ms)
  | 0 => ⟨fun _ _ _ _ _ h => by simp [cS] at h, fun _ _ _ _ _ h => by simp [cB] at h⟩
  | n + 1 => by
    obtain ⟨jS, jB⟩ := b_ok K n
    obtain ⟨iE, iT, iC, iG, iS⟩ := c_ok n K
    refine ⟨fun sc st pi s m h => ?_, fun sc st pi ss ms h => ?_⟩
    · cases s with
      | Assign ts e _ =>
        simp only [cS] at h
        split at h
        · rename_i t ht
          have e1 := one_eq ht
          subst e1
          split at h
          · rename_i elt gs scope l2 x l h1 h2
            unfold isLC at h1
            split at h1
            · cases h1
              unfold isNm at h2
              split at h2
              · cases h2
                exact cAsgC_ok K h
              · cases h2
            · cases h1
          · split at h
            · rename_i x l y l2 a b hp
              unfold isPar at hp
              split at hp
              · cases hp
                exact cPar_ok (iE sc st) h
              · cases hp
            · exact cAsg_ok K (iE sc st) h
        · cases h
      | Expr e _ => simp only [cS] at h; exact cExp_ok K (iE sc st) h
      | Return e _ => simp only [cS] at h; exact cRet_ok (iE sc st) h
      | If c a b _ =>
        simp only [cS] at h
        obtain ⟨x, q, h1, h2, rfl⟩ := opt2_eq h
        obtain ⟨y, z, h3, h4, rfl⟩ := opt2_eq h2
        exact t_ite (iT sc st _ _ h1) (jB _ _ _ _ _ h3) (jB _ _ _ _ _ h4)
      | For t it b els _ =>
        simp only [cS] at h
        obtain ⟨q, h1, h2⟩ := bindO h
        obtain ⟨hp, h2⟩ := chkO_eq h2
        cases h2
        obtain ⟨c, h1⟩ := chkO_eq h1
        rw [Bool.and_eq_true] at c
        obtain ⟨x, q, h3, h4, rfl⟩ := opt2_eq h1
        obtain ⟨y, z, h5, h6, rfl⟩ := opt2_eq h4
        cases els with
        | nil => exact t_for (out_ok hp) (nfs_ok c.2) (cIt_ok K (iE sc st) h5) (cTg_ok h3) (jB _ _ _ _ _ h6)
        | cons _ _ => cases c.1
      | Pass _ => simp only [cS, Option.some.injEq] at h; subst h; exact t_pass
      | Break _ => simp only [cS, Option.some.injEq] at h; subst h; exact t_brk
      | Continue _ => simp only [cS, Option.some.injEq] at h; subst h; exact t_cnt
      | Raise e c _ => simp only [cS, Option.some.injEq] at h; subst h; exact cRais_ok K
      | Try b hs els fin _ =>
        simp only [cS] at h
        split at h
        · rename_i x m e ht
          unfold isTry at ht
          split at ht
          · cases ht
            split at h
            · rename_i j ys ns i hl hi
              obtain ⟨c, h1⟩ := chkO_eq h
              simp only [Bool.and_eq_true, decide_eq_true_eq] at c
              obtain ⟨mb, xb, h2, h3, rfl⟩ := opt2_eq h1
              obtain ⟨z1, z2, z3, z4, z5⟩ := K.ex _ _ _ _ hl
              obtain ⟨g1, g2, _⟩ := glB_eq c.1.1
              exact t_try (jB _ _ _ _ _ h2) (idx_eq hi) c.1.2 c.2 g1 z1 g2 z4 (cX_ok K _ h3)
            · cases h
          · cases ht
        · cases h
      | _ => simp [cS] at h
    · cases ss with
      | nil => simp only [cB, Option.some.injEq] at h; subst h; exact ss_z
      | cons s ss =>
        simp only [cB] at h
        obtain ⟨x, y, h1, h2, rfl⟩ := opt2_eq h
        exact ss_c (jS _ _ _ _ _ h1) (jB _ _ _ _ _ h2)
end Pu

set_option Elab.async false
set_option linter.all false
set_option maxRecDepth 100000
set_option maxHeartbeats 2000000
/-! Pu22: the end of a law. -/
namespace Pu
open PySem PySem.Spec PyProof.Rows L2
theorem law_G {P : Program} {w : World} {K : PySem.W.Frag} {mg mb : Str → Option Value} {CX : CXT} {fa a : Addr} {cs : List (Addr × Addr)} {s₁ : Shared} {vs : List Value} {ns : List Int}
    (yK : K.In s₁.heap) (yns : s₁.heap.Ns mainGlobals mg) (yb : s₁.heap.Ns builtinsNs mb) (ybb : ∀ x : Str, x ≠ "__name__" → mb x = bootBuiltins x) (yl : s₁.heap.NoLimit) (yg : s₁.gens = #[])
    (yT : ∀ p ∈ cs, s₁.heap.get? p.2 = some { cls := .none, data := .fields #[] }) (yN : ∀ p ∈ cs, K.lookup p.2 = none) (yC : ∀ p ∈ cs, PySem.W.CodeHd s₁.heap p.1 p.2)
    (ym : ∃ (bm : Addr) (ob : Obj), mg "__builtins__" = some (.ref bm) ∧ bm ≠ builtinsNs ∧ s₁.heap.get? bm = some ob ∧ ob.cls = .type "module" ∧ ob.dict = some builtinsNs ∧ ob.data = .plain)
    (ya : s₁.heap.get? a = some { cls := .type "list", data := .seq vs.toArray }) (yi : IntsAre vs ns) (yh : ns.length ≤ sizeLine) 
    (F : ∀ base : Heap, K.In base → base.Ns mainGlobals mg → (∀ p ∈ cs, GxR.TabB base mg p.1 p.2) → ∀ H : Hp, Env0 P w K mg base callerA [] s₁ H → (∀ p ∈ cs, H p.2 = some (.tbl #[])) → SqL K H a (ns.map V.int) → Vals [V.ref a] [Value.ref a] → codeAny (model P w) callerA (.call (.ref fa) ⟨[.ref a], []⟩) (CR CX [] P w H s₁ (fun v _ => v = .bl true) fun _ _ _ => False) s₁)
    (yX : ∀ H ee s', CX [] H s₁ (fun _ _ _ => False) ee s' → False) :
    codeAny (model P w) callerA (.call (.ref fa) ⟨[.ref a], []⟩) (fun r s' => r = .ok (.ret (.bool true)) ∧ OldK s₁.heap s'.heap ∧ s'.os = s₁.os ∧ AllBare s'.gens) s₁ := by
  have yrv := vals_ints yi
  have ylen := yi.length
  have isY : ∀ b : Addr, b ∈ cs.map (·.2) → s₁.heap.get? b = some { cls := .none, data := .fields #[] } := fun b yb => by
    obtain ⟨p, hp, ee⟩ := List.mem_map.mp yb
    rw [← ee]
    exact yT p hp
  have aY : a ∉ cs.map (·.2) := fun zz => by
    have qq := isY a zz
    rw [ya] at qq
    have zz' : Data.seq vs.toArray _ = Data.fields #[] := congrArg Obj.data (Option.some.inj qq)
    cases zz'
  have memY : ∀ p ∈ cs, p.2 ∈ cs.map (·.2) := fun p hp => List.mem_map.mpr ⟨p, hp, rfl⟩
  -- from an abstract heap in which nothing but the script and the tables may be tracked
  have kern : ∀ H : Hp, (∀ p ∈ cs, H p.2 = some (.tbl #[])) → (∀ b, H b = none ∨ b ∈ cs.map (·.2) ∨ ∃ o xs, H b = some (.frz o (.lst xs))) → SqL K H a (ns.map V.int) → HOk P w H s₁.heap → (∀ b, H b ≠ none → b = a ∨ b ∈ cs.map (·.2)) → (H a ≠ none → K.lookup a = none) →
      codeAny (model P w) callerA (.call (.ref fa) ⟨[.ref a], []⟩) (fun r s' => r = .ok (.ret (.bool true)) ∧ OldK s₁.heap s'.heap ∧ s'.os = s₁.os ∧ AllBare s'.gens) s₁ := by
    intro H yH yO yS yok yA yK2
    have bsof : ∀ {b : Addr} {o : Obj}, s₁.heap.get? b = some o → H b = none → (hidT s₁.heap H).get? b = some o := fun ee n => hidT_get ee n
    have nod : ∀ {b : Addr} {o : Obj}, s₁.heap.get? b = some o → (∀ vs n, o.data ≠ .seq vs n) → o.data ≠ .fields #[] → H b = none := fun {b o} ee h1 h2 => by
      cases qq : H b with
      | none => rfl
      | some u =>
        rcases yA b (by rw [qq]; simp) with e' | e'
        · rw [e', ya] at ee
          cases ee
          exact (h1 _ _ rfl).elim
        · rw [isY b e'] at ee
          cases ee
          exact (h2 rfl).elim
    have noa : ∀ {b : Addr} {o : Obj} {es : Array DictEntry} {ep : Nat}, s₁.heap.get? b = some o → o.data = .dict es ep → H b = none := fun {b o es ep} ee d => by
      refine nod ee (fun vs n zz => ?_) fun zz => ?_
      · rw [d] at zz
        cases zz
      · rw [d] at zz
        cases zz
    have nsy : ∀ {b : Addr} {m : Str → Option Value}, s₁.heap.Ns b m → (hidT s₁.heap H).Ns b m := fun {b m} ⟨o, es, ep, ee, d, r⟩ => ⟨o, es, ep, bsof ee (noa ee d), d, r⟩
    have ykb : K.In (hidT s₁.heap H) := fun b o ee => bsof (yK b o ee) (by
      cases qq : H b with
      | none => rfl
      | some u =>
        rcases yA b (by rw [qq]; simp) with e' | e'
        · rw [e'] at ee qq
          rw [yK2 (by rw [qq]; simp)] at ee
          cases ee
        · obtain ⟨p, hp, ep⟩ := List.mem_map.mp e'
          rw [← ep, yN p hp] at ee
          cases ee)
    have yM : L2.Mod K mg (hidT s₁.heap H) := ⟨ykb, nsy yns, ⟨mb, nsy yb, ybb⟩, let ⟨mc, h1, h2⟩ := yl; ⟨mc, nsy h1, h2⟩⟩
    have yTB : ∀ p ∈ cs, GxR.TabB (hidT s₁.heap H) mg p.1 p.2 := fun p hp => by
      have hTp := yT p hp
      refine ⟨?_, ?_, fun zz => ?_⟩
      · obtain ⟨o, us, file, tf, flags, tg, inF, text, tt, e1, r1, r2, r3, r4, r5, r6, r7, r8, hne⟩ := yC p hp
        refine ⟨o, us, file, tf, flags, tg, inF, text, tt, bsof e1 (nod e1 (fun vs n zz => ?_) fun zz => ?_), r1, r2, r3, r4, r5, r6, r7, r8, hne⟩
        · rw [r2] at zz
          cases zz
        · rw [r2] at zz
          cases zz
          simp at r3
      · obtain ⟨bm, ob, b1, b2, b3, b4, b5, b6⟩ := ym
        have nG : bm ≠ mainGlobals := fun qq => by
          obtain ⟨o, es, ep, ee, yd, _⟩ := yns
          rw [qq, ee] at b3
          cases b3
          rw [yd] at b6
          cases b6
        have nP : bm ≠ p.2 := fun qq => by
          rw [qq, hTp] at b3
          cases b3
          cases b6
        refine ⟨bm, ob, b1, b2, nG, nP, bsof b3 (nod b3 (fun vs n zz => ?_) fun zz => ?_), b4, b5, b6⟩
        · rw [b6] at zz
          cases zz
        · rw [b6] at zz
          cases zz
      · obtain ⟨o, es, ep, ee, yd, _⟩ := yns
        rw [zz, hTp] at ee
        cases ee
        cases yd
    have y0 : Env0 P w K mg (hidT s₁.heap H) callerA [] s₁ H := ⟨rfl, yM, fun b o ee => of_hidT ee, Nat.le_of_eq (hidT_size _ _), trivial, fun b yb => absurd (show b ∈ ([] : List Addr) from yb) (by simp), yok, .of_eq yg⟩
    refine codeAny_mono (F _ ykb (nsy yns) yTB H y0 yH yS (.cons rfl .nil)) fun r s' h => ?_
    cases r with
    | error ee => exact (yX H ee s' h).elim
    | ok fl =>
      cases fl with
      | next => exact False.elim h
      | brk => exact False.elim h
      | cont => exact False.elim h
      | ret u =>
        obtain ⟨v, H', os, bare, un, hok', r', qq⟩ := h
        have q' : v = .bl true := qq
        subst q'
        obtain rfl : u = Value.bool true := r'
        have kst : ∀ b o, b ∉ cs.map (·.2) → s₁.heap.get? b = some o → s'.heap.get? b = some o := fun b o nb ee => by
          cases qq : H b with
          | none => exact un.keep b o ee qq (by intro zz; exact absurd (show b ∈ ([] : List Addr) from zz) (by simp)) (by simp)
          | some u =>
            rcases yO b with zz | zz | ⟨ob, xs, zz⟩
            · rw [qq] at zz; cases zz
            · exact absurd zz nb
            · have z2 := un.frzs b ob _ zz
              obtain ⟨e1, _⟩ := yok b _ zz
              obtain ⟨e2, _⟩ := hok' b _ z2
              rw [ee] at e1; cases e1
              exact e2
        have grw : ∀ p ∈ cs, ∃ more : Array Value, s'.heap.get? p.2 = some { cls := .none, data := .fields more } := fun p hp => by
          obtain ⟨more, zz⟩ := un.tbls p.2 #[] (yH p hp)
          exact ⟨_, hok' p.2 _ zz⟩
        refine ⟨rfl, ⟨fun b o ee => ?_, fun b o ee => ?_⟩, os, bare⟩
        · by_cases yb : b ∈ cs.map (·.2)
          · obtain ⟨p, hp, ep⟩ := List.mem_map.mp yb
            obtain ⟨more, yhm⟩ := grw p hp
            rw [← ep] at ee ⊢
            rw [yT p hp] at ee
            cases ee
            exact .inr (.inl ⟨((yC p hp).tab (yT p hp)).isCodeTable, rfl, #[], more, rfl, by rw [Array.empty_append]; exact yhm⟩)
          · exact .inl (kst b o yb ee)
        · by_cases yb : b ∈ cs.map (·.2)
          · obtain ⟨p, hp, ep⟩ := List.mem_map.mp yb
            obtain ⟨more, yhm⟩ := grw p hp
            rw [← ep]
            exact ⟨_, yhm⟩
          · exact ⟨o, kst b o yb ee⟩
  cases yk : K.lookup a with
  | some o =>
    have ee := yK a o yk
    rw [ya] at ee
    cases ee
    refine kern (fun b => if b ∈ cs.map (·.2) then some (.tbl #[]) else none) (fun p hp => if_pos (memY p hp)) (fun b => ?_) (.inr ⟨_, vs.toArray, _, yk, rfl, rfl, rfl, by rw [List.size_toArray, ylen]; exact yh, by simpa using yrv⟩) (fun b u zz => ?_) (fun b zz => ?_) fun zz => absurd (show (if a ∈ cs.map (·.2) then some (HO.tbl #[]) else none) = none from if_neg aY) zz
    · by_cases yb : b ∈ cs.map (·.2)
      · exact .inr (.inl yb)
      · exact .inl (if_neg yb)
    · by_cases yb : b ∈ cs.map (·.2)
      · have zz' := (if_pos yb).symm.trans zz
        cases zz'
        exact isY b yb
      · have zz' := (if_neg yb).symm.trans zz
        cases zz'
    · by_cases yb : b ∈ cs.map (·.2)
      · exact .inr yb
      · exact absurd (if_neg yb) zz
  | none =>
    refine kern (fun b => if b = a then some (.frz { cls := .type "list", data := .seq vs.toArray } (.lst (ns.map V.int))) else if b ∈ cs.map (·.2) then some (.tbl #[]) else none) (fun p hp => (if_neg (show ¬ p.2 = a from fun zz => aY (by rw [← zz]; exact memY p hp))).trans (if_pos (memY p hp))) (fun b => ?_)
      (.inl (.inr ⟨{ cls := .type "list", data := .seq vs.toArray }, if_pos rfl⟩)) (fun b u zz => ?_) (fun b zz => ?_) fun _ => yk
    · by_cases yb : b = a
      · exact .inr (.inr ⟨_, _, if_pos yb⟩)
      · by_cases hb2 : b ∈ cs.map (·.2)
        · exact .inr (.inl hb2)
        · exact .inl ((if_neg yb).trans (if_neg hb2))
    · by_cases yb : b = a
      · have zz' := (if_pos yb).symm.trans zz
        cases zz'
        rw [yb]
        exact ⟨ya, by rw [List.length_map]; exact yh, vs, _, yrv, ya⟩
      · have z1 := (if_neg yb).symm.trans zz
        by_cases hb2 : b ∈ cs.map (·.2)
        · have zz' := (if_pos hb2).symm.trans z1
          cases zz'
          exact isY b hb2
        · have zz' := (if_neg hb2).symm.trans z1
          cases zz'
    · by_cases yb : b = a
      · exact .inl yb
      · by_cases hb2 : b ∈ cs.map (·.2)
        · exact .inr hb2
        · exact absurd ((if_neg yb).trans (if_neg hb2)) zz
theorem tabs0 {cs : List (Addr × Addr)} {H : Hp} (h : ∀ p ∈ cs, H p.2 = some (.tbl #[])) : Tabs (cs.map (·.2)) H := fun P hP => by
  obtain ⟨p, hp, rfl⟩ := List.mem_map.mp hP
  exact ⟨#[], h p hp, by first | exact TriplesOk.nil | trivial | simp [TriplesOk]⟩
theorem script_at {K : PySem.W.Frag} {cl : Nat → Addr} {H : Hp} {a : Addr} {ns : List Int} (h : SqL K H a (ns.map V.int)) : Own K cl H (Fzp H (fun _ => True) []) (.ref a) (.lst .fz (ns.map D.int)) [] := by
  have o : Owns K cl H (Fzp H (fun _ => True) []) (ns.map V.int) (ns.map D.int) [] := by
    clear h
    induction ns with
    | nil => exact .nil
    | cons n ns ih => exact .cons (f1 := []) (.int n) ih
  rcases h with (h | ⟨ob, h⟩) | h
  · exact .lst (f0 := []) (.fz h ⟨.inl trivial, List.not_mem_nil⟩) o
  · exact .lst (f0 := []) (.lk h) o
  · exact .lst (f0 := []) (.wr (.inr h)) o
/-- what a law's text gives, and its meaning -/
structure LawG (P : Program) (w : World) (K : PySem.W.Frag) (mg : Str → Option Value) (fa : Addr) (cs : List (Addr × Addr)) (n : Nat) (base : Heap) : Prop where
  ex : ∃ (C : Cf) (k j : Nat) (fd : FuncData) (x : Str), C.P = P ∧ C.w = w ∧ C.G.K = K ∧ C.mg = mg ∧ C.base = base ∧ C.G.tabs = cs.map (·.2) ∧ FnG C k fa fd [x] (spF C j 1 []) ∧ L2.Room k callerA ∧ Binds K fd [x] [] ∧
    ∀ ns : List Int, ns.length ≤ n → (∀ i ∈ ns, Builtin.Int.intBits i ≤ 1048576) → C.Φ j [.lst .fz (ns.map D.int)] = .ok (.bl true, [])
theorem walk_G {l : PySem.W.OpenLaw} {n : Nat} {q : Program} {loose : List Str} {XP : (Str → Option Value) → Heap → Prop} {YP : World → Heap → Prop} {d : DefRec} (hn : l.most = some n) (hn2 : n ≤ sizeLine) (hdf : d.params.defaults = [])
    (F : ∀ (w : World) (mg : Str → Option Value) (fa : Addr) (h : Heap), YP w h → h.Ns mainGlobals mg → mg d.name = some (.ref fa) → ∃ (K : PySem.W.Frag) (cs : List (Addr × Addr)), K.In h ∧ (∀ p ∈ cs, h.get? p.2 = some { cls := .none, data := .fields #[] }) ∧ (∀ p ∈ cs, K.lookup p.2 = none) ∧ (∀ p ∈ cs, PySem.W.CodeHd h p.1 p.2) ∧
      ∀ base : Heap, K.In base → base.Ns mainGlobals mg → (∀ p ∈ cs, GxR.TabB base mg p.1 p.2) → LawG l.prog w K mg fa cs n base) :
    PySem.W.WalkO q loose XP YP l.row.toRowW d [] (fun f vs => PySem.call f vs) := by
  refine Att.attach_callB hn hdf fun w s₀ s₁ mg mb fa o pm cd doc a vs ns G Y ho hd hcd hmg hobj hints hlen hbits hg => ?_
  obtain ⟨K, cs, KX, hT, nT, hC, hF⟩ := F w mg fa _ Y G.T.g hmg
  refine law_G (CX := L2.CX l.prog w) KX G.T.g G.T.b G.T.builtins G.T.nolimit hg hT nT hC G.T.bmain hobj hints (Nat.le_trans hlen hn2) (fun base b1 b2 b3 H e0 hH hS hv => ?_) fun H e s' z => ?_
  · obtain ⟨⟨⟨⟨K', cl, tabs, ec⟩, P', w', mg', base', Φ, gv, cod⟩, k, j, fd, x, e1, e2, e3, e4, e5, ht, fg, hr, hb, law⟩⟩ := hF base b1 b2 b3
    dsimp only at e1 e2 e3 e4 e5 ht law
    subst e1 e2 e3 e4 e5
    have KI := KX
    have b := hb s₁ [.ref a] KI rfl
    simp only [List.append_nil] at b
    refine fg.run callerA [] s₁ H [.ref a] [.ref a] _ _ hr rfl e0 b hv ⟨rfl, H, fun _ => True, [.lst .fz (ns.map D.int)], rfl, argsOk_all ?_, ?_, ?_, ?_⟩
    · have z : allFzs (ns.map D.int) = true := by
        rw [allFzs_eq, List.all_eq_true]
        intro y hy
        obtain ⟨i, _, rfl⟩ := List.mem_map.mp hy
        rfl
      simp only [allFzs, allFz, z, Bool.and_true, Bool.and_self, decide_eq_true_eq]
    · have z : noVws (ns.map D.int) = true := by
        rw [noVws_eq, List.all_eq_true]
        intro y hy
        obtain ⟨i, _, rfl⟩ := List.mem_map.mp hy
        rfl
      simp only [noVws, noVw, z, Bool.and_true, Bool.and_self, decide_eq_true_eq]
      exact fun z => by cases z
    · refine ⟨⟨[], [], .nil, ?_, List.nodup_nil, fun p hp => absurd hp List.not_mem_nil⟩, Keep.refl _, Keep.noH _, ?_⟩
      · exact .cons (f1 := []) (f2 := []) (script_at hS) .nil
      · dsimp only; rw [ht]; exact tabs0 hH
    · dsimp only
      rw [law ns hlen hbits]
      intro v H' h' _
      obtain ⟨_, _, ov⟩ := Holds.top h'
      exact ov.inv_bl
  · obtain ⟨_, _, _, _, _, _, _, _, _, _, _, _, z⟩ := z
    exact z
end Pu

set_option Elab.async false
set_option linter.all false
set_option maxRecDepth 100000
set_option maxHeartbeats 1000000
/-! Pu23: all defs of a text keep their promises. -/
namespace Pu
open PySem PySem.Spec PyProof.Rows L2
/-- a def of a text: its name, its statement, its slots, its meaning; where it stands -/
structure Rw where
  x : Str
  qual : Str
  st : Stmt
  N : List Str
  np : Nat
  is : List Nat
  b : List Sm
  f : Addr
  fd : FuncData
  cp : Option (Addr × Addr)
def Rw.F (r : Rw) : Fun := ⟨r.np, r.N.length, r.is, r.b⟩
def Rw.ps (r : Rw) : List Str := r.N.take r.np
def tblOf (R : List Rw) (j : Nat) : Option Fun := (R[j]?).map Rw.F
def slotsOf (r : Rw) : List Str := r.N.filter fun x => locB (defScope r.st) x
/-- what the machine must have of it -/
structure RwOk (c : C0) (r : Rw) : Prop where
  fn : ∃ (oc : Value) (od : Option Addr) (kV doc pm : Value) (an : Option Addr) (cdv ct : Value) (osl : Array (Option Value)),
    r.fd = PySem.W.fnOf r.x r.qual (defArgs r.st) (defBody r.st) (defScope r.st) .none kV doc pm an cdv ct ∧ c.G.K.lookup r.f = some ⟨oc, od, .func r.fd, osl⟩ ∧ PySem.W.codeIn c.G.K cdv r.qual = true ∧ ∀ cc P, r.cp = some (cc, P) → cdv = .ref cc
  bd : Binds c.G.K r.fd r.ps []
  kp : PySem.W.keepIn c.G.K (.ref r.f) = true
  tb : ∀ cc P, r.cp = some (cc, P) → GxR.TabB c.base c.mg cc P ∧ P ∈ c.G.tabs
/-- what its text must be -/
structure RwTx (ce : CE) (r : Rw) : Prop where
  sc : FnScope r.N r.ps (defScope r.st)
  np : r.np ≤ r.N.length
  is : r.is.Nodup
  il : ∀ i ∈ r.is, i < r.np
  b : cB 100 { ce with N := r.N, gen := r.cp.isSome } (defScope r.st) (slotsOf r) r.is (defBody r.st) = some r.b
/-- what is known of the text's names -/
structure Env1 (c : C0) (R : List Rw) (ce : CE) : Prop where
  bl : ∀ x ∈ bltNames, c.mg x = none
  fn : ∀ x j np, ce.fs.lookup x = some (j, np) → ∃ r, R[j]? = some r ∧ r.np = np ∧ r.is = [] ∧ c.mg x = some (.ref r.f)
  cl : ∀ x k j np, ce.cs.lookup x = some (k, j, np) → ∃ r, R[j]? = some r ∧ r.np = np ∧ r.is = [0] ∧ L2.Mk c.G.K (c.G.cl k) r.f ∧ c.mg x = some (.ref (c.G.cl k))
  gl : ∀ x j, ce.gs.lookup x = some j → ∃ v u, c.mg x = some u ∧ RelV v u ∧ ∀ H Fz, Own c.G.K c.G.cl H Fz v (c.gv j) []
  fa : ∀ k, L2.Cls c.G.K (c.G.cl k)
  fb : ∀ x ∈ ce.fl, ∀ k, L2.NoAttr c.G.K (c.G.cl k) x
  ex : ∀ x j ys ns, ce.es.lookup x = some (j, ys, ns) → c.mg x = some (.ref (c.G.ec j)) ∧ (∀ a ∈ ys ++ ns, L2.ExcC c.G.K (c.G.ec a)) ∧ (∀ a ∈ ys, PySem.W.kitOne c.G.K (.ref (c.G.ec a)) (.ref (c.G.ec j)) = some true) ∧ (∀ a ∈ ys, PySem.W.exmOne c.G.K (.ref (c.G.ec a)) (.ref (c.G.ec j)) = some true) ∧ ∀ a ∈ ns, PySem.W.kitOne c.G.K (.ref (c.G.ec a)) (.ref (c.G.ec j)) = some false
  rs : ∀ a ∈ ce.rs, (∃ (B newId initId : String) (bmB : List Value), ExcBaseFacts B newId initId bmB ∧ PySem.W.excIn c.G.K (c.G.ec a) bmB newId = true) ∧ PySem.W.keepIn c.G.K (.ref (c.G.ec a)) = true ∧ PySem.W.subIn c.G.K (.ref (c.G.ec a)) (.type "BaseException") = some true ∧ PySem.W.typeIn c.G.K (.ref (c.G.ec a)) = some (.type "type")
theorem ps_length {r : Rw} (h : r.np ≤ r.N.length) : r.ps.length = r.np := by
  unfold Rw.ps
  rw [List.length_take]
  exact Nat.min_eq_left h
/-- THE PROMISES of all defs, by level -/
theorem all_G {c : C0} {R : List Rw} {ce : CE} (V : Env1 c R ce) (hM : ∀ r ∈ R, RwOk c r) (hT : ∀ r ∈ R, RwTx ce r) : ∀ n j r, R[j]? = some r → FnG (c.at (tblOf R) n) (3 * n) r.f r.fd r.ps (spF (c.at (tblOf R) n) j r.np r.is)
  | 0, j, r, hr => fn_0 (ps_length (hT r (List.mem_of_getElem? hr)).np).symm
  | n + 1, j, r, hr => by
    have ih := all_G V hM hT n
    have hm := List.mem_of_getElem? hr
    have M := hM r hm
    have X := hT r hm
    obtain ⟨oc, od, kV, doc, pm, an, cdv, ct, osl, efd, lk, hcd, hcc⟩ := M.fn
    have hF : tblOf R j = some r.F := by unfold tblOf; rw [hr]; rfl
    have kn : Kn (c.of (tblOf R) n r.cp) (3 * n + 2) { ce with N := r.N, gen := r.cp.isSome } := {
      bl := V.bl
      fn := fun x i np h => by
        obtain ⟨q, h1, h2, h3, h4⟩ := V.fn x i np h
        have g := ih i q h1
        rw [h2, h3] at g
        have m := hM q (List.mem_of_getElem? h1)
        exact ⟨q.f, q.fd, q.ps, 3 * n, ⟨g.len, g.run⟩, by split <;> omega, m.bd, h4, m.kp⟩
      cl := fun x k i np h => by
        obtain ⟨q, h1, h2, h3, h4, h5⟩ := V.cl x k i np h
        have g := ih i q h1
        rw [h2, h3] at g
        have m := hM q (List.mem_of_getElem? h1)
        exact ⟨q.f, q.fd, q.ps, 3 * n, h4, ⟨g.len, g.run⟩, by split <;> omega, m.bd, h5⟩
      gl := V.gl
      gk := fun h => by
        refine ⟨by omega, ?_⟩
        have h : r.cp.isSome = true := h
        obtain ⟨p, hp⟩ := Option.isSome_iff_exists.mp h
        exact ⟨p.1, p.2, hp⟩
      fa := V.fa
      fb := V.fb
      ex := V.ex
      rs := fun a h => let r := V.rs a h; ⟨r.1, r.2.1, r.2.2.1, r.2.2.2⟩ }
    have hb := (b_ok kn 100).2 _ _ _ _ _ X.b
    have hl := ps_length X.np
    rw [efd] at lk ⊢
    exact fn_G (F := r.F) (N := r.N) (k := 3 * n + 2) (st := slotsOf r) (cp := r.cp) hF lk hcd X.sc rfl hl.symm (by rw [hl]; exact X.np) X.is (fun i hi => by rw [hl]; exact X.il i hi) (fun x hx => locB_eq (List.mem_filter.mp hx).2)
      (fun cc P e => ⟨hcc cc P e, M.tb cc P e⟩) hb
end Pu

set_option Elab.async false
set_option linter.all false
set_option maxRecDepth 100000
/-! Pv1: plain data without flags: the interpreter's operations on it. -/
namespace Pu
open PySem PySem.Spec PyProof.Rows L2
mutual
/-- numbers, texts, None and tuples of such, no deeper than n -/
def flat : Nat → D → Bool
  | _, .non => true | _, .int _ => true | _, .str x => PyData.strOk x
  | n + 1, .tup xs => flats n xs
  | _, _ => false
def flats : Nat → List D → Bool
  | _, [] => true
  | n, x :: xs => flat n x && flats n xs
end
section
variable {n : Nat}
mutual
theorem vwD_flat : ∀ {n : Nat} {d : D}, flat n d = true → vwD d = d
  | _, .non, _ => rfl | _, .int _, _ => rfl | _, .str _, _ => rfl
  | n + 1, .tup xs, h => by
    simp only [flat] at h
    simp only [vwD, vwDs_flat h]
  | 0, .tup _, h => by simp [flat] at h
  | _, .bl _, h => by simp [flat] at h
  | _, .lst _ _, h => by simp [flat] at h
  | _, .obj _ _ _ _, h => by simp [flat] at h
  | _, .dct _ _ _, h => by simp [flat] at h
theorem vwDs_flat : ∀ {n : Nat} {ds : List D}, flats n ds = true → vwDs ds = ds
  | _, [], _ => rfl
  | n, d :: ds, h => by
    simp only [flats, Bool.and_eq_true] at h
    simp only [vwDs, vwD_flat h.1, vwDs_flat h.2]
end
mutual
theorem fzD_flat : ∀ {n : Nat} {d : D}, flat n d = true → fzD d = d
  | _, .non, _ => rfl | _, .int _, _ => rfl | _, .str _, _ => rfl
  | n + 1, .tup xs, h => by
    simp only [flat] at h
    simp only [fzD, fzDs_flat h]
  | 0, .tup _, h => by simp [flat] at h
  | _, .bl _, h => by simp [flat] at h
  | _, .lst _ _, h => by simp [flat] at h
  | _, .obj _ _ _ _, h => by simp [flat] at h
  | _, .dct _ _ _, h => by simp [flat] at h
theorem fzDs_flat : ∀ {n : Nat} {ds : List D}, flats n ds = true → fzDs ds = ds
  | _, [], _ => rfl
  | n, d :: ds, h => by
    simp only [flats, Bool.and_eq_true] at h
    simp only [fzDs, fzD_flat h.1, fzDs_flat h.2]
end
mutual
theorem vaD_flat : ∀ {n : Nat} {d : D}, flat n d = true → vaD d = d
  | _, .non, _ => rfl | _, .int _, _ => rfl | _, .str _, _ => rfl
  | n + 1, .tup xs, h => by
    simp only [flat] at h
    simp only [vaD, vaDs_flat h]
  | 0, .tup _, h => by simp [flat] at h
  | _, .bl _, h => by simp [flat] at h
  | _, .lst _ _, h => by simp [flat] at h
  | _, .obj _ _ _ _, h => by simp [flat] at h
  | _, .dct _ _ _, h => by simp [flat] at h
theorem vaDs_flat : ∀ {n : Nat} {ds : List D}, flats n ds = true → vaDs ds = ds
  | _, [], _ => rfl
  | n, d :: ds, h => by
    simp only [flats, Bool.and_eq_true] at h
    simp only [vaDs, vaD_flat h.1, vaDs_flat h.2]
end
mutual
theorem anyFz_flat : ∀ {n : Nat} {d : D}, flat n d = true → anyFz d = d
  | _, .non, _ => rfl | _, .int _, _ => rfl | _, .str _, _ => rfl
  | n + 1, .tup xs, h => by
    simp only [flat] at h
    simp only [anyFz, anyFzs_flat h]
  | 0, .tup _, h => by simp [flat] at h
  | _, .bl _, h => by simp [flat] at h
  | _, .lst _ _, h => by simp [flat] at h
  | _, .obj _ _ _ _, h => by simp [flat] at h
  | _, .dct _ _ _, h => by simp [flat] at h
theorem anyFzs_flat : ∀ {n : Nat} {ds : List D}, flats n ds = true → anyFzs ds = ds
  | _, [], _ => rfl
  | n, d :: ds, h => by
    simp only [flats, Bool.and_eq_true] at h
    simp only [anyFzs, anyFz_flat h.1, anyFzs_flat h.2]
end
mutual
theorem noVw_flat : ∀ {n : Nat} {d : D}, flat n d = true → noVw d = true
  | _, .non, _ => rfl | _, .int _, _ => rfl | _, .str _, _ => rfl
  | n + 1, .tup xs, h => by
    simp only [flat] at h
    simp only [noVw, noVws_flat h]
  | 0, .tup _, h => by simp [flat] at h
  | _, .bl _, h => by simp [flat] at h
  | _, .lst _ _, h => by simp [flat] at h
  | _, .obj _ _ _ _, h => by simp [flat] at h
  | _, .dct _ _ _, h => by simp [flat] at h
theorem noVws_flat : ∀ {n : Nat} {ds : List D}, flats n ds = true → noVws ds = true
  | _, [], _ => rfl
  | n, d :: ds, h => by
    simp only [flats, Bool.and_eq_true] at h
    simp only [noVws, noVw_flat h.1, noVws_flat h.2, Bool.and_self]
end

mutual
def pOf : D → PyData
  | .non => .none | .bl b => .bool b | .int i => .int i | .str s => .str s
  | .tup xs => .tuple (pOfs xs) | .lst _ xs => .list (pOfs xs)
  | _ => .none
def pOfs : List D → List PyData
  | [] => []
  | x :: xs => pOf x :: pOfs xs
end
theorem pOfs_map (xs : List D) : pOfs xs = xs.map pOf := by
  induction xs with
  | nil => rfl
  | cons x xs ih => simp only [pOfs, List.map_cons, ih]
mutual
theorem toP_flat : ∀ {n : Nat} {d : D}, flat n d = true → toP d = some (pOf d) ∧ (pOf d).canLay0 = true ∧ (pOf d).depth ≤ n
  | _, .non, _ => ⟨rfl, rfl, Nat.zero_le _⟩ | _, .int _, _ => ⟨rfl, rfl, Nat.zero_le _⟩
  | _, .str x, h => ⟨rfl, by simpa only [flat, pOf, PyData.canLay0] using h, Nat.zero_le _⟩
  | n + 1, .tup xs, h => by
    simp only [flat] at h
    obtain ⟨h1, h2, h3⟩ := toPs_flat h
    refine ⟨by simp only [toP, h1, pOf], by simp only [pOf, PyData.canLay0, h2], ?_⟩
    simp only [pOf, PyData.depth]
    omega
  | 0, .tup _, h => by simp [flat] at h
  | _, .bl _, h => by simp [flat] at h
  | _, .lst _ _, h => by simp [flat] at h
  | _, .obj _ _ _ _, h => by simp [flat] at h
  | _, .dct _ _ _, h => by simp [flat] at h
theorem toPs_flat : ∀ {n : Nat} {ds : List D}, flats n ds = true → toPs ds = some (pOfs ds) ∧ PyData.canLayAll0 (pOfs ds) = true ∧ PyData.depthAll (pOfs ds) ≤ n
  | _, [], _ => ⟨rfl, rfl, Nat.zero_le _⟩
  | n, d :: ds, h => by
    simp only [flats, Bool.and_eq_true] at h
    obtain ⟨h1, h2, h3⟩ := toP_flat h.1
    obtain ⟨g1, g2, g3⟩ := toPs_flat h.2
    refine ⟨by simp only [toPs, h1, g1, pOfs], by simp only [pOfs, PyData.canLayAll0, h2, g2, Bool.and_self], ?_⟩
    simp only [pOfs, PyData.depthAll]
    omega
end
theorem plain_flat {d : D} (h : flat n d = true) (hn : n ≤ 64) : plain d = some (pOf d) := by
  obtain ⟨h1, h2, h3⟩ := toP_flat h
  unfold plain
  rw [h1]
  have z : SeqAt.shaped (pOf d) = true := by
    unfold SeqAt.shaped
    rw [h2, decide_eq_true (Nat.le_trans h3 hn)]
    rfl
  simp only [z, if_true]
theorem plain_flats {f : Fl} {xs : List D} (h : flats n xs = true) (hn : n < 64) : plain (.lst f xs) = some (.list (pOfs xs)) ∧ plain (.tup xs) = some (.tuple (pOfs xs)) := by
  obtain ⟨h1, h2, h3⟩ := toPs_flat h
  have z1 : SeqAt.shaped (.list (pOfs xs)) = true := by
    unfold SeqAt.shaped
    have z : PyData.depthAll (pOfs xs) + 1 ≤ 64 := by omega
    simp only [PyData.canLay0, h2, PyData.depth, z, Bool.true_and, decide_true]
  have z2 : SeqAt.shaped (.tuple (pOfs xs)) = true := by
    unfold SeqAt.shaped
    have z : PyData.depthAll (pOfs xs) + 1 ≤ 64 := by omega
    simp only [PyData.canLay0, h2, PyData.depth, z, Bool.true_and, decide_true]
  constructor
  · unfold plain
    simp only [toP, h1, z1, if_true]
  · unfold plain
    simp only [toP, h1, z2, if_true]
mutual
theorem eqv_flat : ∀ {n m : Nat} {d e : D}, flat n d = true → flat m e = true → (PyData.eqv (pOf d) (pOf e) = true ↔ d = e)
  | _, m, .non, e, _, h => by cases e <;> simp [pOf, PyData.eqv, flat] at h ⊢
  | _, m, .int i, e, _, h => by cases e <;> simp [pOf, PyData.eqv, flat] at h ⊢
  | _, m, .str s, e, _, h => by cases e <;> simp [pOf, PyData.eqv, flat] at h ⊢
  | n + 1, m, .tup xs, e, h, g => by
    cases e with
    | tup ys =>
      cases m with
      | zero => simp [flat] at g
      | succ m =>
        simp only [flat] at h g
        simp only [pOf, PyData.eqv, D.tup.injEq]
        exact eqvs_flat h g
    | _ => simp [pOf, PyData.eqv, flat] at g ⊢
  | 0, _, .tup _, _, h, _ => by simp [flat] at h
  | _, _, .bl _, _, h, _ => by simp [flat] at h
  | _, _, .lst _ _, _, h, _ => by simp [flat] at h
  | _, _, .obj _ _ _ _, _, h, _ => by simp [flat] at h
  | _, _, .dct _ _ _, _, h, _ => by simp [flat] at h
theorem eqvs_flat : ∀ {n m : Nat} {ds es : List D}, flats n ds = true → flats m es = true → (PyData.eqvAll (pOfs ds) (pOfs es) = true ↔ ds = es)
  | _, _, [], [], _, _ => by simp [pOfs, PyData.eqvAll]
  | _, _, [], _ :: _, _, _ => by simp [pOfs, PyData.eqvAll]
  | _, _, _ :: _, [], _, _ => by simp [pOfs, PyData.eqvAll]
  | n, m, d :: ds, e :: es, h, g => by
    simp only [flats, Bool.and_eq_true] at h g
    simp only [pOfs, PyData.eqvAll, Bool.and_eq_true, List.cons.injEq, eqv_flat h.1 g.1, eqvs_flat h.2 g.2]
end
end
end Pu

set_option Elab.async false
set_option linter.all false
set_option maxRecDepth 100000
/-! Pv2: comparisons, loops and lists made by a loop, of plain data. -/
namespace Pu
open PySem PySem.Spec PyProof.Rows L2
open Classical in
/-- the same data -/
noncomputable def eqb (x y : D) : Bool := decide (x = y)
open Classical in
noncomputable def eqbs (x y : List D) : Bool := decide (x = y)
open Classical in
noncomputable def memb (x : D) (ys : List D) : Bool := decide (x ∈ ys)
theorem eqb_iff {x y : D} : eqb x y = true ↔ x = y := by unfold eqb; exact @decide_eq_true_iff _ (_)
theorem eqbs_iff {x y : List D} : eqbs x y = true ↔ x = y := by unfold eqbs; exact @decide_eq_true_iff _ (_)
theorem memb_iff {x : D} {y : List D} : memb x y = true ↔ x ∈ y := by unfold memb; exact @decide_eq_true_iff _ (_)
theorem bool_of {a b : Bool} (h : a = true ↔ b = true) : a = b := by
  cases a <;> cases b <;> simp at h ⊢
theorem eqb_str {a b : Str} : eqb (.str a) (.str b) = decide (a = b) := bool_of (by rw [eqb_iff, decide_eq_true_iff, D.str.injEq])
theorem eqb_int {a b : Int} : eqb (.int a) (.int b) = decide (a = b) := bool_of (by rw [eqb_iff, decide_eq_true_iff, D.int.injEq])
theorem eqb_tup {a b : List D} : eqb (.tup a) (.tup b) = eqbs a b := bool_of (by rw [eqb_iff, eqbs_iff, D.tup.injEq])
theorem eqbs_nil : eqbs [] [] = true := eqbs_iff.mpr rfl
theorem eqbs_cons {a b : D} {as bs : List D} : eqbs (a :: as) (b :: bs) = (eqb a b && eqbs as bs) := bool_of (by rw [eqbs_iff, Bool.and_eq_true, eqb_iff, eqbs_iff, List.cons.injEq])
theorem eqb_refl {a : D} : eqb a a = true := eqb_iff.mpr rfl
theorem eqbs_refl {a : List D} : eqbs a a = true := eqbs_iff.mpr rfl
section
variable {n m : Nat} {x y : D} {xs ys : List D} {f g : Fl}
theorem cmp_eq (hx : flat n x = true) (hy : flat m y = true) (hn : n ≤ 64 := by decide) (hm : m ≤ 64 := by decide) : cmpB .eq x y = some (eqb x y) := by
  simp only [cmpB, plain_flat hx hn, plain_flat hy hm]
  exact congrArg some (bool_of ((eqv_flat hx hy).trans eqb_iff.symm))
theorem cmp_ne (hx : flat n x = true) (hy : flat m y = true) (hn : n ≤ 64 := by decide) (hm : m ≤ 64 := by decide) : cmpB .ne x y = some (!eqb x y) := by
  simp only [cmpB, plain_flat hx hn, plain_flat hy hm]
  exact congrArg (fun b => some (!b)) (bool_of ((eqv_flat hx hy).trans eqb_iff.symm))
theorem cmp_eqL (hx : flats n xs = true) (hy : flats m ys = true) (hn : n < 64 := by decide) (hm : m < 64 := by decide) : cmpB .eq (.lst f xs) (.lst g ys) = some (eqbs xs ys) := by
  simp only [cmpB, (plain_flats hx hn).1, (plain_flats hy hm).1]
  exact congrArg some (bool_of ((by rw [PyData.eqv]; exact eqvs_flat hx hy : PyData.eqv (.list (pOfs xs)) (.list (pOfs ys)) = true ↔ xs = ys).trans eqbs_iff.symm))
theorem cmp_neL (hx : flats n xs = true) (hy : flats m ys = true) (hn : n < 64 := by decide) (hm : m < 64 := by decide) : cmpB .ne (.lst f xs) (.lst g ys) = some (!eqbs xs ys) := by
  simp only [cmpB, (plain_flats hx hn).1, (plain_flats hy hm).1]
  exact congrArg (fun b => some (!b)) (bool_of ((by rw [PyData.eqv]; exact eqvs_flat hx hy : PyData.eqv (.list (pOfs xs)) (.list (pOfs ys)) = true ↔ xs = ys).trans eqbs_iff.symm))
theorem any_flat (hx : flat n x = true) (hy : flats m ys = true) : ((pOfs ys).any fun z => PyData.eqv z (pOf x)) = memb x ys := by
  refine bool_of (Iff.trans ?_ memb_iff.symm)
  induction ys with
  | nil => simp [pOfs]
  | cons y ys ih =>
    simp only [flats, Bool.and_eq_true] at hy
    simp only [pOfs, List.any_cons, Bool.or_eq_true, List.mem_cons, ih hy.2, eqv_flat hy.1 hx]
    exact ⟨fun h => h.imp Eq.symm id, fun h => h.imp Eq.symm id⟩
theorem cmp_inL (hx : flat n x = true) (hy : flats m ys = true) (hn : n ≤ 64 := by decide) (hm : m < 64 := by decide) : cmpB .isIn x (.lst f ys) = some (memb x ys) := by
  rw [← any_flat hx hy]
  cases x <;> simp only [cmpB, plain_flat hx hn, (plain_flats hy hm).1]
theorem cmp_inT (hx : flat n x = true) (hy : flats m ys = true) (hn : n ≤ 64 := by decide) (hm : m < 64 := by decide) : cmpB .isIn x (.tup ys) = some (memb x ys) := by
  rw [← any_flat hx hy]
  cases x <;> simp only [cmpB, plain_flat hx hn, (plain_flats (f := .fz) hy hm).2]
end
theorem flats_iff {n : Nat} {xs : List D} : flats n xs = true ↔ ∀ x ∈ xs, flat n x = true := by
  induction xs with
  | nil => simp [flats]
  | cons x xs ih => simp only [flats, Bool.and_eq_true, ih, List.forall_mem_cons]
/-! ### loops -/
theorem compL_map {g : D → Out (Option D)} {p : D → Bool} {h : D → D} : ∀ {xs : List D}, (∀ x ∈ xs, g x = .ok (if p x = true then some (h x) else none)) → compL xs g = .ok ((xs.filter p).map h)
  | [], _ => rfl
  | x :: xs, e => by
    simp only [compL, e x List.mem_cons_self, Out.bind_ok, compL_map fun y hy => e y (List.mem_cons_of_mem _ hy)]
    cases q : p x <;> simp [q]
theorem compL_all {g : D → Out (Option D)} {h : D → D} {xs : List D} (e : ∀ x ∈ xs, g x = .ok (some (h x))) : compL xs g = .ok (xs.map h) := by
  have z := compL_map (g := g) (p := fun _ => true) (h := h) (xs := xs) fun x hx => by rw [e x hx]; rfl
  rw [z, List.filter_eq_self.mpr fun _ _ => rfl]
/-- over what is encoded by en -/
theorem compL_enc {α : Type} {en : α → D} {g : D → Out (Option D)} {p : α → Bool} {h : α → D} : ∀ {xs : List α}, (∀ x ∈ xs, g (en x) = .ok (if p x = true then some (h x) else none)) → compL (xs.map en) g = .ok ((xs.filter p).map h)
  | [], _ => rfl
  | x :: xs, e => by
    simp only [List.map_cons, compL, e x List.mem_cons_self, Out.bind_ok, compL_enc fun y hy => e y (List.mem_cons_of_mem _ hy)]
    cases q : p x <;> simp [q]
theorem compL_encA {α : Type} {en : α → D} {g : D → Out (Option D)} {h : α → D} {xs : List α} (e : ∀ x ∈ xs, g (en x) = .ok (some (h x))) : compL (xs.map en) g = .ok (xs.map h) := by
  have z := compL_enc (en := en) (g := g) (p := fun _ => true) (h := h) (xs := xs) fun x hx => by rw [e x hx]; rfl
  rw [z, List.filter_eq_self.mpr fun _ _ => rfl]
theorem genL_any {α : Type} {en : α → D} {g : D → Out Bool} {p : α → Bool} : ∀ {xs : List α}, (∀ x ∈ xs, g (en x) = .ok (p x)) → genL false (xs.map en) g = .ok (xs.any p)
  | [], _ => rfl
  | x :: xs, e => by
    simp only [List.map_cons, genL, e x List.mem_cons_self, Out.bind_ok, genL_any fun y hy => e y (List.mem_cons_of_mem _ hy), List.any_cons]
    cases p x <;> rfl
theorem genL_all {α : Type} {en : α → D} {g : D → Out Bool} {p : α → Bool} : ∀ {xs : List α}, (∀ x ∈ xs, g (en x) = .ok (p x)) → genL true (xs.map en) g = .ok (xs.all p)
  | [], _ => rfl
  | x :: xs, e => by
    simp only [List.map_cons, genL, e x List.mem_cons_self, Out.bind_ok, genL_all fun y hy => e y (List.mem_cons_of_mem _ hy), List.all_cons]
    cases p x <;> rfl
/-- a loop that never ends early: J i holds ahead of the i-th turn -/
theorem loopF_for {α : Type} {en : α → D} {f : D → List (Option D) → Re} (J : Nat → List (Option D) → Prop) {xs : List α} (step : ∀ i x ρ, xs[i]? = some x → J i ρ → ∃ ρ', (f (en x) ρ = .nx ρ' ∨ f (en x) ρ = .ct ρ') ∧ J (i + 1) ρ') :
    ∀ {ρ}, J 0 ρ → ∃ ρ', loopF f (xs.map en) ρ = .nx ρ' ∧ J xs.length ρ' := by
  suffices h : ∀ (ys : List α) (i : Nat) (ρ : List (Option D)), (∀ j y, ys[j]? = some y → xs[i + j]? = some y) → i + ys.length = xs.length → J i ρ → ∃ ρ', loopF f (ys.map en) ρ = .nx ρ' ∧ J xs.length ρ' from
    fun {ρ} j => h xs 0 ρ (fun j y e => by rw [Nat.zero_add]; exact e) (Nat.zero_add _) j
  intro ys
  induction ys with
  | nil => intro i ρ _ hl j; exact ⟨ρ, rfl, by rw [← hl]; exact j⟩
  | cons y ys ih =>
    intro i ρ hs hl j
    obtain ⟨ρ', e, j'⟩ := step i y ρ (by have z := hs 0 y rfl; rwa [Nat.add_zero] at z) j
    obtain ⟨ρ2, e2, j2⟩ := ih (i + 1) ρ' (fun k z hk => by have q := hs (k + 1) z (by simpa using hk); rwa [show i + (k + 1) = i + 1 + k by omega] at q) (by simp only [List.length_cons] at hl; omega) j'
    refine ⟨ρ2, ?_, j2⟩
    rw [List.map_cons]
    simp only [loopF]
    rcases e with e | e <;> simp only [e, e2]
/-- a search loop: it ends with a return at the first x that p picks; the slots stand otherwise under J -/
theorem loopF_find {α : Type} {en : α → D} {f : D → List (Option D) → Re} (J : List (Option D) → Prop) (r : α → D) (p : α → Bool) : ∀ {xs : List α}, (∀ x ∈ xs, ∀ ρ, J ρ → (p x = true → ∃ ρ', f (en x) ρ = .rt (r x) ρ') ∧ (p x = false → ∃ ρ', f (en x) ρ = .nx ρ' ∧ J ρ')) →
    ∀ {ρ}, J ρ → (∃ ρ', loopF f (xs.map en) ρ = match xs.find? p with | some x => .rt (r x) ρ' | none => .nx ρ') ∧ (xs.find? p = none → ∃ ρ', loopF f (xs.map en) ρ = .nx ρ' ∧ J ρ')
  | [], _, ρ, j => ⟨⟨ρ, rfl⟩, fun _ => ⟨ρ, rfl, j⟩⟩
  | x :: xs, h, ρ, j => by
    obtain ⟨h1, h2⟩ := h x List.mem_cons_self ρ j
    cases q : p x with
    | true =>
      obtain ⟨ρ', e⟩ := h1 q
      refine ⟨⟨ρ', ?_⟩, fun z => ?_⟩
      · simp only [List.map_cons, loopF, e, List.find?_cons, q]
      · simp [List.find?_cons, q] at z
    | false =>
      obtain ⟨ρ', e, j'⟩ := h2 q
      obtain ⟨⟨ρ2, i1⟩, i2⟩ := loopF_find J r p (fun y hy => h y (List.mem_cons_of_mem _ hy)) j'
      refine ⟨⟨ρ2, ?_⟩, fun z => ?_⟩
      · simp only [List.map_cons, loopF, e, List.find?_cons, q]; exact i1
      · simp only [List.find?_cons, q] at z
        obtain ⟨ρ3, e3, j3⟩ := i2 z
        exact ⟨ρ3, by simp only [List.map_cons, loopF, e]; exact e3, j3⟩
end Pu

set_option Elab.async false
set_option linter.all false
set_option maxRecDepth 100000
/-! Pv3: the interpreter's small steps, for simp. -/
namespace Pu
open PySem PySem.Spec PyProof.Rows L2
section
variable {Φ : Nat → List D → Out (D × List D)} {gv : Nat → D} {pi : List Nat} {ρ : List (Option D)}
@[simp] theorem cmp_lt {i j : Int} : cmpB .lt (.int i) (.int j) = some (decide (i < j)) := id rfl
@[simp] theorem cmp_le {i j : Int} : cmpB .le (.int i) (.int j) = some (decide (i ≤ j)) := id rfl
@[simp] theorem cmp_gt {i j : Int} : cmpB .gt (.int i) (.int j) = some (decide (j < i)) := id rfl
@[simp] theorem cmp_ge {i j : Int} : cmpB .ge (.int i) (.int j) = some (decide (j ≤ i)) := id rfl
@[simp] theorem cmp_eqI {i j : Int} : cmpB .eq (.int i) (.int j) = some (decide (i = j)) := by rw [cmp_eq (n := 0) (m := 0) rfl rfl, eqb_int]
@[simp] theorem cmp_neI {i j : Int} : cmpB .ne (.int i) (.int j) = some (!decide (i = j)) := by rw [cmp_ne (n := 0) (m := 0) rfl rfl, eqb_int]
@[simp] theorem cmp_eqB {i j : Bool} : cmpB .eq (.bl i) (.bl j) = some (i == j) := by cases i <;> cases j <;> rfl
@[simp] theorem cmp_neB {i j : Bool} : cmpB .ne (.bl i) (.bl j) = some (!(i == j)) := by cases i <;> cases j <;> rfl
theorem cmp_eqS {i j : Str} (h : PyData.strOk i = true) (g : PyData.strOk j = true) : cmpB .eq (.str i) (.str j) = some (decide (i = j)) := by rw [cmp_eq (n := 0) (m := 0) (x := .str i) (y := .str j) h g, eqb_str]
theorem cmp_neS {i j : Str} (h : PyData.strOk i = true) (g : PyData.strOk j = true) : cmpB .ne (.str i) (.str j) = some (!decide (i = j)) := by rw [cmp_ne (n := 0) (m := 0) (x := .str i) (y := .str j) h g, eqb_str]
@[simp] theorem tru_bl {b : Bool} : truD (.bl b) = some b := id rfl
@[simp] theorem tru_int {i : Int} : truD (.int i) = some (i != 0) := id rfl
@[simp] theorem bool_bl {b : Bool} : boolD (.bl b) = .ok b := id rfl
@[simp] theorem vw_non : vwD .non = .non := id rfl
@[simp] theorem vw_bl {b : Bool} : vwD (.bl b) = .bl b := id rfl
@[simp] theorem vw_int {b : Int} : vwD (.int b) = .int b := id rfl
@[simp] theorem vw_str {b : Str} : vwD (.str b) = .str b := id rfl
@[simp] theorem vw_tup {b : List D} : vwD (.tup b) = .tup (vwDs b) := id rfl
@[simp] theorem vw_lst {f : Fl} {b : List D} : vwD (.lst f b) = .lst f.vwd (vwDs b) := id rfl
@[simp] theorem fz_non : fzD .non = .non := id rfl
@[simp] theorem fz_bl {b : Bool} : fzD (.bl b) = .bl b := id rfl
@[simp] theorem fz_int {b : Int} : fzD (.int b) = .int b := id rfl
@[simp] theorem fz_str {b : Str} : fzD (.str b) = .str b := id rfl
@[simp] theorem fz_tup {b : List D} : fzD (.tup b) = .tup (fzDs b) := id rfl
@[simp] theorem fz_lst {f : Fl} {b : List D} : fzD (.lst f b) = .lst f.fzd (fzDs b) := id rfl
@[simp] theorem va_non : vaD .non = .non := id rfl
@[simp] theorem va_bl {b : Bool} : vaD (.bl b) = .bl b := id rfl
@[simp] theorem va_int {b : Int} : vaD (.int b) = .int b := id rfl
@[simp] theorem va_str {b : Str} : vaD (.str b) = .str b := id rfl
@[simp] theorem va_tup {b : List D} : vaD (.tup b) = .tup (vaDs b) := id rfl
@[simp] theorem va_lst {f : Fl} {b : List D} : vaD (.lst f b) = .lst f.vwa (vaDs b) := id rfl
@[simp] theorem an_non : anyFz .non = .non := id rfl
@[simp] theorem an_bl {b : Bool} : anyFz (.bl b) = .bl b := id rfl
@[simp] theorem an_int {b : Int} : anyFz (.int b) = .int b := id rfl
@[simp] theorem an_str {b : Str} : anyFz (.str b) = .str b := id rfl
@[simp] theorem an_tup {b : List D} : anyFz (.tup b) = .tup (anyFzs b) := id rfl
@[simp] theorem an_lst {f : Fl} {b : List D} : anyFz (.lst f b) = .lst .fz (anyFzs b) := id rfl
@[simp] theorem nv_non : noVw .non = true := id rfl
@[simp] theorem nv_bl {b : Bool} : noVw (.bl b) = true := id rfl
@[simp] theorem nv_int {b : Int} : noVw (.int b) = true := id rfl
@[simp] theorem nv_str {b : Str} : noVw (.str b) = true := id rfl
@[simp] theorem nv_tup {b : List D} : noVw (.tup b) = noVws b := id rfl
@[simp] theorem nv_lst {f : Fl} {b : List D} : noVw (.lst f b) = (decide (f ≠ .vw) && noVws b) := id rfl
@[simp] theorem vws_nil : vwDs [] = [] := id rfl
@[simp] theorem vws_cons {x : D} {xs : List D} : vwDs (x :: xs) = vwD x :: vwDs xs := id rfl
@[simp] theorem fzs_nil : fzDs [] = [] := id rfl
@[simp] theorem fzs_cons {x : D} {xs : List D} : fzDs (x :: xs) = fzD x :: fzDs xs := id rfl
@[simp] theorem vas_nil : vaDs [] = [] := id rfl
@[simp] theorem vas_cons {x : D} {xs : List D} : vaDs (x :: xs) = vaD x :: vaDs xs := id rfl
@[simp] theorem ans_nil : anyFzs [] = [] := id rfl
@[simp] theorem ans_cons {x : D} {xs : List D} : anyFzs (x :: xs) = anyFz x :: anyFzs xs := id rfl
@[simp] theorem nvs_nil : noVws [] = true := id rfl
@[simp] theorem nvs_cons {x : D} {xs : List D} : noVws (x :: xs) = (noVw x && noVws xs) := id rfl
@[simp] theorem re_ok' {α : Type} {a : α} {f : α → Re} : (Out.ok a).re ρ f = f a := id rfl
@[simp] theorem seq_nx {f : List (Option D) → Re} : (Re.nx ρ).seq f = f ρ := id rfl
@[simp] theorem seq_rt {d : D} {f : List (Option D) → Re} : (Re.rt d ρ).seq f = .rt d ρ := id rfl
@[simp] theorem seq_ct {f : List (Option D) → Re} : (Re.ct ρ).seq f = .ct ρ := id rfl
@[simp] theorem seq_bk {f : List (Option D) → Re} : (Re.bk ρ).seq f = .bk ρ := id rfl
@[simp] theorem chk_eq {α : Type} {b : Bool} {o : Out α} : Out.chk b o = if b = true then o else .bad := id rfl
@[simp] theorem sel_nil : selD ρ [] = some [] := id rfl
@[simp] theorem idx_lst {f : Fl} {xs : List D} {i : Int} : idxD (.lst f xs) (.int i) = match atI xs i with | some d => .ok d | none => .bad := id rfl
@[simp] theorem idx_tup {xs : List D} {i : Int} : idxD (.tup xs) (.int i) = match atI xs i with | some d => .ok d | none => .bad := id rfl
@[simp] theorem fvw_fz : Fl.fz.vwd = .fz := id rfl
@[simp] theorem fvw_ow : Fl.ow.vwd = .vw := id rfl
@[simp] theorem fvw_vw : Fl.vw.vwd = .vw := id rfl
@[simp] theorem ffz_fz : Fl.fz.fzd = .fz := id rfl
@[simp] theorem ffz_ow : Fl.ow.fzd = .fz := id rfl
theorem atI_n {α : Type} {xs : List α} {k : Nat} : atI xs (k : Int) = xs[k]? := by
  unfold atI ixN
  rw [if_pos (Int.natCast_nonneg k)]
  by_cases h : k < xs.length
  · rw [if_pos (by omega)]
    rfl
  · rw [if_neg (by omega), List.getElem?_eq_none (by omega)]
    rfl
@[simp] theorem atI_0 {α : Type} {x : α} {xs : List α} : atI (x :: xs) 0 = some x := atI_n (k := 0)
@[simp] theorem atI_1 {α : Type} {x y : α} {xs : List α} : atI (x :: y :: xs) 1 = some y := atI_n (k := 1)
@[simp] theorem atI_2 {α : Type} {x y z : α} {xs : List α} : atI (x :: y :: z :: xs) 2 = some z := atI_n (k := 2)
@[simp] theorem atI_3 {α : Type} {x y z u : α} {xs : List α} : atI (x :: y :: z :: u :: xs) 3 = some u := atI_n (k := 3)
end
/-! ### statements whose value is clean at once -/
/-- what a value comes to: clean, or by the slow way s -/
def cleanK (o : Out D) (ρ : List (Option D)) (s : Re) (k : D → Re) : Re := match o with
  | .ok d => if noVw d = true then k d else s
  | .exc x => .ex x ρ
  | .bad => s
@[simp] theorem cleanK_ok {d : D} {ρ : List (Option D)} {s : Re} {k : D → Re} : cleanK (.ok d) ρ s k = if noVw d = true then k d else s := id rfl
@[simp] theorem cleanK_ite {c : Prop} [Decidable c] {a b : Out D} {ρ : List (Option D)} {s : Re} {k : D → Re} : cleanK (if c then a else b) ρ s k = if c then cleanK a ρ s k else cleanK b ρ s k := by split <;> rfl
section
variable (Φ : Nat → List D → Out (D × List D)) (gv : Nat → D) (pi : List Nat)
def setSlow (t : Tg) (e : Ex) (ρ : List (Option D)) : Re := (ev Φ gv e (frzs pi (fvs e) ρ)).re (frzs pi (fvs e) ρ) fun d => bindC t d (frzs pi (fvs e) ρ)
def retSlow (e : Ex) (ρ : List (Option D)) : Re := (ev Φ gv e (frzs pi (fvs e) ρ)).re (frzs pi (fvs e) ρ) fun d => if noVw d = true then .rt d (frzs pi (fvs e) ρ) else .bad
def appR (i : Nat) (p : List Pt) (e : Ex) (ρ : List (Option D)) (y : D) : Re := ((slotD ρ i).bind fun d => evp Φ gv p ρ d).re ρ fun q => match subAt ρ i q with
  | some (.lst .ow xs) => if noVw y = true ∧ xs.length < sizeLine then putAt ρ i q (.lst .ow (xs ++ [y])) else .bad
  | _ => .bad
end
section
variable {Φ : Nat → List D → Out (D × List D)} {gv : Nat → D} {pi : List Nat} {ρ : List (Option D)}
theorem run_ret {e : Ex} : run1 Φ gv pi (.ret e) ρ = cleanK (ev Φ gv e ρ) ρ (retSlow Φ gv pi e ρ) fun d => .rt d ρ := by
  simp only [run1, prep, cleanK, retSlow]
  cases h : ev Φ gv e ρ with
  | ok d =>
    by_cases n : noVw d = true
    · simp [n, h]
    · simp [n]
  | exc x => simp [h, Out.re]
  | bad => simp
theorem run_set {t : Tg} {e : Ex} : run1 Φ gv pi (.set t e) ρ = cleanK (ev Φ gv e ρ) ρ (setSlow Φ gv pi t e ρ) fun d => bindC t d ρ := by
  simp only [run1, prep, cleanK, setSlow]
  cases h : ev Φ gv e ρ with
  | ok d =>
    by_cases n : noVw d = true
    · simp [n, h]
    · simp [n]
  | exc x => simp [h, Out.re]
  | bad => simp
theorem run_ite {c : Ex} {a b : List Sm} : run1 Φ gv pi (.ite c a b) ρ = (((ev Φ gv c ρ).bind fun d => Out.ofo (truD d))).re ρ fun k => if k = true then runs Φ gv pi a ρ else runs Φ gv pi b ρ := by simp only [run1]
theorem runs_nil : runs Φ gv pi [] ρ = .nx ρ := by simp only [runs]
theorem runs_cons {s : Sm} {ss : List Sm} : runs Φ gv pi (s :: ss) ρ = (run1 Φ gv pi s ρ).seq fun ρ' => runs Φ gv pi ss ρ' := by simp only [runs]
@[simp] theorem seq_ite {c : Prop} [Decidable c] {a b : Re} {f : List (Option D) → Re} : (if c then a else b).seq f = if c then a.seq f else b.seq f := by split <;> rfl
@[simp] theorem bind_ite {α β : Type} {c : Prop} [Decidable c] {a b : Out α} {f : α → Out β} : (if c then a else b).bind f = if c then a.bind f else b.bind f := by split <;> rfl
@[simp] theorem re_ite {α : Type} {c : Prop} [Decidable c] {a b : Out α} {f : α → Re} : (if c then a else b).re ρ f = if c then a.re ρ f else b.re ρ f := by split <;> rfl
end
/-- what a def's block comes to for its caller -/
def fnEnd (is : List Nat) : Re → Out (D × List D)
  | .nx ρ => match selD ρ is with | some ms => .ok (.non, ms) | none => .bad
  | .rt d ρ => match selD ρ is with | some ms => .ok (d, ms) | none => .bad
  | .ex x ρ => match selD ρ is with | some ms => .exc ⟨x.c, x.ns, x.xs, ms⟩ | none => .bad
  | _ => .bad
theorem fnD_eq {Φ : Nat → List D → Out (D × List D)} {gv : Nat → D} {F : Fun} {ds : List D} : fnD Φ gv F ds = if ds.length = F.np then fnEnd F.is (runs Φ gv F.is F.b (ds.map some ++ List.replicate (F.n - F.np) none)) else .bad := by
  unfold fnD fnEnd
  rfl
@[simp] theorem fnEnd_rt {d : D} {ρ : List (Option D)} : fnEnd [] (.rt d ρ) = .ok (d, []) := id rfl
@[simp] theorem fnEnd_nx {ρ : List (Option D)} : fnEnd [] (.nx ρ) = .ok (.non, []) := id rfl
@[simp] theorem fnEnd_ite {is : List Nat} {c : Prop} [Decidable c] {a b : Re} : fnEnd is (if c then a else b) = if c then fnEnd is a else fnEnd is b := by split <;> rfl
section
variable {Φ : Nat → List D → Out (D × List D)} {gv : Nat → D} {ρ : List (Option D)} {α : Type} {en : α → D} {xs : List α} {b : Bool} {own : List Nat} {e : Ex} {tg : Tg} {it : It} {cs : List Ex}
theorem ev_any {p : α → Bool} (hi : evIt Φ gv it ρ = .ok (xs.map en, b)) (h : ∀ x ∈ xs, ((bindTg tg (en x) (wipeD ρ own)).bind fun ρ' => (ev Φ gv e ρ').bind boolD) = .ok (p x)) : ev Φ gv (.gen false own e tg it) ρ = .ok (.bl (xs.any p)) := by
  simp only [ev, hi, Out.bind_ok]
  rw [genL_any (en := en) (p := p) h]
  rfl
theorem ev_all {p : α → Bool} (hi : evIt Φ gv it ρ = .ok (xs.map en, b)) (h : ∀ x ∈ xs, ((bindTg tg (en x) (wipeD ρ own)).bind fun ρ' => (ev Φ gv e ρ').bind boolD) = .ok (p x)) : ev Φ gv (.gen true own e tg it) ρ = .ok (.bl (xs.all p)) := by
  simp only [ev, hi, Out.bind_ok]
  rw [genL_all (en := en) (p := p) h]
  rfl
theorem ev_compF {p : α → Bool} {f : α → D} (hi : evIt Φ gv it ρ = .ok (xs.map en, b)) (hs : xs.length ≤ sizeLine)
    (h : ∀ x ∈ xs, ((bindTg tg (en x) (wipeD ρ own)).bind fun ρ' => (evc Φ gv cs ρ').bind fun b => if b = true then (ev Φ gv e ρ').bind fun y => .ok (some y) else .ok none) = .ok (if p x = true then some (f x) else none)) :
    ev Φ gv (.comp own e tg it cs) ρ = .ok (.lst .ow ((xs.filter p).map f)) := by
  simp only [ev, hi, Out.bind_ok]
  rw [compL_enc (en := en) (p := p) (h := f) h]
  have z : (xs.filter p).length ≤ sizeLine := Nat.le_trans (List.length_filter_le _ _) hs
  simp [z]
theorem ev_comp {f : α → D} (hi : evIt Φ gv it ρ = .ok (xs.map en, b)) (hs : xs.length ≤ sizeLine)
    (h : ∀ x ∈ xs, ((bindTg tg (en x) (wipeD ρ own)).bind fun ρ' => (ev Φ gv e ρ').bind fun y => .ok (some y)) = .ok (some (f x))) :
    ev Φ gv (.comp own e tg it []) ρ = .ok (.lst .ow (xs.map f)) := by
  have z := ev_compF (Φ := Φ) (gv := gv) (e := e) (tg := tg) (own := own) (cs := []) (p := fun _ => true) (f := f) hi hs fun x hx => by simpa [evc] using h x hx
  rwa [List.filter_eq_self.mpr fun _ _ => rfl] at z
end
end Pu

set_option Elab.async false
set_option linter.all false
set_option maxRecDepth 100000
/-! Pv4: what expressions come to, one form each (for simp). -/
namespace Pu
open PySem PySem.Spec PyProof.Rows L2
section
variable {Φ : Nat → List D → Out (D × List D)} {gv : Nat → D} {ρ : List (Option D)} {a b c : Ex} {es : List Ex}
@[simp] theorem ev_var {i : Nat} : ev Φ gv (.var i) ρ = match ρ[i]? with | some (some d) => .ok (vwD d) | _ => .bad := by unfold ev; rfl
@[simp] theorem ev_non : ev Φ gv .non ρ = .ok .non := by simp only [ev]
@[simp] theorem ev_bl {i : Bool} : ev Φ gv (.bl i) ρ = .ok (.bl i) := by simp only [ev]
@[simp] theorem ev_int {i : Int} : ev Φ gv (.int i) ρ = .ok (.int i) := by simp only [ev]
@[simp] theorem ev_str {i : Str} : ev Φ gv (.str i) ρ = .ok (.str i) := by simp only [ev]
@[simp] theorem ev_bin {o : Bop} : ev Φ gv (.bin o a b) ρ = (ev Φ gv a ρ).bind fun x => (ev Φ gv b ρ).bind fun y => binD o x y := by simp only [ev]
@[simp] theorem ev_neg : ev Φ gv (.neg a) ρ = (ev Φ gv a ρ).bind negD := by simp only [ev]
@[simp] theorem ev_not : ev Φ gv (.not a) ρ = (ev Φ gv a ρ).bind fun x => (Out.ofo (truD x)).bind fun b => .ok (.bl (!b)) := by simp only [ev]
@[simp] theorem ev_cmp {o : Cop} : ev Φ gv (.cmp o a b) ρ = (ev Φ gv a ρ).bind fun x => (ev Φ gv b ρ).bind fun y => (Out.ofo (cmpB o x y)).bind fun t => .ok (.bl t) := by simp only [ev]
@[simp] theorem ev_and : ev Φ gv (.and a b) ρ = (ev Φ gv a ρ).bind fun x => (Out.ofo (truD x)).bind fun t => if t = true then ev Φ gv b ρ else .ok x := by simp only [ev]
@[simp] theorem ev_or : ev Φ gv (.or a b) ρ = (ev Φ gv a ρ).bind fun x => (Out.ofo (truD x)).bind fun t => if t = true then .ok x else ev Φ gv b ρ := by simp only [ev]
@[simp] theorem ev_ife : ev Φ gv (.ife c a b) ρ = (ev Φ gv c ρ).bind fun x => (Out.ofo (truD x)).bind fun t => if t = true then ev Φ gv a ρ else ev Φ gv b ρ := by simp only [ev]
@[simp] theorem ev_tup : ev Φ gv (.tup es) ρ = (evs Φ gv es ρ).bind fun ds => .chk (decide (ds.length ≤ sizeLine)) (.ok (.tup ds)) := by simp only [ev]
@[simp] theorem ev_lst : ev Φ gv (.lst es) ρ = (evs Φ gv es ρ).bind fun ds => .chk (decide (ds.length ≤ sizeLine)) (.ok (.lst .ow ds)) := by simp only [ev]
@[simp] theorem ev_idx : ev Φ gv (.idx a b) ρ = (ev Φ gv a ρ).bind fun x => (ev Φ gv b ρ).bind fun y => idxD x y := by simp only [ev]
@[simp] theorem ev_slc {lo hi : List Ex} : ev Φ gv (.slc a lo hi) ρ = (ev Φ gv a ρ).bind fun x => ((evs Φ gv lo ρ).bind optI).bind fun l => ((evs Φ gv hi ρ).bind optI).bind fun h => slcD x l h := by simp only [ev]
@[simp] theorem ev_rev : ev Φ gv (.rev a) ρ = (ev Φ gv a ρ).bind revD := by simp only [ev]
@[simp] theorem ev_bi {f : Bi} : ev Φ gv (.bi f es) ρ = (evs Φ gv es ρ).bind fun ds => biD f ds := by simp only [ev]
@[simp] theorem ev_isi {t : Ty} : ev Φ gv (.isi a t) ρ = (ev Φ gv a ρ).bind fun x => (tyD t x).bind fun b => .ok (.bl b) := by simp only [ev]
@[simp] theorem ev_call {k : Nat} : ev Φ gv (.call k es) ρ = (evs Φ gv es ρ).bind fun ds => callD Φ k ds := by simp only [ev]
@[simp] theorem ev_mk {c k : Nat} : ev Φ gv (.mk c k es) ρ = (evs Φ gv es ρ).bind fun ds => mkD Φ c k ds := by simp only [ev]
@[simp] theorem ev_fld {f : Str} : ev Φ gv (.fld a f) ρ = (ev Φ gv a ρ).bind fun x => fldD f x := by simp only [ev]
@[simp] theorem evs_nil : evs Φ gv [] ρ = .ok [] := by simp only [evs]
@[simp] theorem evs_cons : evs Φ gv (a :: es) ρ = (ev Φ gv a ρ).bind fun x => (evs Φ gv es ρ).bind fun xs => .ok (x :: xs) := by simp only [evs]
@[simp] theorem evc_nil : evc Φ gv [] ρ = .ok true := by simp only [evc]
@[simp] theorem evc_cons : evc Φ gv (a :: es) ρ = (ev Φ gv a ρ).bind fun x => (Out.ofo (truD x)).bind fun b => if b = true then evc Φ gv es ρ else .ok false := by simp only [evc]
@[simp] theorem evIt_of : evIt Φ gv (.of a) ρ = (ev Φ gv a ρ).bind fun x => (ofD (fzD x)).bind fun xs => .ok (xs, noVw x) := by simp only [evIt]
@[simp] theorem evIt_rng : evIt Φ gv (.rng es) ρ = (evs Φ gv es ρ).bind fun ds => (rngA ds).bind fun xs => .ok (xs, true) := by simp only [evIt]
@[simp] theorem evIt_enum : evIt Φ gv (.enum a) ρ = (ev Φ gv a ρ).bind fun x => (listD (fzD x)).bind fun xs => .ok (enumL 0 xs, noVw x) := by simp only [evIt]
@[simp] theorem bi_lenL {f : Fl} {xs : List D} : biD .len [.lst f xs] = .ok (.int xs.length) := id rfl
@[simp] theorem bi_lenT {xs : List D} : biD .len [.tup xs] = .ok (.int xs.length) := id rfl
@[simp] theorem bi_int {i : Int} : biD .int [.int i] = .ok (.int i) := id rfl
@[simp] theorem bi_intB {i : Bool} : biD .int [.bl i] = .ok (.int (if i then 1 else 0)) := id rfl
@[simp] theorem bi_tupL {f : Fl} {xs : List D} : biD .tuple [.lst f xs] = .ok (.tup xs) := id rfl
@[simp] theorem bi_tupT {xs : List D} : biD .tuple [.tup xs] = .ok (.tup xs) := id rfl
@[simp] theorem bi_lstL {f : Fl} {xs : List D} : biD .list [.lst f xs] = .ok (.lst .ow xs) := id rfl
@[simp] theorem bi_lstT {xs : List D} : biD .list [.tup xs] = .ok (.lst .ow xs) := id rfl
@[simp] theorem bin_addI {i j : Int} : binD .add (.int i) (.int j) = .ok (.int (i + j)) := id rfl
@[simp] theorem bin_subI {i j : Int} : binD .sub (.int i) (.int j) = .ok (.int (i - j)) := id rfl
@[simp] theorem bin_addL {f g : Fl} {xs ys : List D} : binD .add (.lst f xs) (.lst g ys) = .chk (decide (xs.length + ys.length ≤ sizeLine)) (.ok (.lst .ow (xs ++ ys))) := id rfl
@[simp] theorem ofD_lst {f : Fl} {xs : List D} : ofD (.lst f xs) = .ok xs := id rfl
@[simp] theorem ofD_tup {xs : List D} : ofD (.tup xs) = .ok xs := id rfl
@[simp] theorem optI_n : optI [] = .ok none := id rfl
@[simp] theorem optI_i {i : Int} : optI [.int i] = .ok (some i) := id rfl
@[simp] theorem slc_lst {f : Fl} {xs : List D} {lo hi : Option Int} : slcD (.lst f xs) lo hi = .ok (.lst .ow (cutD xs lo hi)) := id rfl
end
end Pu

set_option Elab.async false
set_option linter.all false
set_option maxRecDepth 100000
/-! Pv5: append, loops. -/
namespace Pu
open PySem PySem.Spec PyProof.Rows L2
/-- a clean value, or the slow way -/
def cleanO (o : Out D) (s : Re) (k : D → Re) : Re := match o with
  | .ok d => if noVw d = true then k d else s
  | _ => s
@[simp] theorem cleanO_ok {d : D} {s : Re} {k : D → Re} : cleanO (.ok d) s k = if noVw d = true then k d else s := id rfl
@[simp] theorem cleanO_ite {c : Prop} [Decidable c] {a b : Out D} {s : Re} {k : D → Re} : cleanO (if c then a else b) s k = if c then cleanO a s k else cleanO b s k := by split <;> rfl
def appK (ρ : List (Option D)) (i : Nat) (y : D) : Re := match ρ[i]? with
  | some (some (.lst .ow xs)) => if xs.length < sizeLine then .nx (ρ.set i (some (.lst .ow (xs ++ [y])))) else .bad
  | _ => .bad
def appSlow (Φ : Nat → List D → Out (D × List D)) (gv : Nat → D) (pi : List Nat) (i : Nat) (e : Ex) (ρ : List (Option D)) : Re := run1 Φ gv pi (.app i [] e) ρ
section
variable {Φ : Nat → List D → Out (D × List D)} {gv : Nat → D} {pi : List Nat} {ρ : List (Option D)}
theorem run_app {i : Nat} {e : Ex} : run1 Φ gv pi (.app i [] e) ρ = cleanO (ev Φ gv e ρ) (appSlow Φ gv pi i e ρ) (appK ρ i) := by
  unfold appSlow
  cases h : ev Φ gv e ρ with
  | ok d =>
    by_cases n : noVw d = true
    · have hp : prep Φ gv pi e ρ = ρ := by unfold prep; simp only [h, n, if_true]
      simp only [run1, hp, h, cleanO, n, if_true, appK, slotD, subAt, putAt]
      cases q : ρ[i]? with
      | none => rfl
      | some o => cases o with
        | none => rfl
        | some x => cases x with
          | lst f xs => cases f <;> simp [evp, subD, updD, Out.bind, Out.re, n]
          | _ => rfl
    · simp only [cleanO, n]
      rfl
  | exc x => rfl
  | bad => rfl
theorem run_fr {t : Tg} {it : It} {b : List Sm} {xs : List D} (h : evIt Φ gv it ρ = .ok (xs, true)) (n : noVws xs = true) : run1 Φ gv pi (.fr t it b) ρ = loopF (fun x ρ => (bindC t x ρ).seq fun ρ' => runs Φ gv pi b ρ') xs ρ := by
  have hp : prepI Φ gv pi it ρ = ρ := by unfold prepI; simp only [h, n, and_self, if_true]
  simp only [run1, hp, h, re_ok', if_true]
theorem run_rtv {i : Nat} : run1 Φ gv pi (.rtv i) ρ = match ρ[i]? with | some (some d) => .rt d (ρ.set i none) | _ => .bad := by unfold run1; rfl
end
theorem intsFrom_eq (n : Nat) : ∀ (k : Nat), intsFrom (k : Int) n = (List.range' k n).map fun (j : Nat) => D.int (j : Int) := by
  induction n with
  | zero => intro k; rfl
  | succ n ih =>
    intro k
    rw [intsFrom, List.range'_succ, List.map_cons, show (k : Int) + 1 = ((k + 1 : Nat) : Int) by omega, ih]
theorem rng_eq {n : Nat} (h : n ≤ 1000000) : rngA [.int (n : Int)] = .ok ((List.range n).map fun (j : Nat) => D.int (j : Int)) := by
  have z : rngA [.int (n : Int)] = rngD 0 n := rfl
  rw [z]
  unfold rngD
  have e : ((n : Int) - 0).toNat = n := by omega
  rw [e, show (0 : Int) = ((0 : Nat) : Int) from rfl, intsFrom_eq, List.range_eq_range']
  have g : (-(2 ^ 62) ≤ ((0 : Nat) : Int) ∧ ((0 : Nat) : Int) < 2 ^ 62 ∧ -(2 ^ 62) ≤ (n : Int) ∧ (n : Int) < 2 ^ 62) := by omega
  simp only [chk_eq, decide_eq_true_eq, if_pos g]
theorem ints_flat {n : Nat} {α : Type} {g : α → Int} {xs : List α} : flats n (xs.map fun x => D.int (g x)) = true := by
  rw [flats_iff]
  intro x hx
  obtain ⟨j, _, rfl⟩ := List.mem_map.mp hx
  simp [flat]
@[simp] theorem bin_modI {i j : Int} : binD .mod (.int i) (.int j) = if 0 < j then .ok (.int (i % j)) else .bad := by
  show Out.chk _ _ = _
  simp
@[simp] theorem bin_fdivI {i j : Int} : binD .fdiv (.int i) (.int j) = if 0 < j ∧ j < 1073741824 then .ok (.int (i / j)) else .bad := by
  show Out.chk _ _ = _
  simp
theorem bin_mulI {i j : Int} (h : -(2 ^ 64) < j ∧ j < 2 ^ 64) : binD .mul (.int i) (.int j) = .ok (.int (i * j)) := by
  show Out.chk _ _ = _
  simp only [h, and_self, decide_true, Bool.or_true, Out.chk_true]
theorem bin_powI : binD .pow (.int 10) (.int 18) = .ok (.int 1000000000000000000) := by
  show Out.chk _ _ = _
  simp
@[simp] theorem bindC_nm {i : Nat} {d : D} {ρ : List (Option D)} : Pu.bindC (.nm i) d ρ = if noVw d = true then (if i < ρ.length then .nx (ρ.set i (some d)) else .bad) else .bad := by
  unfold Pu.bindC bindTg
  split
  · by_cases h : i < ρ.length <;> simp [h]
  · rfl
theorem evIt_rng1 {Φ : Nat → List D → Out (D × List D)} {gv : Nat → D} {ρ : List (Option D)} {i : Nat} {d : D} {zs : List D} (h : ρ[i]? = some (some d)) (hv : vwD d = d) (e : rngA [d] = .ok zs) : evIt Φ gv (.rng [.var i]) ρ = .ok (zs, true) := by
  rw [evIt_rng, evs_cons, evs_nil, ev_var, h]
  show (rngA [vwD d]).bind _ = _
  rw [hv, e]
  rfl
theorem evIt_range {Φ : Nat → List D → Out (D × List D)} {gv : Nat → D} {ρ : List (Option D)} {i c : Nat} (h : ρ[i]? = some (some (.int (c : Int)))) (hc : c ≤ 1000000) : evIt Φ gv (.rng [.var i]) ρ = .ok ((List.range c).map fun (j : Nat) => D.int (j : Int), true) := evIt_rng1 h rfl (rng_eq hc)
end Pu

set_option Elab.async false
set_option linter.all false
set_option maxRecDepth 100000
/-! Pv6: encoded lists, good texts. -/
namespace Pu
open PySem PySem.Spec PyProof.Rows L2
section
variable {α : Type} {f : α → D} {xs : List α} {a b : List D} {n k : Nat}
@[simp] theorem vwDs_map : vwDs (xs.map f) = xs.map fun x => vwD (f x) := by rw [vwDs_eq, List.map_map]; rfl
@[simp] theorem fzDs_map : fzDs (xs.map f) = xs.map fun x => fzD (f x) := by rw [fzDs_eq, List.map_map]; rfl
@[simp] theorem vaDs_map : vaDs (xs.map f) = xs.map fun x => vaD (f x) := by rw [vaDs_eq, List.map_map]; rfl
theorem anyFzs_eq : ∀ xs : List D, anyFzs xs = xs.map anyFz
  | [] => rfl
  | x :: xs => by simp only [anyFzs, List.map_cons, anyFzs_eq xs]
@[simp] theorem anyFzs_map : anyFzs (xs.map f) = xs.map fun x => anyFz (f x) := by rw [anyFzs_eq, List.map_map]; rfl
@[simp] theorem noVws_map : noVws (xs.map f) = xs.all fun x => noVw (f x) := by rw [noVws_eq, List.all_map]; rfl
theorem flats_eq : ∀ xs : List D, flats n xs = xs.all (flat n)
  | [] => rfl
  | x :: xs => by simp only [flats, List.all_cons, flats_eq xs]
@[simp] theorem flats_map : flats n (xs.map f) = xs.all fun x => flat n (f x) := by rw [flats_eq, List.all_map]; rfl
@[simp] theorem all_tt : (xs.all fun _ => true) = true := by simp
@[simp] theorem vwDs_app : vwDs (a ++ b) = vwDs a ++ vwDs b := by simp [vwDs_eq]
@[simp] theorem fzDs_app : fzDs (a ++ b) = fzDs a ++ fzDs b := by simp [fzDs_eq]
@[simp] theorem vaDs_app : vaDs (a ++ b) = vaDs a ++ vaDs b := by simp [vaDs_eq]
@[simp] theorem anyFzs_app : anyFzs (a ++ b) = anyFzs a ++ anyFzs b := by simp [anyFzs_eq]
@[simp] theorem noVws_app' : noVws (a ++ b) = (noVws a && noVws b) := by simp [noVws_eq]
@[simp] theorem flats_app : flats n (a ++ b) = (flats n a && flats n b) := by simp [flats_eq]
@[simp] theorem flats_nil : flats n [] = true := id rfl
@[simp] theorem flats_cons {x : D} {xs : List D} : flats n (x :: xs) = (flat n x && flats n xs) := id rfl
@[simp] theorem flat_tup {xs : List D} : flat (n + 1) (.tup xs) = flats n xs := by rw [flat]
@[simp] theorem flat_int {i : Int} : flat n (.int i) = true := by cases n <;> rfl
@[simp] theorem flat_non : flat n .non = true := by cases n <;> rfl
@[simp] theorem flat_str {x : Str} : flat n (.str x) = PyData.strOk x := by cases n <;> rfl
end
/-! ### good texts -/
structure OkS where
  val : Str
  prop : PyData.strOk val = true
  deriving DecidableEq
@[simp] theorem OkS.ok (w : OkS) : PyData.strOk w.1 = true := w.2
theorem OkS.ext {a b : OkS} (h : a.1 = b.1) : a = b := by cases a; cases b; cases h; rfl
@[simp] theorem OkS.eq1 {a b : OkS} : (a.1 = b.1) = (a = b) := propext ⟨OkS.ext, fun h => by rw [h]⟩
theorem strOk_app {a b : Str} (h : PyData.strOk a = true) (g : PyData.strOk b = true) : PyData.strOk (a ++ b) = true := by
  unfold PyData.strOk at *
  show Array.all (a.cps ++ b.cps) _ = true
  rw [Array.all_append, h, g]; rfl
/-! ### comparisons -/
section
variable {x y : D} {xs ys : List D} {f g : Fl}
theorem cmp_eq8 (hx : flat 8 x = true) (hy : flat 8 y = true) : cmpB .eq x y = some (eqb x y) := cmp_eq hx hy
theorem cmp_ne8 (hx : flat 8 x = true) (hy : flat 8 y = true) : cmpB .ne x y = some (!eqb x y) := cmp_ne hx hy
theorem cmp_eqL8 (hx : flats 8 xs = true) (hy : flats 8 ys = true) : cmpB .eq (.lst f xs) (.lst g ys) = some (eqbs xs ys) := cmp_eqL hx hy
theorem cmp_neL8 (hx : flats 8 xs = true) (hy : flats 8 ys = true) : cmpB .ne (.lst f xs) (.lst g ys) = some (!eqbs xs ys) := cmp_neL hx hy
theorem cmp_inL8 (hx : flat 8 x = true) (hy : flats 8 ys = true) : cmpB .isIn x (.lst f ys) = some (memb x ys) := cmp_inL hx hy
theorem cmp_inT8 (hx : flat 8 x = true) (hy : flats 8 ys = true) : cmpB .isIn x (.tup ys) = some (memb x ys) := cmp_inT hx hy
end
theorem eqbs_inj {α : Type} [DecidableEq α] {en : α → D} (h : ∀ a b, en a = en b → a = b) {xs ys : List α} : eqbs (xs.map en) (ys.map en) = decide (xs = ys) := bool_of (by
  rw [eqbs_iff, decide_eq_true_iff]
  constructor
  · intro e
    induction xs generalizing ys with
    | nil => cases ys with | nil => rfl | cons _ _ => simp at e
    | cons x xs ih => cases ys with
      | nil => simp at e
      | cons y ys => simp only [List.map_cons, List.cons.injEq] at e; rw [h _ _ e.1, ih e.2]
  · intro e; rw [e])
theorem memb_inj {α : Type} [DecidableEq α] {en : α → D} (h : ∀ a b, en a = en b → a = b) {x : α} {ys : List α} : memb (en x) (ys.map en) = decide (x ∈ ys) := bool_of (by
  rw [memb_iff, decide_eq_true_iff, List.mem_map]
  exact ⟨fun ⟨y, hy, e⟩ => by rw [← h _ _ e]; exact hy, fun hx => ⟨x, hx, rfl⟩⟩)
/-! ### parts of lists -/
section
variable {α β : Type} {xs : List α} {k j : Nat}
theorem cut_nn : cutD xs none none = xs := by
  simp [cutD, HT.sIx]
theorem sIx_nat {n d : Nat} : HT.sIx n d (some (k : Int)) = min k n := by
  unfold HT.sIx
  simp only [Int.ofNat_nonneg, if_true]
  first | rfl | simp | omega
@[simp] theorem cut_to : cutD xs none (some (k : Int)) = xs.take k := by
  unfold cutD
  rw [sIx_nat]
  have e : HT.sIx xs.length 0 none = 0 := by simp [HT.sIx]
  rw [e, List.drop_zero, Nat.sub_zero]
  by_cases h : k ≤ xs.length
  · rw [Nat.min_eq_left h]
  · rw [Nat.min_eq_right (by omega), List.take_of_length_le (by omega), List.take_of_length_le (by omega)]
@[simp] theorem cut_from : cutD xs (some (k : Int)) none = xs.drop k := by
  unfold cutD
  rw [sIx_nat]
  have e : HT.sIx xs.length xs.length none = xs.length := by simp [HT.sIx]
  rw [e]
  by_cases h : k ≤ xs.length
  · rw [Nat.min_eq_left h, List.take_of_length_le (by simp)]
  · rw [Nat.min_eq_right (by omega), Nat.sub_self, List.take_zero, List.drop_of_length_le (by omega)]
@[simp] theorem cut_mid : cutD xs (some (j : Int)) (some (k : Int)) = (xs.drop j).take (k - j) := by
  unfold cutD
  rw [sIx_nat, sIx_nat]
  by_cases h : j ≤ xs.length
  · rw [Nat.min_eq_left h]
    by_cases g : k ≤ xs.length
    · rw [Nat.min_eq_left g]
    · rw [Nat.min_eq_right (by omega), List.take_of_length_le (by simp), List.take_of_length_le (by simp; omega)]
  · rw [Nat.min_eq_right (a := j) (by omega), List.drop_of_length_le (by omega), List.drop_of_length_le (by omega)]
    simp
@[simp] theorem cut_from1 : cutD xs (some ((k : Int) + 1)) none = xs.drop (k + 1) := cut_from (k := k + 1)
@[simp] theorem cut_from2 : cutD xs (some ((k : Int) + 2)) none = xs.drop (k + 2) := cut_from (k := k + 2)
theorem cut_to' {i : Int} (h : 0 ≤ i) : cutD xs none (some i) = xs.take i.toNat := by
  have e := cut_to (xs := xs) (k := i.toNat)
  rwa [Int.toNat_of_nonneg h] at e
theorem cut_from' {i : Int} (h : 0 ≤ i) : cutD xs (some i) none = xs.drop i.toNat := by
  have e := cut_from (xs := xs) (k := i.toNat)
  rwa [Int.toNat_of_nonneg h] at e
end
theorem atI_i {α : Type} {xs : List α} {i : Int} (h : 0 ≤ i) : atI xs i = xs[i.toNat]? := by
  have e := atI_n (xs := xs) (k := i.toNat)
  rwa [Int.toNat_of_nonneg h] at e
/-! ### a loop -/
section
variable {Φ : Nat → List D → Out (D × List D)} {gv : Nat → D} {pi : List Nat} {ρ : List (Option D)}
/-- a loop by an invariant on the slots, place by place -/
theorem fr_inv {α : Type} {en : α → D} {xs : List α} {t : Tg} {it : It} {b : List Sm} (J : Nat → List (Option D) → Prop) (hi : evIt Φ gv it ρ = .ok (xs.map en, true)) (hn : noVws (xs.map en) = true) (h0 : J 0 ρ)
    (step : ∀ i x ρ, xs[i]? = some x → J i ρ → ∃ ρ', (((bindC t (en x) ρ).seq fun ρ' => runs Φ gv pi b ρ') = .nx ρ' ∨ ((bindC t (en x) ρ).seq fun ρ' => runs Φ gv pi b ρ') = .ct ρ') ∧ J (i + 1) ρ') :
    ∃ ρ', run1 Φ gv pi (.fr t it b) ρ = .nx ρ' ∧ J xs.length ρ' := by
  rw [run_fr hi hn]
  exact loopF_for J step h0
/-- a loop that looks for something: returned at the first that p picks -/
theorem fr_find {α : Type} {en : α → D} {xs : List α} {t : Tg} {it : It} {b : List Sm} (J : List (Option D) → Prop) (r : α → D) (p : α → Bool) (hi : evIt Φ gv it ρ = .ok (xs.map en, true)) (hn : noVws (xs.map en) = true) (h0 : J ρ)
    (step : ∀ x ∈ xs, ∀ ρ, J ρ → (p x = true → ∃ ρ', ((bindC t (en x) ρ).seq fun ρ' => runs Φ gv pi b ρ') = .rt (r x) ρ') ∧ (p x = false → ∃ ρ', ((bindC t (en x) ρ).seq fun ρ' => runs Φ gv pi b ρ') = .nx ρ' ∧ J ρ')) :
    (∃ x ρ', xs.find? p = some x ∧ run1 Φ gv pi (.fr t it b) ρ = .rt (r x) ρ') ∨ (∃ ρ', xs.find? p = none ∧ run1 Φ gv pi (.fr t it b) ρ = .nx ρ' ∧ J ρ') := by
  rw [run_fr hi hn]
  obtain ⟨⟨ρ', h1⟩, h2⟩ := loopF_find (en := en) (f := fun x ρ => (bindC t x ρ).seq fun ρ' => runs Φ gv pi b ρ') (xs := xs) J r p step h0
  cases h : xs.find? p with
  | some x => rw [h] at h1; exact .inl ⟨x, ρ', rfl, h1⟩
  | none => obtain ⟨ρ2, e, j⟩ := h2 h; exact .inr ⟨ρ2, rfl, e, j⟩
end
end Pu

set_option Elab.async false
set_option linter.all false
set_option maxRecDepth 100000
/-! Pv7: lists made by a loop, for simp; literals; calls. -/
namespace Pu
open PySem PySem.Spec PyProof.Rows L2
/-- the j-th, where there is one -/
def nth {α : Type} [Inhabited α] (xs : List α) (j : Nat) : α := (xs[j]?).getD default
theorem get_nth {α : Type} [Inhabited α] {xs : List α} {j : Nat} (h : j < xs.length) : xs[j]? = some (nth xs j) := by
  unfold nth
  rw [List.getElem?_eq_getElem h]; rfl
theorem nth_mem {α : Type} [Inhabited α] {xs : List α} {j : Nat} (h : j < xs.length) : nth xs j ∈ xs := List.mem_of_getElem? (get_nth h)
/-- a list made by a loop over natural data -/
def compE {α : Type} (g : α → Out (Option D)) : List α → Out (List D)
  | [] => .ok []
  | x :: xs => (g x).bind fun y => (compE g xs).bind fun ys => .ok (match y with | some y => y :: ys | none => ys)
/-- .. over the first n numbers -/
def compR (n : Nat) (g : Nat → Out (Option D)) : Out (List D) := compE g (List.range n)
section
variable {α : Type} {g : α → Out (Option D)} {en : α → D} {ys : List α}
theorem compL_E {g : D → Out (Option D)} : compL (ys.map en) g = compE (fun y => g (en y)) ys := by
  induction ys with
  | nil => rfl
  | cons y ys ih => simp only [List.map_cons, compL, compE, ih]; try rfl
theorem compL_D {xs : List D} {g : D → Out (Option D)} : compL xs g = compE g xs := by
  induction xs with
  | nil => rfl
  | cons y ys ih => simp only [compL, compE, ih]; try rfl
theorem compL_R {n : Nat} {g : D → Out (Option D)} : compL ((List.range n).map fun (j : Nat) => D.int (j : Int)) g = compR n fun j => g (.int (j : Int)) := compL_E
theorem compE_ok {h : α → D} (e : ∀ y ∈ ys, g y = .ok (some (h y))) : compE g ys = .ok (ys.map h) := by
  induction ys with
  | nil => rfl
  | cons y ys ih => simp only [compE, e y List.mem_cons_self, Out.bind_ok, ih fun z hz => e z (List.mem_cons_of_mem _ hz), List.map_cons]
theorem compE_fil {h : α → D} {p : α → Bool} (e : ∀ y ∈ ys, g y = .ok (if p y = true then some (h y) else none)) : compE g ys = .ok ((ys.filter p).map h) := by
  induction ys with
  | nil => rfl
  | cons y ys ih =>
    simp only [compE, e y List.mem_cons_self, Out.bind_ok, ih fun z hz => e z (List.mem_cons_of_mem _ hz)]
    cases q : p y <;> simp [q]
@[simp] theorem compE_some {h : α → D} : compE (fun y => .ok (some (h y))) ys = .ok (ys.map h) := compE_ok fun _ _ => rfl
@[simp] theorem compE_if {h : α → D} {p : α → Prop} [DecidablePred p] : compE (fun y => if p y then .ok (some (h y)) else .ok none) ys = .ok ((ys.filter fun y => decide (p y)).map h) := compE_fil fun y _ => by
  by_cases q : p y <;> simp [q]
theorem compE_congr {g' : α → Out (Option D)} (e : ∀ y ∈ ys, g y = g' y) : compE g ys = compE g' ys := by
  induction ys with
  | nil => rfl
  | cons y ys ih => simp only [compE, e y List.mem_cons_self, ih fun z hz => e z (List.mem_cons_of_mem _ hz)]
theorem compR_congr {n m : Nat} {g g' : Nat → Out (Option D)} (hn : n = m) (e : ∀ j, j < m → g j = g' j) : compR n g = compR m g' := by
  subst hn
  exact compE_congr fun j hj => e j (List.mem_range.mp hj)
@[simp] theorem compR_some {n : Nat} {h : Nat → D} : compR n (fun y => .ok (some (h y))) = .ok ((List.range n).map h) := compE_some
@[simp] theorem compR_if {n : Nat} {h : Nat → D} {p : Nat → Prop} [DecidablePred p] : compR n (fun y => if p y then .ok (some (h y)) else .ok none) = .ok (((List.range n).filter fun y => decide (p y)).map h) := compE_if
theorem genL_E {a : Bool} {g : D → Out Bool} {p : α → Bool} (e : ∀ y ∈ ys, g (en y) = .ok (p y)) : genL a (ys.map en) g = .ok (if a then ys.all p else ys.any p) := by
  cases a
  · exact genL_any e
  · exact genL_all e
end
@[simp] theorem calm_if {α : Type} {c : Prop} [Decidable c] {a b : Out α} : (if c then a else b).calm = if c then a.calm else b.calm := by split <;> rfl
section
variable {Φ : Nat → List D → Out (D × List D)} {gv : Nat → D} {ρ : List (Option D)} {own : List Nat} {elt : Ex} {tg : Tg} {it : It} {cond : List Ex}
theorem ev_cmp' : ev Φ gv (.comp own elt tg it cond) ρ = (evIt Φ gv it ρ).bind fun xs => ((compL xs.1 fun x => (bindTg tg x (wipeD ρ own)).bind fun ρ' => (evc Φ gv cond ρ').bind fun b =>
      if b = true then (ev Φ gv elt ρ').bind fun y => .ok (some y) else .ok none).calm).bind fun ys => .chk (decide (ys.length ≤ sizeLine)) (.ok (.lst .ow ys)) := by rw [ev]
theorem ev_gen' {a : Bool} : ev Φ gv (.gen a own elt tg it) ρ = (evIt Φ gv it ρ).bind fun xs => ((genL a xs.1 fun x => (bindTg tg x (wipeD ρ own)).bind fun ρ' => (ev Φ gv elt ρ').bind boolD).calm).bind fun b => .ok (.bl b) := by rw [ev]
end
@[simp] theorem bindTg_nm {i : Nat} {d : D} {ρ : List (Option D)} : bindTg (.nm i) d ρ = if i < ρ.length then .ok (ρ.set i (some d)) else .bad := by
  unfold bindTg; simp
@[simp] theorem bindTg_tp {is : List Nat} {ds : List D} {ρ : List (Option D)} : bindTg (.tp is) (.tup ds) ρ = putAll is ds ρ := by
  unfold bindTg; rfl
@[simp] theorem putAll_nil {ρ : List (Option D)} : putAll [] [] ρ = .ok ρ := id rfl
@[simp] theorem putAll_cons {i : Nat} {is : List Nat} {d : D} {ds : List D} {ρ : List (Option D)} : putAll (i :: is) (d :: ds) ρ = if i < ρ.length then putAll is ds (ρ.set i (some d)) else .bad := by
  rw [putAll]; simp
@[simp] theorem lits : PyData.strOk "order" = true ∧ PyData.strOk "once" = true ∧ PyData.strOk "less" = true ∧ PyData.strOk "equal" = true ∧ PyData.strOk "greater" = true ∧ PyData.strOk "abcdefghijklmnopqrstuvwxyz" = true := by decide +kernel
end Pu

set_option Elab.async false
set_option linter.all false
set_option maxRecDepth 100000
/-! Pv8: texts as lists of signs. -/
namespace Pu
open PySem PySem.Spec PyProof.Rows L2
def mkS (l : List Nat) : Str := ⟨l.toArray⟩
theorem mkS_app {a b : List Nat} : mkS a ++ mkS b = mkS (a ++ b) := by
  show Str.append _ _ = _
  simp [mkS, Str.append]
theorem mkS_len {a : List Nat} : (mkS a).length = a.length := by simp [mkS, Str.length]
theorem mkS_inj {a b : List Nat} (h : mkS a = mkS b) : a = b := by
  have z := congrArg (fun s : Str => s.cps.toList) h
  simpa [mkS] using z
@[simp] theorem mkS_eq {a b : List Nat} : (mkS a = mkS b) = (a = b) := propext ⟨mkS_inj, fun h => by rw [h]⟩
theorem mkS_ok {a : List Nat} (h : ∀ c ∈ a, c < 128) : PyData.strOk (mkS a) = true := by
  unfold PyData.strOk mkS
  rw [← Array.all_toList, List.all_eq_true]
  intro c hc
  have := h c hc
  simp only [decide_eq_true_eq]
  omega
theorem bin_addS {a b : List Nat} : binD .add (.str (mkS a)) (.str (mkS b)) = if a.length + b.length ≤ sizeLine then .ok (.str (mkS (a ++ b))) else .bad := by
  show Out.chk _ _ = _
  simp [mkS_len, mkS_app]
theorem idx_S {l : List Nat} {i : Int} : idxD (.str (mkS l)) (.int i) = if l.length ≤ sizeLine then (match atI l i with | some c => .ok (.str (mkS [c])) | none => .bad) else .bad := by
  show Out.chk _ _ = _
  simp [mkS, Str.length]
  try rfl
theorem len_S {l : List Nat} : biD .len [.str (mkS l)] = if l.length ≤ sizeLine then .ok (.int (l.length : Int)) else .bad := by
  show Out.chk _ _ = _
  simp [mkS_len]
theorem slc_S {l : List Nat} {lo hi : Option Int} : slcD (.str (mkS l)) lo hi = if l.length ≤ sizeLine then .ok (.str (mkS (cutD l lo hi))) else .bad := by
  show Out.chk _ _ = _
  simp [cutS, cutD, mkS, Str.length]
def alL : List Nat := (List.range 26).map (· + 97)
theorem al_eq : (Str.ofString "abcdefghijklmnopqrstuvwxyz") = mkS alL := by decide +kernel
theorem idx_al {i : Int} : idxD (.str (mkS alL)) (.int (i % 26)) = .ok (.str (mkS [97 + (i % 26).toNat])) := by
  have hs : (26 : Nat) ≤ sizeLine := by decide +kernel
  have h0 : 0 ≤ i % 26 := by omega
  have h1 : (i % 26).toNat < 26 := by omega
  unfold alL
  rw [idx_S, if_pos (by simpa using hs), atI_i h0, List.getElem?_map, List.getElem?_range h1]
  simp [Nat.add_comm]
theorem big5 : ∀ n : Nat, n ≤ 1000 → n ≤ sizeLine := fun n h => Nat.le_trans h (by decide +kernel)
/-! ### what a block must come to -/
/-- goes on under N, breaks under B, returns under R -/
def St (N B : List (Option D) → Prop) (R : D → List (Option D) → Prop) : Re → Prop
  | .nx ρ => N ρ
  | .ct ρ => N ρ
  | .bk ρ => B ρ
  | .rt d ρ => R d ρ
  | _ => False
section
variable {Φ : Nat → List D → Out (D × List D)} {gv : Nat → D} {pi : List Nat} {ρ : List (Option D)} {N B : List (Option D) → Prop} {R : D → List (Option D) → Prop}
@[simp] theorem St_nx : St N B R (.nx ρ) = N ρ := id rfl
@[simp] theorem St_ct : St N B R (.ct ρ) = N ρ := id rfl
@[simp] theorem St_bk : St N B R (.bk ρ) = B ρ := id rfl
@[simp] theorem St_rt {d : D} : St N B R (.rt d ρ) = R d ρ := id rfl
@[simp] theorem St_ite {c : Prop} [Decidable c] {a b : Re} : St N B R (if c then a else b) = if c then St N B R a else St N B R b := by split <;> rfl
theorem loop_Q {α : Type} {en : α → D} {f : D → List (Option D) → Re} {Q : Re → Prop} {k : List (Option D) → Re} (J : Nat → List (Option D) → Prop) {xs : List α}
    (step : ∀ i x ρ, xs[i]? = some x → J i ρ → St (J (i + 1)) (fun ρ' => Q (k ρ')) (fun d ρ' => Q (.rt d ρ')) (f (en x) ρ)) (done : ∀ ρ', J xs.length ρ' → Q (k ρ')) : ∀ {ρ}, J 0 ρ → Q ((loopF f (xs.map en) ρ).seq k) := by
  suffices h : ∀ (ys : List α) (i : Nat) (ρ : List (Option D)), (∀ j y, ys[j]? = some y → xs[i + j]? = some y) → i + ys.length = xs.length → J i ρ → Q ((loopF f (ys.map en) ρ).seq k) from
    fun {ρ} j => h xs 0 ρ (fun j y e => by rw [Nat.zero_add]; exact e) (Nat.zero_add _) j
  intro ys
  induction ys with
  | nil => intro i ρ _ hl j; exact done ρ (by rw [← hl]; exact j)
  | cons y ys ih =>
    intro i ρ hs hl j
    have z := step i y ρ (by have z := hs 0 y rfl; rwa [Nat.add_zero] at z) j
    have go := fun ρ' (j' : J (i + 1) ρ') => ih (i + 1) ρ' (fun k z hk => by have q := hs (k + 1) z (by simpa using hk); rwa [show i + (k + 1) = i + 1 + k by omega] at q) (by simp only [List.length_cons] at hl; omega) j'
    rw [List.map_cons]
    simp only [loopF]
    cases e : f (en y) ρ with
    | nx ρ' => rw [e] at z; exact go ρ' z
    | ct ρ' => rw [e] at z; exact go ρ' z
    | bk ρ' => rw [e] at z; exact z
    | rt d ρ' => rw [e] at z; exact z
    | ex x ρ' => rw [e] at z; exact z.elim
    | bad => rw [e] at z; exact z.elim
/-- THE RULE of a loop: by an invariant, place by place -/
theorem fr_Q {α : Type} {en : α → D} {xs : List α} {t : Tg} {it : It} {b : List Sm} {Q : Re → Prop} {k : List (Option D) → Re} (J : Nat → List (Option D) → Prop) (hi : evIt Φ gv it ρ = .ok (xs.map en, true)) (hn : noVws (xs.map en) = true) (h0 : J 0 ρ)
    (step : ∀ i x ρ, xs[i]? = some x → J i ρ → St (J (i + 1)) (fun ρ' => Q (k ρ')) (fun d ρ' => Q (.rt d ρ')) ((bindC t (en x) ρ).seq fun ρ' => runs Φ gv pi b ρ')) (done : ∀ ρ', J xs.length ρ' → Q (k ρ')) : Q ((run1 Φ gv pi (.fr t it b) ρ).seq k) := by
  rw [run_fr hi hn]
  exact loop_Q J step done h0
/-- .. over the first n numbers -/
theorem fr_QR {n : Nat} {t : Tg} {it : It} {b : List Sm} {Q : Re → Prop} {k : List (Option D) → Re} (J : Nat → List (Option D) → Prop) (hi : evIt Φ gv it ρ = .ok ((List.range n).map fun (j : Nat) => D.int (j : Int), true)) (h0 : J 0 ρ)
    (step : ∀ i ρ, i < n → J i ρ → St (J (i + 1)) (fun ρ' => Q (k ρ')) (fun d ρ' => Q (.rt d ρ')) ((bindC t (.int (i : Int)) ρ).seq fun ρ' => runs Φ gv pi b ρ')) (done : ∀ ρ', J n ρ' → Q (k ρ')) : Q ((run1 Φ gv pi (.fr t it b) ρ).seq k) :=
  fr_Q (en := fun (j : Nat) => D.int (j : Int)) J hi (by simp) h0 (fun i x ρ hx j => by
    have hil : i < n := by
      have := (List.getElem?_eq_some_iff.mp hx).1
      simpa using this
    rw [List.getElem?_range hil] at hx
    cases hx
    exact step i ρ hil j) fun ρ' j => done ρ' (by rwa [List.length_range] at j)
/-- .. the rest of a def -/
theorem fn_fr {α : Type} {en : α → D} {xs : List α} {t : Tg} {it : It} {b : List Sm} {is : List Nat} {v : Out (D × List D)} {k : List (Option D) → Re} (J : Nat → List (Option D) → Prop) (hi : evIt Φ gv it ρ = .ok (xs.map en, true)) (hn : noVws (xs.map en) = true) (h0 : J 0 ρ)
    (step : ∀ i x ρ, xs[i]? = some x → J i ρ → ∀ N B R, (∀ ρ', J (i + 1) ρ' → N ρ') → (∀ ρ', fnEnd is (k ρ') = v → B ρ') → (∀ d ρ', fnEnd is (.rt d ρ') = v → R d ρ') → St N B R ((bindC t (en x) ρ).seq fun ρ' => runs Φ gv pi b ρ')) (done : ∀ ρ', J xs.length ρ' → fnEnd is (k ρ') = v) : fnEnd is ((run1 Φ gv pi (.fr t it b) ρ).seq k) = v :=
  fr_Q (Q := fun r => fnEnd is r = v) J hi hn h0 (fun i x ρ h1 h2 => step i x ρ h1 h2 _ _ _ (fun _ z => z) (fun _ z => z) fun _ _ z => z) done
theorem fn_frR {n : Nat} {t : Tg} {it : It} {b : List Sm} {is : List Nat} {v : Out (D × List D)} {k : List (Option D) → Re} (J : Nat → List (Option D) → Prop) (hi : evIt Φ gv it ρ = .ok ((List.range n).map fun (j : Nat) => D.int (j : Int), true)) (h0 : J 0 ρ)
    (step : ∀ i ρ, i < n → J i ρ → ∀ N B R, (∀ ρ', J (i + 1) ρ' → N ρ') → (∀ ρ', fnEnd is (k ρ') = v → B ρ') → (∀ d ρ', fnEnd is (.rt d ρ') = v → R d ρ') → St N B R ((bindC t (.int (i : Int)) ρ).seq fun ρ' => runs Φ gv pi b ρ')) (done : ∀ ρ', J n ρ' → fnEnd is (k ρ') = v) : fnEnd is ((run1 Φ gv pi (.fr t it b) ρ).seq k) = v :=
  fr_QR (Q := fun r => fnEnd is r = v) J hi h0 (fun i ρ h1 h2 => step i ρ h1 h2 _ _ _ (fun _ z => z) (fun _ z => z) fun _ _ z => z) done
/-- .. within a block -/
theorem st_fr {α : Type} {en : α → D} {xs : List α} {t : Tg} {it : It} {b : List Sm} {k : List (Option D) → Re} (J : Nat → List (Option D) → Prop) (hi : evIt Φ gv it ρ = .ok (xs.map en, true)) (hn : noVws (xs.map en) = true) (h0 : J 0 ρ)
    (step : ∀ i x ρ, xs[i]? = some x → J i ρ → ∀ N' B' R', (∀ ρ', J (i + 1) ρ' → N' ρ') → (∀ ρ', St N B R (k ρ') → B' ρ') → (∀ d ρ', R d ρ' → R' d ρ') → St N' B' R' ((bindC t (en x) ρ).seq fun ρ' => runs Φ gv pi b ρ')) (done : ∀ ρ', J xs.length ρ' → St N B R (k ρ')) : St N B R ((run1 Φ gv pi (.fr t it b) ρ).seq k) :=
  fr_Q (Q := St N B R) J hi hn h0 (fun i x ρ h1 h2 => step i x ρ h1 h2 _ _ _ (fun _ z => z) (fun _ z => z) fun _ _ z => z) done
theorem st_frR {n : Nat} {t : Tg} {it : It} {b : List Sm} {k : List (Option D) → Re} (J : Nat → List (Option D) → Prop) (hi : evIt Φ gv it ρ = .ok ((List.range n).map fun (j : Nat) => D.int (j : Int), true)) (h0 : J 0 ρ)
    (step : ∀ i ρ, i < n → J i ρ → ∀ N' B' R', (∀ ρ', J (i + 1) ρ' → N' ρ') → (∀ ρ', St N B R (k ρ') → B' ρ') → (∀ d ρ', R d ρ' → R' d ρ') → St N' B' R' ((bindC t (.int (i : Int)) ρ).seq fun ρ' => runs Φ gv pi b ρ')) (done : ∀ ρ', J n ρ' → St N B R (k ρ')) : St N B R ((run1 Φ gv pi (.fr t it b) ρ).seq k) :=
  fr_QR (Q := St N B R) J hi h0 (fun i ρ h1 h2 => step i ρ h1 h2 _ _ _ (fun _ z => z) (fun _ z => z) fun _ _ z => z) done
/-- .. the rest of a def, under any question -/
theorem q_fr {α : Type} {en : α → D} {xs : List α} {t : Tg} {it : It} {b : List Sm} {is : List Nat} {k : List (Option D) → Re} (Q : Out (D × List D) → Prop) (J : Nat → List (Option D) → Prop) (hi : evIt Φ gv it ρ = .ok (xs.map en, true)) (hn : noVws (xs.map en) = true) (h0 : J 0 ρ)
    (step : ∀ i x ρ, xs[i]? = some x → J i ρ → ∀ N B R, (∀ ρ', J (i + 1) ρ' → N ρ') → (∀ ρ', Q (fnEnd is (k ρ')) → B ρ') → (∀ d ρ', Q (fnEnd is (.rt d ρ')) → R d ρ') → St N B R ((bindC t (en x) ρ).seq fun ρ' => runs Φ gv pi b ρ')) (done : ∀ ρ', J xs.length ρ' → Q (fnEnd is (k ρ'))) : Q (fnEnd is ((run1 Φ gv pi (.fr t it b) ρ).seq k)) :=
  fr_Q (Q := fun r => Q (fnEnd is r)) J hi hn h0 (fun i x ρ h1 h2 => step i x ρ h1 h2 _ _ _ (fun _ z => z) (fun _ z => z) fun _ _ z => z) done
theorem q_frR {n : Nat} {t : Tg} {it : It} {b : List Sm} {is : List Nat} {k : List (Option D) → Re} (Q : Out (D × List D) → Prop) (J : Nat → List (Option D) → Prop) (hi : evIt Φ gv it ρ = .ok ((List.range n).map fun (j : Nat) => D.int (j : Int), true)) (h0 : J 0 ρ)
    (step : ∀ i ρ, i < n → J i ρ → ∀ N B R, (∀ ρ', J (i + 1) ρ' → N ρ') → (∀ ρ', Q (fnEnd is (k ρ')) → B ρ') → (∀ d ρ', Q (fnEnd is (.rt d ρ')) → R d ρ') → St N B R ((bindC t (.int (i : Int)) ρ).seq fun ρ' => runs Φ gv pi b ρ')) (done : ∀ ρ', J n ρ' → Q (fnEnd is (k ρ'))) : Q (fnEnd is ((run1 Φ gv pi (.fr t it b) ρ).seq k)) :=
  fr_QR (Q := fun r => Q (fnEnd is r)) J hi h0 (fun i ρ h1 h2 => step i ρ h1 h2 _ _ _ (fun _ z => z) (fun _ z => z) fun _ _ z => z) done
end
end Pu

set_option Elab.async false
set_option linter.all false
set_option maxRecDepth 100000
/-! Pv9: more of the small steps. -/
namespace Pu
open PySem PySem.Spec PyProof.Rows L2
@[simp] theorem slc_tup {xs : List D} {lo hi : Option Int} : slcD (.tup xs) lo hi = .ok (.tup (cutD xs lo hi)) := id rfl
@[simp] theorem listD_lst {f : Fl} {xs : List D} : listD (.lst f xs) = .ok xs := id rfl
@[simp] theorem listD_tup {xs : List D} : listD (.tup xs) = .ok xs := id rfl
theorem enumL_map {α : Type} {f : α → D} : ∀ {xs : List α} {k : Nat}, enumL k (xs.map f) = (xs.zipIdx k).map fun p => .tup [.int (p.2 : Int), f p.1]
  | [], _ => rfl
  | x :: xs, k => by simp only [List.map_cons, enumL, List.zipIdx_cons, enumL_map]
theorem zipI_get {α : Type} {xs : List α} {i : Nat} {p : α × Nat} (h : xs.zipIdx[i]? = some p) : xs[i]? = some p.1 ∧ p.2 = i := by
  rw [List.getElem?_zipIdx] at h
  cases e : xs[i]? with
  | none => rw [e] at h; cases h
  | some x => rw [e] at h; simp at h; subst h; simp
theorem drop_get {α : Type} {xs : List α} {i : Nat} {x : α} (h : xs[i]? = some x) : xs.drop i = x :: xs.drop (i + 1) := by
  obtain ⟨hl, e⟩ := List.getElem?_eq_some_iff.mp h
  rw [List.drop_eq_getElem_cons hl, e]
theorem take_get {α : Type} {xs : List α} {i : Nat} {x : α} (h : xs[i]? = some x) : xs.take (i + 1) = xs.take i ++ [x] := by
  obtain ⟨hl, e⟩ := List.getElem?_eq_some_iff.mp h
  rw [List.take_add_one, h]; rfl
theorem map_drop' {α β : Type} {f : α → β} {xs : List α} {n : Nat} : (xs.map f).drop n = (xs.drop n).map f := List.map_drop.symm
theorem map_take' {α β : Type} {f : α → β} {xs : List α} {n : Nat} : (xs.map f).take n = (xs.take n).map f := List.map_take.symm
@[simp] theorem calm_ok' {α : Type} {a : α} : (Out.ok a).calm = .ok a := id rfl
theorem bindC_tp {is : List Nat} {ds : List D} {ρ : List (Option D)} : Pu.bindC (.tp is) (.tup ds) ρ = if noVws ds = true then (match putAll is ds ρ with | .ok ρ' => .nx ρ' | _ => .bad) else .bad := by
  unfold Pu.bindC bindTg; rfl
/-- a list or a tuple, settled -/
def Sq (d : D) (xs : List D) : Prop := d = .lst .fz xs ∨ d = .tup xs
theorem evIt_of1 {Φ : Nat → List D → Out (D × List D)} {gv : Nat → D} {ρ : List (Option D)} {e : Ex} {d : D} {xs : List D} (h : ev Φ gv e ρ = .ok d) (g : ofD (fzD d) = .ok xs) (n : noVw d = true) : evIt Φ gv (.of e) ρ = .ok (xs, true) := by
  rw [evIt_of, h, Out.bind_ok, g, Out.bind_ok, n]
theorem rng_eqI {i : Int} (h : -1000000 ≤ i ∧ i ≤ 1000000) : rngA [.int i] = .ok ((List.range i.toNat).map fun (j : Nat) => D.int (j : Int)) := by
  have z : rngA [.int i] = rngD 0 i := rfl
  rw [z]
  unfold rngD
  rw [show i - 0 = i by omega, show (0 : Int) = ((0 : Nat) : Int) from rfl, intsFrom_eq, List.range_eq_range']
  have g : (-(2 ^ 62) ≤ ((0 : Nat) : Int) ∧ ((0 : Nat) : Int) < 2 ^ 62 ∧ -(2 ^ 62) ≤ i ∧ i < 2 ^ 62) := by omega
  simp only [chk_eq, decide_eq_true_eq, if_pos g]
theorem evIt_rngI {Φ : Nat → List D → Out (D × List D)} {gv : Nat → D} {ρ : List (Option D)} {e : Ex} {i : Int} (h : ev Φ gv e ρ = .ok (.int i)) (hn : -1000000 ≤ i ∧ i ≤ 1000000) : evIt Φ gv (.rng [e]) ρ = .ok ((List.range i.toNat).map fun (j : Nat) => D.int (j : Int), true) := by
  rw [evIt_rng, evs_cons, evs_nil, h]
  show (rngA [D.int i]).bind _ = _
  rw [rng_eqI hn]
  rfl
theorem evIt_rngE {Φ : Nat → List D → Out (D × List D)} {gv : Nat → D} {ρ : List (Option D)} {e : Ex} {n : Nat} (h : ev Φ gv e ρ = .ok (.int (n : Int))) (hn : n ≤ 1000000) : evIt Φ gv (.rng [e]) ρ = .ok ((List.range n).map fun (j : Nat) => D.int (j : Int), true) := evIt_rngI h (by omega)
/-! a range over a list's places -/
theorem range_zip {α : Type} {xs : List α} : (List.range xs.length).map (fun (j : Nat) => D.int (j : Int)) = xs.zipIdx.map fun p => D.int (p.2 : Int) := by
  apply List.ext_getElem?
  intro i
  rw [List.getElem?_map, List.getElem?_map, List.getElem?_zipIdx]
  by_cases h : i < xs.length
  · rw [List.getElem?_range h, List.getElem?_eq_getElem h]; simp
  · rw [List.getElem?_eq_none (by simpa using h), List.getElem?_eq_none (by simpa using h)]; rfl
theorem zip_mem {α : Type} {xs : List α} {p : α × Nat} (h : p ∈ xs.zipIdx) : xs[p.2]? = some p.1 := by
  obtain ⟨i, hi⟩ := List.mem_iff_getElem?.mp h
  obtain ⟨a, b⟩ := zipI_get hi
  rw [b]; exact a
theorem zip_fst {α : Type} {xs : List α} : ∀ k, (xs.zipIdx k).map (·.1) = xs := by
  induction xs with
  | nil => intro k; rfl
  | cons x xs ih => intro k; rw [List.zipIdx_cons, List.map_cons, ih]
theorem evIt_zip {Φ : Nat → List D → Out (D × List D)} {gv : Nat → D} {ρ : List (Option D)} {e : Ex} {α : Type} {xs : List α} (h : ev Φ gv e ρ = .ok (.int (xs.length : Int))) (hn : xs.length ≤ 1000000) : evIt Φ gv (.rng [e]) ρ = .ok (xs.zipIdx.map fun p => D.int (p.2 : Int), true) := by
  rw [evIt_rngE h hn, range_zip]
theorem atI_n1 {α : Type} {xs : List α} {k : Nat} : atI xs ((k : Int) + 1) = xs[k + 1]? := atI_n (k := k + 1)
theorem atI_n2 {α : Type} {xs : List α} {k : Nat} : atI xs ((k : Int) + 2) = xs[k + 2]? := atI_n (k := k + 2)
theorem run_par {Φ : Nat → List D → Out (D × List D)} {gv : Nat → D} {pi : List Nat} {ρ : List (Option D)} {i j : Nat} {a b : Ex} {x y : D} (ha : ev Φ gv a ρ = .ok x) (hb : ev Φ gv b ρ = .ok y) (hx : noVw x = true) (hy : noVw y = true) (hz : 2 ≤ sizeLine) (hi : i < ρ.length) (hj : j < ρ.length) :
    run1 Φ gv pi (.par i j a b) ρ = .nx ((ρ.set i (some x)).set j (some y)) := by
  have hp : prep Φ gv pi (.tup [a, b]) ρ = ρ := by
    unfold prep
    simp [ha, hb, hx, hy, hz]
  simp [run1, hp, ha, hb, hx, hy, hi, hj]
@[simp] theorem rev_lst {f : Fl} {xs : List D} : revD (.lst f xs) = .ok (.lst .ow xs.reverse) := id rfl
@[simp] theorem cut_mid2 {α : Type} {xs : List α} {k : Nat} : cutD xs (some (k : Int)) (some ((k : Int) + 2)) = (xs.drop k).take 2 := by
  have z := cut_mid (xs := xs) (j := k) (k := k + 2)
  rw [show k + 2 - k = 2 by omega] at z
  exact z
theorem noVws_mem {xs : List D} : noVws xs = true ↔ ∀ x ∈ xs, noVw x = true := by rw [noVws_eq, List.all_eq_true]
@[simp] theorem noVws_take {xs : List D} {n : Nat} (h : noVws xs = true) : noVws (xs.take n) = true := noVws_mem.mpr fun x hx => noVws_mem.mp h x (List.mem_of_mem_take hx)
@[simp] theorem noVws_drop {xs : List D} {n : Nat} (h : noVws xs = true) : noVws (xs.drop n) = true := noVws_mem.mpr fun x hx => noVws_mem.mp h x (List.mem_of_mem_drop hx)
@[simp] theorem noVws_rev {xs : List D} : noVws xs.reverse = noVws xs := by rw [noVws_eq, noVws_eq, List.all_reverse]
/-- an object's field is set -/
theorem run_setF {Φ : Nat → List D → Out (D × List D)} {gv : Nat → D} {pi : List Nat} {ρ : List (Option D)} {i c : Nat} {f : Str} {e : Ex} {y : D} {ns : List Str} {xs : List D} (he : ev Φ gv e ρ = .ok y) (hv : noVw y = true) (hr : ρ[i]? = some (some (.obj .ow c ns xs))) (hl : xs.length < 1000) :
    run1 Φ gv pi (.setF i [] f e) ρ = .nx (ρ.set i (some (.obj .ow c (putN f y ns xs).1 (putN f y ns xs).2))) := by
  have hp : prep Φ gv pi e ρ = ρ := by unfold prep; simp only [he, hv, if_true]
  simp [run1, hp, he, slotD, subAt, putAt, hr, evp, subD, updD, hv, hl]
/-- .. a new one -/
theorem putN_new {f : Str} {y : D} : ∀ {ns : List Str} {xs : List D}, f ∉ ns → ns.length = xs.length → putN f y ns xs = (ns ++ [f], xs ++ [y])
  | [], [], _, _ => by simp [putN]
  | n :: ns, x :: xs, h, l => by
    simp only [List.mem_cons, not_or] at h
    rw [putN, if_neg (fun e => h.1 e.symm), putN_new h.2 (by simpa using l)]
    rfl
  | [], _ :: _, _, l => by simp at l
  | _ :: _, [], _, l => by simp at l
/-- a loop over a name's list, which is settled first -/
theorem fr_Qv {Φ : Nat → List D → Out (D × List D)} {gv : Nat → D} {pi : List Nat} {ρ : List (Option D)} {α : Type} {en : α → D} {xs : List α} {t : Tg} {b : List Sm} {Q : Re → Prop} {k : List (Option D) → Re} {i : Nat} {f : Fl} (hf : f ≠ .vw) (hr : ρ[i]? = some (some (.lst f (xs.map en)))) (hp : i ∉ pi) (hz : ∀ x, fzD (en x) = en x) (hv : ∀ x, vwD (en x) = en x) (hn : ∀ x, noVw (en x) = true)
    (J : Nat → List (Option D) → Prop) (h0 : J 0 (ρ.set i (some (.lst .fz (xs.map en)))))
    (step : ∀ i x ρ, xs[i]? = some x → J i ρ → St (J (i + 1)) (fun ρ' => Q (k ρ')) (fun d ρ' => Q (.rt d ρ')) ((bindC t (en x) ρ).seq fun ρ' => runs Φ gv pi b ρ')) (done : ∀ ρ', J xs.length ρ' → Q (k ρ')) : Q ((run1 Φ gv pi (.fr t (.of (.var i)) b) ρ).seq k) := by
  have hl := (List.getElem?_eq_some_iff.mp hr).1
  have z1 : fzDs (xs.map en) = xs.map en := by rw [fzDs_map]; exact List.map_congr_left fun x _ => hz x
  have z2 : vwDs (xs.map en) = xs.map en := by rw [vwDs_map]; exact List.map_congr_left fun x _ => hv x
  have z3 : noVws (xs.map en) = true := by rw [noVws_map, List.all_eq_true]; exact fun x _ => hn x
  have hs : (ρ.set i (some (.lst .fz (xs.map en))))[i]? = some (some (.lst .fz (xs.map en))) := by rw [List.getElem?_set_self hl]
  have e2 : evIt Φ gv (.of (.var i)) (ρ.set i (some (.lst .fz (xs.map en)))) = .ok (xs.map en, true) := by
    rw [evIt_of, ev_var, hs]
    simp [z1, z2, z3]
  have key : run1 Φ gv pi (.fr t (.of (.var i)) b) ρ = loopF (fun x ρ => (bindC t x ρ).seq fun ρ' => runs Φ gv pi b ρ') (xs.map en) (ρ.set i (some (.lst .fz (xs.map en)))) := by
    cases f with
    | vw => exact absurd rfl hf
    | fz =>
      have e3 : ρ.set i (some (.lst .fz (xs.map en))) = ρ := set_same hr
      rw [e3] at e2 ⊢
      exact run_fr e2 z3
    | ow =>
      have e1 : evIt Φ gv (.of (.var i)) ρ = .ok (xs.map en, false) := by
        rw [evIt_of, ev_var, hr]
        simp [z1, z2]
      have hp' : prepI Φ gv pi (.of (.var i)) ρ = ρ.set i (some (.lst .fz (xs.map en))) := by
        unfold prepI
        simp only [e1, fvI, fvs, frzs, List.foldr, hp, if_false, frz1, hr]
        simp [z1]
      simp only [run1, hp', e2, re_ok', if_true]
  rw [key]
  exact loop_Q J step done h0
theorem fn_frv {Φ : Nat → List D → Out (D × List D)} {gv : Nat → D} {pi : List Nat} {ρ : List (Option D)} {α : Type} {en : α → D} {xs : List α} {t : Tg} {b : List Sm} {is : List Nat} {v : Out (D × List D)} {k : List (Option D) → Re} {i : Nat} {f : Fl} (hf : f ≠ .vw) (hr : ρ[i]? = some (some (.lst f (xs.map en)))) (hp : i ∉ pi) (hz : ∀ x, fzD (en x) = en x) (hv : ∀ x, vwD (en x) = en x) (hn : ∀ x, noVw (en x) = true)
    (J : Nat → List (Option D) → Prop) (h0 : J 0 (ρ.set i (some (.lst .fz (xs.map en)))))
    (step : ∀ i x ρ, xs[i]? = some x → J i ρ → ∀ N B R, (∀ ρ', J (i + 1) ρ' → N ρ') → (∀ ρ', fnEnd is (k ρ') = v → B ρ') → (∀ d ρ', fnEnd is (.rt d ρ') = v → R d ρ') → St N B R ((bindC t (en x) ρ).seq fun ρ' => runs Φ gv pi b ρ')) (done : ∀ ρ', J xs.length ρ' → fnEnd is (k ρ') = v) : fnEnd is ((run1 Φ gv pi (.fr t (.of (.var i)) b) ρ).seq k) = v :=
  fr_Qv (Q := fun r => fnEnd is r = v) hf hr hp hz hv hn J h0 (fun i x ρ h1 h2 => step i x ρ h1 h2 _ _ _ (fun _ z => z) (fun _ z => z) fun _ _ z => z) done
theorem st_frv {Φ : Nat → List D → Out (D × List D)} {gv : Nat → D} {pi : List Nat} {ρ : List (Option D)} {N B : List (Option D) → Prop} {R : D → List (Option D) → Prop} {α : Type} {en : α → D} {xs : List α} {t : Tg} {b : List Sm} {k : List (Option D) → Re} {i : Nat} {f : Fl} (hf : f ≠ .vw) (hr : ρ[i]? = some (some (.lst f (xs.map en)))) (hp : i ∉ pi) (hz : ∀ x, fzD (en x) = en x) (hv : ∀ x, vwD (en x) = en x) (hn : ∀ x, noVw (en x) = true)
    (J : Nat → List (Option D) → Prop) (h0 : J 0 (ρ.set i (some (.lst .fz (xs.map en)))))
    (step : ∀ i x ρ, xs[i]? = some x → J i ρ → ∀ N' B' R', (∀ ρ', J (i + 1) ρ' → N' ρ') → (∀ ρ', St N B R (k ρ') → B' ρ') → (∀ d ρ', R d ρ' → R' d ρ') → St N' B' R' ((bindC t (en x) ρ).seq fun ρ' => runs Φ gv pi b ρ')) (done : ∀ ρ', J xs.length ρ' → St N B R (k ρ')) : St N B R ((run1 Φ gv pi (.fr t (.of (.var i)) b) ρ).seq k) :=
  fr_Qv (Q := St N B R) hf hr hp hz hv hn J h0 (fun i x ρ h1 h2 => step i x ρ h1 h2 _ _ _ (fun _ z => z) (fun _ z => z) fun _ _ z => z) done
@[simp] theorem ty_bl {b : Bool} : tyD (.b .bool) (.bl b) = .ok true := id rfl
@[simp] theorem bi_max {i j : Int} : biD .max [.int i, .int j] = .ok (.int (if j > i then j else i)) := id rfl
@[simp] theorem bi_min {i j : Int} : biD .min [.int i, .int j] = .ok (.int (if j < i then j else i)) := id rfl
@[simp] theorem neg_int {i : Int} : negD (.int i) = .ok (.int (-i)) := id rfl
theorem callD_id {Φ : Nat → List D → Out (D × List D)} {j : Nat} {ds : List D} {d : D} (h : Φ j (anyFzs ds) = .ok (d, [])) (n : noVws ds = true) : callD Φ j ds = .ok d := by
  simp [callD, h, n]
end Pu
namespace Pu
@[simp] theorem cleanK_bad {ρ : List (Option D)} {s : Re} {k : D → Re} : cleanK .bad ρ s k = s := id rfl
theorem slow_set {Φ : Nat → List D → Out (D × List D)} {gv : Nat → D} {pi : List Nat} {t : Tg} {e : Ex} {ρ ρ' : List (Option D)} {d : D} (hf : frzs pi (fvs e) ρ = ρ') (he : ev Φ gv e ρ' = .ok d) : setSlow Φ gv pi t e ρ = bindC t d ρ' := by
  unfold setSlow
  rw [hf, he]
  rfl
theorem cut_midL {α : Type} {xs : List α} {i j : Int} (hi : 0 ≤ i) (hj : 0 ≤ j) : cutD xs (some i) (some j) = (xs.drop i.toNat).take (j.toNat - i.toNat) := by
  have z := cut_mid (xs := xs) (j := i.toNat) (k := j.toNat)
  rwa [Int.toNat_of_nonneg hi, Int.toNat_of_nonneg hj] at z
end Pu
namespace Pu
@[simp] theorem va_fz : Fl.fz.vwa = .vw := id rfl
@[simp] theorem va_ow : Fl.ow.vwa = .ow := id rfl
@[simp] theorem va_vw : Fl.vw.vwa = .vw := id rfl
end Pu
namespace Pu
theorem evIt_lst {Φ : Nat → List D → Out (D × List D)} {gv : Nat → D} {ρ : List (Option D)} {e : Ex} {α : Type} {en : α → D} {xs : List α} {f : Fl} (hf : f ≠ .vw) (hz : ∀ x, fzD (en x) = en x) (hn : ∀ x, noVw (en x) = true) (h : ev Φ gv e ρ = .ok (.lst f (xs.map en))) : evIt Φ gv (.of e) ρ = .ok (xs.map en, true) := by
  have z1 : fzDs (xs.map en) = xs.map en := by rw [fzDs_map]; exact List.map_congr_left fun x _ => hz x
  have z3 : noVws (xs.map en) = true := by rw [noVws_map, List.all_eq_true]; exact fun x _ => hn x
  exact evIt_of1 h (by rw [fz_lst, z1]; rfl) (by rw [nv_lst, z3]; simp [hf])
end Pu

set_option Elab.async false
set_option linter.all false
set_option maxRecDepth 100000
/-! Pva: raise, try, append(pop). -/
namespace Pu
open PySem PySem.Spec PyProof.Rows L2
section
variable {Φ : Nat → List D → Out (D × List D)} {gv : Nat → D} {pi : List Nat} {ρ : List (Option D)}
theorem run_rais {c : Nat} : run1 Φ gv pi (.rais c) ρ = .ex ⟨c, [], [], []⟩ ρ := by simp only [run1]
@[simp] theorem seq_ex {x : Exn} {f : List (Option D) → Re} : (Re.ex x ρ).seq f = .ex x ρ := id rfl
@[simp] theorem cleanK_exc {x : Exn} {s : Re} {k : D → Re} : cleanK (.exc x) ρ s k = .ex x ρ := id rfl
/-- a block that goes through -/
theorem run_tr_nx {b : List Sm} {i : Nat} {cs : List Nat} {x : Xb} {ρ' : List (Option D)} (h : runs Φ gv pi b ρ = .nx ρ') : run1 Φ gv pi (.tr b i cs x) ρ = .nx ρ' := by
  simp only [run1, h]
/-- .. that raises -/
theorem run_tr_ex {b : List Sm} {i : Nat} {cs : List Nat} {x : Xb} {ρ' : List (Option D)} {y : Exn} {d : D} (h : runs Φ gv pi b ρ = .ex y ρ') (hc : y.c ∈ cs) (hn : y.ns = []) (hl : i < ρ'.length) (hx : evX y x (ρ'.set i none) = .ok d) (hv : noVw d = true) : run1 Φ gv pi (.tr b i cs x) ρ = .rt d (ρ'.set i none) := by
  simp only [run1, h, hc, hn, hl, and_self, if_true, hx, hv]
theorem popK_nat {ys : List D} {k : Nat} (hk : k < ys.length) (hb : k < 1000) : popK ys [.int (k : Int)] = some k := by
  have b : (k : Int).natAbs < 4611686018427387904 := by omega
  have e : seqIndex? (k : Int) ys.length = some k := by
    unfold seqIndex?
    have q0 : ¬ ((k : Int) < 0) := by omega
    have q2 : (k : Int) < (ys.length : Int) := by omega
    simp [q0, q2]
  unfold popK
  exact (if_pos b).trans e
theorem evE_pop {j k : Nat} {e : Ex} {ys : List D} {y : D} (hj : ρ[j]? = some (some (.lst .ow ys))) (he : ev Φ gv e ρ = .ok (.int (k : Int))) (hk : ys[k]? = some y) (hb : k < 1000) : evE Φ gv (.pop j [] [e]) ρ = .ok y (ρ.set j (some (.lst .ow (ys.eraseIdx k)))) := by
  have hlt := (List.getElem?_eq_some_iff.mp hk).1
  have e1 := popK_nat hlt hb
  have s1 : ((slotD ρ j).bind fun d => evp Φ gv [] ρ d) = .ok [] := by unfold slotD; rw [hj]; rfl
  have s2 : subAt ρ j [] = some (.lst .ow ys) := by unfold subAt; rw [hj]; rfl
  have s3 : evs Φ gv [e] ρ = .ok [.int (k : Int)] := by rw [evs_cons, he, evs_nil]; rfl
  have s4 : putAt ρ j [] (.lst .ow (ys.eraseIdx k)) = .nx (ρ.set j (some (.lst .ow (ys.eraseIdx k)))) := by unfold putAt; rw [hj]; rfl
  unfold evE
  dsimp only
  rw [s1]
  dsimp only
  rw [s2]
  dsimp only
  rw [s3]
  dsimp only
  rw [e1]
  dsimp only
  rw [hk, s4]
/-- x.append(y.pop(k)) -/
theorem run_appPop {i j k : Nat} {e : Ex} {xs ys : List D} {y : D} (hi : ρ[i]? = some (some (.lst .ow xs))) (hj : ρ[j]? = some (some (.lst .ow ys))) (hij : i ≠ j) (he : ev Φ gv e ρ = .ok (.int (k : Int))) (hk : ys[k]? = some y) (hl : xs.length < sizeLine) (hb : k < 1000) :
    run1 Φ gv pi (.appX i (.pop j [] [e])) ρ = .nx ((ρ.set j (some (.lst .ow (ys.eraseIdx k)))).set i (some (.lst .ow (xs ++ [y])))) := by
  have e2 : (ρ.set j (some (.lst .ow (ys.eraseIdx k))))[i]? = some (some (.lst .ow xs)) := by rw [List.getElem?_set_ne (fun z => hij z.symm), hi]
  simp only [run1, hi, evE_pop hj he hk hb, e2, hl, if_true]
theorem seq_assoc {r : Re} {f g : List (Option D) → Re} : (r.seq f).seq g = r.seq fun ρ' => (f ρ').seq g := by cases r <;> rfl
theorem runs_app {a b : List Sm} : ∀ {ρ : List (Option D)}, runs Φ gv pi (a ++ b) ρ = (runs Φ gv pi a ρ).seq fun ρ' => runs Φ gv pi b ρ' := by
  induction a with
  | nil => intro ρ; rw [runs_nil]; rfl
  | cons s a ih =>
    intro ρ
    rw [List.cons_append, runs_cons, runs_cons, seq_assoc]
    congr 1
    funext ρ'
    exact ih
/-- a block in two parts -/
theorem runs_at (n : Nat) {b : List Sm} {ρ ρ' : List (Option D)} (h : runs Φ gv pi (b.take n) ρ = .nx ρ') : runs Φ gv pi b ρ = runs Φ gv pi (b.drop n) ρ' := by
  conv => lhs; rw [← List.take_append_drop n b, runs_app, h, seq_nx]
end
end Pu

set_option Elab.async false
set_option linter.all false
set_option maxRecDepth 100000
/-! the law orderneed_k07_items_and_promises in the language. -/
namespace K
open PySem PySem.Spec PyProof.Rows L2 Pu
@[reducible] def c_Promise : Nat := 0
@[reducible] def e_OrderError : Nat := 0
@[reducible] def e_InvalidCase : Nat := 1
@[reducible] def e_InvalidPromise : Nat := 2
@[reducible] def j_all_items : Nat := 0
@[reducible] def j_Promise_init : Nat := 1
@[reducible] def j_law_cell : Nat := 2
@[reducible] def j_law_row : Nat := 3
@[reducible] def j_law_word : Nat := 4
@[reducible] def j_law_words : Nat := 5
@[reducible] def j_law_names : Nat := 6
@[reducible] def j_law_items : Nat := 7
@[reducible] def j_law_wrong : Nat := 8
@[reducible] def j_law : Nat := 9
def b_all_items : List Sm := [(.set (.nm 1) (.lst [])), (.fr (.tp [2, 3]) (.enum (.var 0)) [(.app 1 [] (.tup [(.str "order"), (.var 3), (.var 3), (.str "less")])), (.fr (.nm 4) (.of (.slc (.var 0) [(.bin .add (.var 2) (.int 1))] [])) [(.set (.nm 1) (.bin .add (.var 1) (.comp [6] (.tup [(.str "order"), (.var 3), (.var 4), (.var 6)]) (.nm 6) (.of (.tup [(.str "less"), (.str "equal"), (.str "greater")])) [])))])]), (.ret (.bin .add (.var 1) (.comp [5] (.tup [(.str "once"), (.var 5)]) (.nm 5) (.of (.var 0)) [])))]
def b_Promise_init : List Sm := [(.set (.nm 2) (.comp [4] (.bi .tuple [(.var 4)]) (.nm 4) (.of (.var 2)) [])), (.set (.nm 3) (.call j_all_items [(.bi .tuple [(.var 1)])])), (.ite (.not (.gen true [4] (.cmp .isIn (.var 4) (.var 3)) (.nm 4) (.of (.var 2)))) [(.rais e_InvalidPromise)] []), (.ite (.gen false [5] (.cmp .isIn (.idx (.var 2) (.var 5)) (.slc (.var 2) [] [(.var 5)])) (.nm 5) (.rng [(.bi .len [(.var 2)])])) [(.rais e_InvalidPromise)] []), (.setF 0 [] "names" (.bi .tuple [(.var 1)])), (.setF 0 [] "entries" (.bi .tuple [(.comp [4] (.var 4) (.nm 4) (.of (.var 3)) [(.cmp .isIn (.var 4) (.var 2))])]))]
def b_law_cell : List Sm := [(.ite (.cmp .lt (.var 1) (.bi .len [(.var 0)])) [(.ret (.idx (.var 0) (.var 1)))] []), (.ret (.int 0))]
def b_law_row : List Sm := [(.set (.nm 2) (.lst [])), (.set (.nm 3) (.var 0)), (.set (.nm 4) (.bin .add (.bin .mod (.bi .int [(.var 0)]) (.int 2147483629)) (.int 1))), (.fr (.nm 5) (.rng [(.var 1)]) [(.ite (.cmp .ge (.var 0) (.bin .pow (.int 10) (.int 18))) [(.app 2 [] (.bin .mod (.bi .int [(.var 3)]) (.int 840))), (.set (.nm 3) (.bin .fdiv (.var 3) (.int 840)))] [(.set (.nm 4) (.bin .mod (.bi .int [(.bin .add (.bin .mul (.var 4) (.int 48271)) (.var 5))]) (.int 2147483647))), (.app 2 [] (.bin .mod (.bin .fdiv (.bin .mod (.bi .int [(.bin .mul (.var 4) (.int 69621))]) (.int 2147483629)) (.int 7)) (.int 840)))])]), (.rtv 2)]
def b_law_word : List Sm := [(.set (.nm 1) (.str "abcdefghijklmnopqrstuvwxyz")), (.set (.nm 2) (.idx (.var 1) (.bin .mod (.var 0) (.int 26)))), (.ite (.cmp .gt (.bin .mod (.bin .fdiv (.var 0) (.int 26)) (.int 3)) (.int 0)) [(.set (.nm 2) (.bin .add (.var 2) (.idx (.var 1) (.bin .mod (.bin .fdiv (.var 0) (.int 3)) (.int 26)))))] []), (.ite (.cmp .eq (.bin .mod (.bin .fdiv (.var 0) (.int 26)) (.int 3)) (.int 2)) [(.set (.nm 2) (.bin .add (.bin .add (.bin .add (.var 2) (.idx (.var 1) (.bin .mod (.bin .fdiv (.var 0) (.int 5)) (.int 26)))) (.idx (.var 1) (.bin .mod (.bin .fdiv (.var 0) (.int 11)) (.int 26)))) (.idx (.var 1) (.bin .mod (.bin .fdiv (.var 0) (.int 2)) (.int 26)))))] []), (.rtv 2)]
def b_law_words : List Sm := [(.set (.nm 2) (.str "abcdefghijklmnopqrstuvwxyz")), (.set (.nm 3) (.lst [])), (.fr (.nm 4) (.rng [(.var 1)]) [(.set (.nm 5) (.idx (.var 2) (.bin .mod (.bin .add (.idx (.var 0) (.int 1)) (.var 4)) (.int 26)))), (.set (.nm 6) (.call j_law_word [(.idx (.var 0) (.int 0))])), (.set (.nm 7) (.idx (.lst [(.bi .len [(.var 6)]), (.int 0), (.bin .mod (.bin .fdiv (.idx (.var 0) (.int 2)) (.int 3)) (.bin .add (.bi .len [(.var 6)]) (.int 1)))]) (.bin .mod (.idx (.var 0) (.int 2)) (.int 3)))), (.app 3 [] (.bin .add (.bin .add (.slc (.var 6) [] [(.var 7)]) (.var 5)) (.slc (.var 6) [(.var 7)] [])))]), (.rtv 3)]
def b_law_names : List Sm := [(.ret (.call j_law_words [(.slc (.var 0) [] [(.int 3)]), (.bin .add (.int 1) (.bin .mod (.idx (.var 0) (.int 3)) (.int 4)))]))]
def b_law_items : List Sm := [(.set (.nm 1) (.lst [])), (.fr (.nm 2) (.rng [(.bi .len [(.var 0)])]) [(.app 1 [] (.tup [(.str "order"), (.idx (.var 0) (.var 2)), (.idx (.var 0) (.var 2)), (.str "less")])), (.fr (.nm 3) (.of (.slc (.var 0) [(.bin .add (.var 2) (.int 1))] [])) [(.fr (.nm 4) (.of (.lst [(.str "less"), (.str "equal"), (.str "greater")])) [(.app 1 [] (.tup [(.str "order"), (.idx (.var 0) (.var 2)), (.var 3), (.var 4)]))])])]), (.ret (.bin .add (.var 1) (.comp [5] (.tup [(.str "once"), (.var 5)]) (.nm 5) (.of (.var 0)) [])))]
def b_law_wrong : List Sm := [(.set (.nm 3) (.idx (.var 0) (.int 0))), (.set (.nm 4) (.lst [(.tup [(.str "order"), (.var 3), (.var 3), (.str "equal")]), (.tup [(.str "order"), (.var 3), (.var 3), (.str "greater")]), (.tup [(.str "order"), (.var 3), (.bin .add (.str "none") (.var 3)), (.str "less")])])), (.set (.nm 4) (.bin .add (.var 4) (.lst [(.tup [(.str "once"), (.bin .add (.str "none") (.var 3))]), (.tup [(.str "once")]), (.tup [(.str "order"), (.var 3)]), (.tup []), (.tup [(.str "once"), (.var 3), (.str "less")]), (.tup [(.str "keep"), (.var 3)])]))), (.ite (.cmp .gt (.bi .len [(.var 0)]) (.int 1)) [(.set (.nm 4) (.bin .add (.var 4) (.lst [(.tup [(.str "order"), (.idx (.var 0) (.int 1)), (.var 3), (.str "less")]), (.tup [(.str "order"), (.var 3), (.idx (.var 0) (.int 1)), (.str "unequal")])])))] []), (.set (.nm 5) (.bin .mod (.idx (.var 2) (.int 1)) (.bin .add (.bi .len [(.var 1)]) (.int 1)))), (.ite (.and (.cmp .gt (.bi .len [(.var 1)]) (.int 0)) (.cmp .eq (.bin .mod (.idx (.var 2) (.int 0)) (.int 3)) (.int 0))) [(.ret (.bin .add (.bin .add (.slc (.var 1) [] [(.var 5)]) (.lst [(.idx (.var 1) (.bin .mod (.idx (.var 2) (.int 2)) (.bi .len [(.var 1)])))])) (.slc (.var 1) [(.var 5)] [])))] []), (.ret (.bin .add (.bin .add (.slc (.var 1) [] [(.var 5)]) (.lst [(.idx (.var 4) (.bin .mod (.idx (.var 2) (.int 2)) (.bi .len [(.var 4)])))])) (.slc (.var 1) [(.var 5)] [])))]
def b_law : List Sm := [(.set (.nm 1) (.call j_law_names [(.call j_law_row [(.call j_law_cell [(.var 0), (.int 0)]), (.int 4)])])), (.set (.nm 2) (.call j_law_items [(.var 1)])), (.set (.nm 3) (.call j_all_items [(.bi .list [(.var 1)])])), (.ite (.or (.not (.isi (.var 3) (.b .list))) (.or (.cmp .ne (.var 3) (.var 2)) (.cmp .ne (.call j_all_items [(.bi .tuple [(.var 1)])]) (.var 2)))) [(.ret (.bl false))] []), (.set (.nm 4) (.call j_law_row [(.call j_law_cell [(.var 0), (.int 1)]), (.int 40)])), (.set (.nm 5) (.bi .list [(.var 2)])), (.set (.nm 6) (.lst [])), (.fr (.nm 7) (.rng [(.bin .mod (.idx (.var 4) (.int 0)) (.bin .add (.bi .len [(.var 2)]) (.int 1)))]) [(.appX 6 (.pop 5 [] [(.bin .mod (.idx (.var 4) (.bin .add (.int 1) (.var 7))) (.bi .len [(.var 5)]))]))]), (.set (.nm 8) (.cmp .eq (.bin .mod (.idx (.var 4) (.int 39)) (.int 2)) (.int 0))), (.set (.nm 9) (.bi .list [(.var 6)])), (.ite (.not (.var 8)) [(.set (.nm 9) (.call j_law_wrong [(.var 1), (.var 6), (.slc (.var 4) [(.int 30)] [])]))] []), (.ite (.cmp .eq (.bin .mod (.idx (.var 4) (.int 38)) (.int 2)) (.int 0)) [(.set (.nm 9) (.comp [7] (.idx (.lst [(.bi .list [(.idx (.var 9) (.var 7))]), (.idx (.var 9) (.var 7))]) (.bi .int [(.cmp .eq (.bin .mod (.idx (.var 4) (.bin .mod (.bin .add (.bin .mul (.int 7) (.var 7)) (.int 5)) (.int 40))) (.int 3)) (.int 1))])) (.nm 7) (.rng [(.bi .len [(.var 9)])]) []))] []), (.set (.nm 10) (.comp [13] (.bi .list [(.var 13)]) (.nm 13) (.of (.var 9)) [])), (.tr [(.set (.nm 12) (.mk c_Promise j_Promise_init [(.idx (.lst [(.bi .list [(.var 1)]), (.bi .tuple [(.var 1)])]) (.bin .mod (.idx (.var 4) (.int 37)) (.int 2))), (.idx (.lst [(.var 9), (.bi .tuple [(.var 9)])]) (.bin .mod (.idx (.var 4) (.int 36)) (.int 2)))]))] 11 [2] (.and (.not (.var 8)) (.and (.isE [e_OrderError, e_InvalidCase, e_InvalidPromise] []) (.not (.isE [e_InvalidCase] [e_OrderError, e_InvalidPromise]))))), (.ite (.or (.not (.var 8)) (.cmp .ne (.comp [13] (.bi .list [(.var 13)]) (.nm 13) (.of (.var 9)) []) (.var 10))) [(.ret (.bl false))] []), (.app 9 [] (.tup [(.str "once"), (.idx (.var 1) (.int 0))])), (.ret (.and (.cmp .eq (.fld (.var 12) "names") (.bi .tuple [(.var 1)])) (.cmp .eq (.fld (.var 12) "entries") (.bi .tuple [(.comp [13] (.var 13) (.nm 13) (.of (.var 2)) [(.cmp .isIn (.var 13) (.var 6))])]))))]
def Fs : List Fun := [⟨1, 7, [], b_all_items⟩, ⟨3, 6, [0], b_Promise_init⟩, ⟨2, 2, [], b_law_cell⟩, ⟨2, 6, [], b_law_row⟩, ⟨1, 3, [], b_law_word⟩, ⟨2, 8, [], b_law_words⟩, ⟨1, 1, [], b_law_names⟩, ⟨1, 6, [], b_law_items⟩, ⟨3, 6, [], b_law_wrong⟩, ⟨1, 14, [], b_law⟩]
def T (j : Nat) : Option Fun := Fs[j]?
def gv (_ : Nat) : D := .non
theorem up {m j : Nat} {F : Fun} {ds : List D} (hm : 1 ≤ m) (h : T j = some F) : PhiN T gv m j ds = fnD (PhiN T gv (m - 1)) gv F ds := by
  cases m with
  | zero => omega
  | succ n => simp only [PhiN, h, Nat.add_sub_cancel]
theorem un {n j : Nat} {F : Fun} {ds : List D} (h : T j = some F) : PhiN T gv (n + 1) j ds = fnD (PhiN T gv n) gv F ds := by simp only [PhiN, h]
theorem upE {m j : Nat} {F : Fun} {ds : List D} (hm : 1 ≤ m) (h : T j = some F) (hl : ds.length = F.np) : PhiN T gv m j ds = fnEnd F.is (runs (PhiN T gv (m - 1)) gv F.is F.b (ds.map some ++ List.replicate (F.n - F.np) none)) := by
  rw [up hm h, fnD_eq, if_pos hl]
end K

set_option Elab.async false
set_option linter.all false
set_option maxRecDepth 100000
set_option maxHeartbeats 1000000
/-! La: what a law draws: cells, rows, words, names. -/
namespace K
open PySem PySem.Spec PyProof.Rows L2 Pu
def cellOf (ns : List Int) (k : Nat) : Int := (ns[k]?).getD 0
theorem phi_cell {m : Nat} (hm : 1 ≤ m) (ns : List Int) (k : Nat) : PhiN T gv m j_law_cell [.lst .fz (ns.map D.int), .int (k : Int)] = .ok (.int (cellOf ns k), []) := by
  rw [up hm rfl]
  by_cases h : k < ns.length
  · have e : ns[k]? = some ns[k] := List.getElem?_eq_getElem h
    simp [fnD_eq, b_law_cell, runs_cons, runs_nil, run_ret, run_ite, h, atI_n, cellOf, e]
  · have e : ns[k]? = none := List.getElem?_eq_none (by omega)
    simp [fnD_eq, b_law_cell, runs_cons, runs_nil, run_ret, run_ite, h, atI_n, cellOf, e]
/-- a row: so many numbers of 0 to 839 -/
def IsRow (xs : List Nat) (c : Nat) : Prop := xs.length = c ∧ ∀ x ∈ xs, x < 840
theorem IsRow.snoc {xs : List Nat} {c : Nat} (h : IsRow xs c) {x : Nat} (h2 : x < 840) : IsRow (xs ++ [x]) (c + 1) := by
  refine ⟨by rw [List.length_append, h.1]; rfl, fun y hy => ?_⟩
  rcases List.mem_append.mp hy with hy | hy
  · exact h.2 y hy
  · rw [List.mem_singleton.mp hy]
    exact h2
def dI (n : Nat) : Pu.D := .int (n : Int)
def J9 (c cnt : Int) (i : Nat) (ρ : List (Option Pu.D)) : Prop := ∃ (xs : List Nat) (rest seed : Int) (o : Option Pu.D), ρ = [some (.int c), some (.int cnt), some (.lst .ow (xs.map dI)), some (.int rest), some (.int seed), o] ∧ IsRow xs i ∧ 0 ≤ seed ∧ seed < 2147483647
theorem phi_row {m : Nat} (hm : 1 ≤ m) (c : Int) (cnt : Nat) (hc : cnt ≤ 1000) : ∃ xs, IsRow xs cnt ∧ PhiN T gv m j_law_row [.int c, .int (cnt : Int)] = .ok (.lst .ow (xs.map dI), []) := by
  have hs : (1000 : Nat) < sizeLine := by decide +kernel
  have hq : cnt ≤ 1000000 := Nat.le_trans hc (by decide)
  have st := fun (ρ : List (Option Pu.D)) (h : ρ[1]? = some (some (.int (cnt : Int)))) (h0 : J9 c cnt 0 ρ) => fr_inv (Φ := PhiN T gv (m - 1)) (gv := gv) (pi := []) (t := .nm 5) (en := fun (j : Nat) => D.int (j : Int)) (b := _) (J9 c cnt) (evIt_range h hq) (by simp) h0
    (fun i x ρ hx ⟨xs, rest, seed, o, e, r, h1, h2⟩ => by
      subst e
      have hil : i < cnt := by
        have := (List.getElem?_eq_some_iff.mp hx).1
        simpa using this
      have hx : x = i := by
        rw [List.getElem?_range hil] at hx
        exact (Option.some.inj hx).symm
      subst hx
      have hl : xs.length < sizeLine := by rw [r.1]; omega
      show ∃ ρ', (_ ∨ (((bindC (.nm 5) _ _).seq fun ρ' => runs (PhiN T gv (m - 1)) gv [] [(.ite (.cmp .ge (.var 0) (.bin .pow (.int 10) (.int 18))) [(.app 2 [] (.bin .mod (.bi .int [(.var 3)]) (.int 840))), (.set (.nm 3) (.bin .fdiv (.var 3) (.int 840)))] [(.set (.nm 4) (.bin .mod (.bi .int [(.bin .add (.bin .mul (.var 4) (.int 48271)) (.var 5))]) (.int 2147483647))), (.app 2 [] (.bin .mod (.bin .fdiv (.bin .mod (.bi .int [(.bin .mul (.var 4) (.int 69621))]) (.int 2147483629)) (.int 7)) (.int 840)))])] ρ') = .ct ρ')) ∧ _
      by_cases q : (1000000000000000000 : Int) ≤ c
      · refine ⟨_, .inl ?_, xs ++ [(rest % 840).toNat], rest / 840, seed, some (.int (x : Int)), rfl, r.snoc (by omega), h1, h2⟩
        have e : ((rest % 840).toNat : Int) = rest % 840 := by omega
        simp [runs_cons, runs_nil, run_ite, run_app, run_set, bin_mulI, bin_powI, appK, q, hl, dI, e]
      · refine ⟨_, .inl ?_, xs ++ [((seed * 48271 + (x : Int)) % 2147483647 * 69621 % 2147483629 / 7 % 840).toNat], rest, (seed * 48271 + (x : Int)) % 2147483647, some (.int (x : Int)), rfl, r.snoc (by omega), by omega, by omega⟩
        have e : (((seed * 48271 + (x : Int)) % 2147483647 * 69621 % 2147483629 / 7 % 840).toNat : Int) = (seed * 48271 + (x : Int)) % 2147483647 * 69621 % 2147483629 / 7 % 840 := by omega
        simp [runs_cons, runs_nil, run_ite, run_app, run_set, bin_mulI, bin_powI, appK, q, hl, dI, e])
  obtain ⟨ρ', e, xs, rest, seed, o, rfl, r, _, _⟩ := st [some (.int c), some (.int (cnt : Int)), some (.lst .ow []), some (.int c), some (.int (c % 2147483629 + 1)), none] rfl ⟨[], _, _, _, rfl, ⟨rfl, fun x hx => by cases hx⟩, by omega, by omega⟩
  refine ⟨xs, ⟨by simpa using r.1, r.2⟩, ?_⟩
  rw [up hm rfl]
  simp [fnD_eq, b_law_row, runs_cons, runs_nil, run_set, run_rtv, e, dI]
theorem rowAt {row : List Nat} {k : Nat} (h : k < row.length) {i : Int} (e : i = (k : Int)) : atI (row.map dI) i = some (.int ((nth row k : Nat) : Int)) := by
  rw [e, atI_n, List.getElem?_map, get_nth h]; rfl
@[simp] theorem dI_vw {n} : vwD (dI n) = dI n := id rfl
@[simp] theorem dI_fz {n} : fzD (dI n) = dI n := id rfl
@[simp] theorem dI_an {n} : anyFz (dI n) = dI n := id rfl
@[simp] theorem dI_nv {n} : noVw (dI n) = true := id rfl
end K

set_option Elab.async false
set_option linter.all false
set_option maxRecDepth 100000
set_option maxHeartbeats 1000000
/-! Lb: words and names that a law draws. -/
namespace K
open PySem PySem.Spec PyProof.Rows L2 Pu
def ch (i : Int) : Nat := 97 + (i % 26).toNat
def wordL (k : Int) : List Nat := if k / 26 % 3 = 0 then [ch k] else if k / 26 % 3 = 1 then [ch k, ch (k / 3)] else [ch k, ch (k / 3), ch (k / 5), ch (k / 11), ch (k / 2)]
theorem wordL_len (k : Int) : 1 ≤ (wordL k).length ∧ (wordL k).length ≤ 5 := by unfold wordL; split <;> (try split) <;> simp
theorem ch_ok (k : Int) : 97 ≤ ch k ∧ ch k ≤ 122 := by unfold ch; omega
theorem wordL_ok (k : Int) : ∀ c ∈ wordL k, 97 ≤ c ∧ c ≤ 122 := by
  intro c hc
  unfold wordL at hc
  split at hc <;> (try split at hc) <;> simp only [List.mem_cons, List.not_mem_nil, or_false] at hc
  · subst hc; exact ch_ok _
  · rcases hc with rfl | rfl <;> exact ch_ok _
  · rcases hc with rfl | rfl | rfl | rfl | rfl <;> exact ch_ok _
theorem phi_word {m : Nat} (hm : 1 ≤ m) (k : Int) : PhiN T gv m j_law_word [.int k] = .ok (.str (mkS (wordL k)), []) := by
  have h5 := big5
  rw [up (by omega) rfl]
  have c : k / 26 % 3 = 0 ∨ k / 26 % 3 = 1 ∨ k / 26 % 3 = 2 := by omega
  rcases c with c | c | c <;>
    simp [fnD_eq, b_law_word, runs_cons, runs_nil, run_set, run_ite, run_rtv, al_eq, idx_al, c, bin_addS, wordL, h5, ch]
def atOf (l : Nat) (r : Nat) : Nat := if r % 3 = 0 then l else if r % 3 = 1 then 0 else r / 3 % (l + 1)
def wordsL (r0 r1 r2 : Nat) (k : Nat) : List Nat := (wordL r0).take (atOf (wordL r0).length r2) ++ ([ch ((r1 : Int) + k)] ++ (wordL r0).drop (atOf (wordL r0).length r2))
theorem idx_at (l r : Nat) : atI [D.int (l : Int), D.int 0, D.int ((r : Int) / 3 % ((l : Int) + 1))] ((r : Int) % 3) = some (.int (atOf l r : Int)) := by
  unfold atOf
  by_cases h0 : r % 3 = 0
  · have : (r : Int) % 3 = 0 := by omega
    simp [this, h0]
  · by_cases h1 : r % 3 = 1
    · have : (r : Int) % 3 = 1 := by omega
      simp [this, h1]
    · have : (r : Int) % 3 = 2 := by omega
      simp [this, h0, h1]
theorem bin_addS5 {a b : List Nat} (h : a.length ≤ 300) (g : b.length ≤ 300) : binD .add (.str (mkS a)) (.str (mkS b)) = .ok (.str (mkS (a ++ b))) := by
  rw [bin_addS, if_pos (big5 _ (by omega))]
theorem slc_S5 {l : List Nat} {lo hi : Option Int} (h : l.length ≤ 300) : slcD (.str (mkS l)) lo hi = .ok (.str (mkS (cutD l lo hi))) := by
  rw [slc_S, if_pos (big5 _ (by omega))]
theorem len_S5 {l : List Nat} (h : l.length ≤ 300) : biD .len [.str (mkS l)] = .ok (.int (l.length : Int)) := by
  rw [len_S, if_pos (big5 _ (by omega))]
theorem phi_words {m : Nat} (hm : 2 ≤ m) (r0 r1 r2 cnt : Nat) (hc : cnt ≤ 1000) : PhiN T gv m j_law_words [.lst .fz [dI r0, dI r1, dI r2], .int (cnt : Int)] = .ok (.lst .ow ((List.range cnt).map fun k => .str (mkS (wordsL r0 r1 r2 k))), []) := by
  have hs : (1000 : Nat) < sizeLine := by decide +kernel
  have h5 := big5
  have hq : cnt ≤ 1000000 := Nat.le_trans hc (by decide)
  have hw := phi_word (m := m - 1) (by omega) r0
  obtain ⟨l1, l2⟩ := wordL_len r0
  have l3 : (wordL r0).length ≤ 300 := by omega
  have l4 : ((wordL r0).take (atOf (wordL r0).length r2)).length ≤ 5 := by rw [List.length_take]; omega
  have l5 : ((wordL r0).drop (atOf (wordL r0).length r2)).length ≤ 300 := by rw [List.length_drop]; omega
  have l6 : ∀ c, (((wordL r0).take (atOf (wordL r0).length r2)) ++ [c]).length ≤ 300 := fun c => by rw [List.length_append, List.length_singleton]; omega
  rw [up (by omega) rfl]
  simp [fnD_eq, b_law_words, runs_cons, run_set, al_eq]
  refine fn_frR (fun i ρ => ∃ o4 o5 o6 o7, ρ = [some (.lst .fz [dI r0, dI r1, dI r2]), some (.int (cnt : Int)), some (.str (mkS alL)), some (.lst .ow ((List.range i).map fun k => .str (mkS (wordsL r0 r1 r2 k)))), o4, o5, o6, o7])
    (evIt_range (c := cnt) (by rfl) hq) ⟨none, none, none, none, by simp⟩ ?_ ?_
  · rintro i ρ hil ⟨o4, o5, o6, o7, rfl⟩ N B R hN - -
    have hl : i < sizeLine := by omega
    simp [runs_cons, runs_nil, run_set, run_app, dI, idx_al,  callD, hw, len_S5 l3, h5, idx_at, slc_S5 l3, bin_addS5 (Nat.le_trans l4 (by decide)), bin_addS5 (l6 _) l5, appK, hl, List.range_succ, wordsL, ch]
    exact hN _ ⟨_, _, _, _, by simp [dI, List.range_succ, wordsL, ch]; exact ⟨rfl, rfl, rfl, rfl⟩⟩
  · rintro ρ ⟨o4, o5, o6, o7, rfl⟩
    simp [runs_cons, runs_nil, run_rtv]
def namesL (row : List Nat) : List (List Nat) := (List.range (1 + nth row 3 % 4)).map (wordsL (nth row 0) (nth row 1) (nth row 2))
theorem phi_names {m : Nat} (hm : 3 ≤ m) (row : List Nat) (h : IsRow row 4) : PhiN T gv m j_law_names [.lst .fz (row.map dI)] = .ok (.lst .ow ((namesL row).map fun w => .str (mkS w)), []) := by
  obtain ⟨hl, _⟩ := h
  match row, hl with
  | [a, b, c, d], _ =>
    have hw := phi_words (m := m - 1) (by omega) a b c (1 + d % 4) (by omega)
    rw [up (by omega) rfl]
    have e : (((1 + d % 4 : Nat)) : Int) = 1 + (d : Int) % 4 := by omega
    rw [e] at hw
    have e2 : cutD [D.int (a : Int), D.int (b : Int), D.int (c : Int), D.int (d : Int)] none (some 3) = [D.int (a : Int), D.int (b : Int), D.int (c : Int)] := rfl
    simp [dI] at hw
    simp [fnD_eq, b_law_names, runs_cons, runs_nil, run_ret, callD, dI, e2, hw, namesL, nth]
end K

set_option Elab.async false
set_option linter.all false
set_option maxRecDepth 100000
set_option maxHeartbeats 1000000
/-! Lc: items of promises. -/
namespace K
open PySem PySem.Spec PyProof.Rows L2 Pu
theorem litOk : PyData.strOk "order" = true ∧ PyData.strOk "once" = true ∧ PyData.strOk "less" = true ∧ PyData.strOk "equal" = true ∧ PyData.strOk "greater" = true := by decide +kernel
@[simp] theorem ok_order : PyData.strOk "order" = true := litOk.1
@[simp] theorem ok_once : PyData.strOk "once" = true := litOk.2.1
@[simp] theorem ok_less : PyData.strOk "less" = true := litOk.2.2.1
@[simp] theorem ok_equal : PyData.strOk "equal" = true := litOk.2.2.2.1
@[simp] theorem ok_greater : PyData.strOk "greater" = true := litOk.2.2.2.2
@[simp] theorem ne_oo : (Str.ofString "order" = Str.ofString "once") = False := eq_false (by decide +kernel)
@[simp] theorem ne_oo' : (Str.ofString "once" = Str.ofString "order") = False := eq_false (by decide +kernel)
inductive Rel | less | equal | greater
  deriving DecidableEq
def Rel.s : Rel → Str
  | .less => "less" | .equal => "equal" | .greater => "greater"
@[simp] theorem Rel.ok (r : Rel) : PyData.strOk r.s = true := by cases r <;> simp [Rel.s]
theorem Rel.inj {a b : Rel} (h : a.s = b.s) : a = b := by
  revert h; cases a <;> cases b <;> decide +kernel
@[simp] theorem Rel.seq {a b : Rel} : (a.s = b.s) = (a = b) := propext ⟨Rel.inj, fun h => by rw [h]⟩
def relOf (i j : Int) : Rel := if i < j then .less else if j < i then .greater else .equal
inductive It8 where
  | ord (a b : OkS) (r : Rel)
  | once (a : OkS)
  deriving DecidableEq
def dW (w : OkS) : Pu.D := .str w.1
def It8.D : It8 → Pu.D
  | .ord a b r => .tup [.str "order", .str a.1, .str b.1, .str r.s]
  | .once a => .tup [.str "once", .str a.1]
/-- .. as a list -/
def It8.L (f : Fl) : It8 → Pu.D
  | .ord a b r => .lst f [.str "order", .str a.1, .str b.1, .str r.s]
  | .once a => .lst f [.str "once", .str a.1]
theorem D_ord {a b r} : (It8.ord a b r).D = .tup [.str "order", .str a.1, .str b.1, .str r.s] := id rfl
theorem D_once {a} : (It8.once a).D = .tup [.str "once", .str a.1] := id rfl
@[simp] theorem dW_vw {w} : vwD (dW w) = dW w := id rfl
@[simp] theorem dW_fz {w} : fzD (dW w) = dW w := id rfl
@[simp] theorem dW_va {w} : vaD (dW w) = dW w := id rfl
@[simp] theorem dW_an {w} : anyFz (dW w) = dW w := id rfl
@[simp] theorem dW_nv {w} : noVw (dW w) = true := id rfl
@[simp] theorem dW_fl {n w} : flat n (dW w) = true := by simp [dW]
theorem dW_inj {a b : OkS} (h : dW a = dW b) : a = b := by
  simp only [dW, D.str.injEq] at h
  exact OkS.ext h
@[simp] theorem It8.vw {i : It8} : vwD i.D = i.D := by cases i <;> rfl
@[simp] theorem It8.fz {i : It8} : fzD i.D = i.D := by cases i <;> rfl
@[simp] theorem It8.va {i : It8} : vaD i.D = i.D := by cases i <;> rfl
@[simp] theorem It8.an {i : It8} : anyFz i.D = i.D := by cases i <;> rfl
@[simp] theorem It8.nv {i : It8} : noVw i.D = true := by cases i <;> rfl
@[simp] theorem It8.fl {i : It8} : flat 8 i.D = true := by cases i <;> simp [It8.D]
theorem It8.inj {a b : It8} (h : a.D = b.D) : a = b := by
  cases a <;> cases b <;> simp [It8.D] at h ⊢
  · exact h
  · exact h
@[simp] theorem memb_it {a : It8} {xs : List It8} : memb a.D (xs.map It8.D) = decide (a ∈ xs) := memb_inj (fun _ _ => It8.inj)
@[simp] theorem memb_it' {a : It8} {xs : List It8} : memb a.D (xs.map fun x => x.D) = decide (a ∈ xs) := memb_inj (fun _ _ => It8.inj)
theorem cmp_str {a b : Str} (h : PyData.strOk a = true) (g : PyData.strOk b = true) : cmpB .eq (.str a) (.str b) = some (decide (a = b)) := cmp_eqS h g
theorem cmp_strN {a b : Str} (h : PyData.strOk a = true) (g : PyData.strOk b = true) : cmpB .ne (.str a) (.str b) = some (!decide (a = b)) := cmp_neS h g
/-- a message -/
abbrev Ms := OkS × Int
def It8.keeps : It8 → Ms → Ms → Bool
  | .once _, _, _ => false
  | .ord a b r, m, k => if a = b then decide (m.1 = a) && (decide (k.1 = a) && !decide (m.2 = k.2))
    else if m.1 = a ∧ k.1 = b then decide (relOf m.2 k.2 = r)
    else if k.1 = a ∧ m.1 = b then decide (relOf k.2 m.2 = r) else false
def dM (m : Ms) : Pu.D := .tup [.str m.1.1, .int m.2]
def dML (f : Fl) (m : Ms) : Pu.D := .lst f [.str m.1.1, .int m.2]
@[simp] theorem dM_vw {w} : vwD (dM w) = dM w := id rfl
@[simp] theorem dM_fz {w} : fzD (dM w) = dM w := id rfl
@[simp] theorem dM_va {w} : vaD (dM w) = dM w := id rfl
@[simp] theorem dM_an {w} : anyFz (dM w) = dM w := id rfl
@[simp] theorem dM_nv {w} : noVw (dM w) = true := id rfl
@[simp] theorem dM_fl {w} : flat 8 (dM w) = true := by simp [dM]
@[simp] theorem dML_vw {f w} : vwD (dML f w) = dML f.vwd w := id rfl
@[simp] theorem dML_fz {f w} : fzD (dML f w) = dML f.fzd w := id rfl
@[simp] theorem dML_va {f w} : vaD (dML f w) = dML f.vwa w := id rfl
@[simp] theorem dML_an {f w} : anyFz (dML f w) = dML .fz w := id rfl
theorem dM_inj {a b : Ms} (h : dM a = dM b) : a = b := by
  simp only [dM, D.tup.injEq, List.cons.injEq, D.str.injEq, D.int.injEq, and_true] at h
  exact Prod.ext (OkS.ext h.1) h.2
/-- a message, as a tuple or a settled list -/
def IsM (d : Pu.D) (m : Ms) : Prop := d = dM m ∨ d = dML .fz m
theorem IsM.at {d : Pu.D} {m : Ms} (h : IsM d m) : idxD (vwD d) (.int 0) = .ok (.str m.1.1) ∧ idxD (vwD d) (.int 1) = .ok (.int m.2) := by
  rcases h with rfl | rfl <;> simp [dM, dML]
/-- an item, as a tuple or a settled list -/
def IsI (d : Pu.D) (i : It8) : Prop := d = i.D ∨ d = i.L .fz
theorem cmp2 {a b c d : OkS} : cmpB .eq (.tup [.str a.1, .str b.1]) (.tup [.str c.1, .str d.1]) = some (decide (a = c) && decide (b = d)) := by
  rw [cmp_eq8 (by simp) (by simp)]
  simp [eqb_tup, eqbs_cons, eqbs_nil, eqb_str]
end K

set_option Elab.async false
set_option linter.all false
set_option maxRecDepth 100000
set_option maxHeartbeats 1000000
/-! Ld: promises. -/
namespace K
open PySem PySem.Spec PyProof.Rows L2 Pu
theorem callD_bl {Φ : Nat → List Pu.D → Out (Pu.D × List Pu.D)} {j : Nat} {ds : List Pu.D} {b : Bool} (h : Φ j (anyFzs ds) = .ok (.bl b, [])) : callD Φ j ds = .ok (.bl b) := by
  simp [callD, h]
theorem IsM.vw {d : Pu.D} {m : Ms} (h : IsM d m) : IsM (vwD d) m := by rcases h with rfl | rfl <;> simp [IsM]
theorem IsM.an {d : Pu.D} {m : Ms} (h : IsM d m) : IsM (anyFz d) m := by rcases h with rfl | rfl <;> simp [IsM]
@[simp] theorem IsM.t {m : Ms} : IsM (dM m) m := .inl rfl
@[simp] theorem IsM.l {m : Ms} : IsM (dML .fz m) m := .inr rfl
@[simp] theorem IsI.t {i : It8} : IsI i.D i := .inl rfl
@[simp] theorem IsI.l {i : It8} : IsI (i.L .fz) i := .inr rfl
/-- a promise -/
def prom (f : Fl) (ns : List OkS) (its : List It8) : Pu.D := .obj f c_Promise ["names", "entries"] [.tup (ns.map dW), .tup (its.map It8.D)]
theorem fld_prom_e {f ns its} : fldD "entries" (prom f ns its) = .ok (.tup (its.map It8.D)) := by
  have h : (("entries" : Str) == ("names" : Str)) = false := by decide +kernel
  simp [prom, fldD, List.lookup, h]
theorem fld_prom_n {f ns its} : fldD "names" (prom f ns its) = .ok (.tup (ns.map dW)) := by
  simp [prom, fldD, List.lookup]
@[simp] theorem prom_vw {f ns its} : vwD (prom f ns its) = prom f.vwd ns its := by simp [prom, vwD]
@[simp] theorem prom_an {f ns its} : anyFz (prom f ns its) = prom .fz ns its := by simp [prom, anyFz]
def keepsL (its : List It8) (m k : Ms) : Bool := its.any fun it => it.keeps m k
theorem any_filter {α : Type} {p : α → Bool} {xs : List α} : decide (0 < ((xs.filter p).length : Int)) = xs.any p := by
  induction xs with
  | nil => rfl
  | cons x xs ih =>
    cases q : p x with
    | true =>
      simp [q]
    | false => simpa [q] using ih
/-! ### all items -/
def ords : List OkS → List It8
  | [] => []
  | a :: bs => .ord a a .less :: (bs.flatMap fun b => [.ord a b .less, .ord a b .equal, .ord a b .greater]) ++ ords bs
def itemsL (ns : List OkS) : List It8 := ords ns ++ ns.map .once
theorem len3 {a : OkS} {bs : List OkS} : (bs.flatMap fun b => [It8.ord a b .less, .ord a b .equal, .ord a b .greater]).length = 3 * bs.length := by
  induction bs with
  | nil => rfl
  | cons b bs ih => simp only [List.flatMap_cons, List.length_append, ih, List.length_cons, List.length_nil]; omega
theorem ords_len {ns : List OkS} (h : ns.length ≤ 10) : (ords ns).length ≤ 40 * ns.length := by
  induction ns with
  | nil => exact Nat.le_refl _
  | cons a bs ih =>
    simp only [List.length_cons] at h
    have := ih (by omega)
    simp only [ords, List.length_append, List.length_cons, len3]
    omega
theorem itemsL_len {ns : List OkS} (h : ns.length ≤ 10) : (itemsL ns).length ≤ 410 := by
  have := ords_len h
  simp only [itemsL, List.length_append, List.length_map]
  omega
theorem phi_all_items {n : Nat} (hn : 1 ≤ n) {ns : List OkS} {d : Pu.D} (hd : Sq d (ns.map dW)) (h : ns.length ≤ 10) : PhiN T gv n j_all_items [d] = .ok (.lst .ow ((itemsL ns).map It8.D), []) := by
  rw [up hn rfl]
  have h5 := big5
  have ol := ords_len h
  have e1 : ∀ (o : List (Option Pu.D)), evIt (PhiN T gv (n - 1)) gv (.enum (.var 0)) (some d :: o) = .ok (ns.zipIdx.map fun p => .tup [.int (p.2 : Int), dW p.1], true) := fun o => by
    rcases hd with rfl | rfl <;> simp [enumL_map]
  have ce : ∀ a b : OkS, ∀ d o1 o2 o5, ev (PhiN T gv (n - 1)) gv (.comp [6] (.tup [(.str "order"), (.var 3), (.var 4), (.var 6)]) (.nm 6) (.of (.tup [(.str "less"), (.str "equal"), (.str "greater")])) []) [some d, o1, o2, some (dW a), some (dW b), o5, none] = .ok (.lst .ow ([It8.ord a b .less, .ord a b .equal, .ord a b .greater].map It8.D)) := fun a b d o1 o2 o5 => by
    simp [ev_cmp', compL, wipeD, D_ord, Rel.s, dW, h5]
  simp [fnD_eq, b_all_items, runs_cons, run_set]
  refine fn_fr (fun i ρ => ∃ done o2 o3 o4, ρ = [some d, some (.lst .ow (done.map It8.D)), o2, o3, o4, none, none] ∧ done ++ ords (ns.drop i) = ords ns) (e1 _) (by simp) ⟨[], none, none, none, by simp, by simp⟩ ?_ ?_
  · rintro i ⟨x, j⟩ ρ hx ⟨done, o2, o3, o4, rfl, hq⟩ N B R hN - -
    obtain ⟨hx, rfl⟩ := zipI_get hx
    dsimp only at hx
    have hl := congrArg List.length hq
    have hdl : (ns.drop (j + 1)).length ≤ 10 := by rw [List.length_drop]; omega
    have hi : ∀ o1 o4, evIt (PhiN T gv (n - 1)) gv (.of (.slc (.var 0) [(.bin .add (.var 2) (.int 1))] [])) [some d, o1, some (.int (j : Int)), some (dW x), o4, none, none] = .ok ((ns.drop (j + 1)).map dW, true) := fun _ _ => by
      rcases hd with rfl | rfl
      · refine evIt_of1 (d := .lst .ow ((ns.drop (j + 1)).map dW)) (by simp) ?_ ?_
        · rw [fz_lst, fzDs_map]; simp
        · rw [nv_lst, noVws_map]; simp
      · refine evIt_of1 (d := .tup ((ns.drop (j + 1)).map dW)) (by simp) ?_ ?_
        · rw [fz_tup, fzDs_map]; simp
        · rw [nv_tup, noVws_map]; simp
    rw [drop_get hx] at hq hl
    generalize ns.drop (j + 1) = bs at *
    simp only [ords, List.length_append, List.length_cons, len3] at hl
    have hd2 : done.length < sizeLine := Nat.lt_of_lt_of_le (by omega : done.length < 1000) (h5 1000 (Nat.le_refl _))
    simp [runs_cons, runs_nil, bindC_tp, run_app, appK, hd2, h5]
    refine st_fr (xs := bs) (en := dW) (fun i ρ => ∃ ts o4, ρ = [some d, some (.lst .ow ((done ++ .ord x x .less :: ts).map It8.D)), some (.int (j : Int)), some (dW x), o4, none, none] ∧ ts = (bs.take i).flatMap fun b => [It8.ord x b .less, .ord x b .equal, .ord x b .greater])
      (hi _ _) (by simp) ⟨[], o4, by simp [D_ord, dW, Rel.s], rfl⟩ ?_ ?_
    · rintro i y ρ hy ⟨ts, o4, rfl, ht⟩ N' B' R' hN' - -
      have hb : ts.length ≤ 30 := by rw [ht, len3, List.length_take]; omega
      have hb2 := h5 (done.length + (ts.length + 1) + 3) (by omega)
      simp [runs_cons, runs_nil, run_set, ce, hb2]
      refine hN' _ ⟨ts ++ [.ord x y .less, .ord x y .equal, .ord x y .greater], _, by simp; rfl, ?_⟩
      rw [take_get hy, ht, List.flatMap_append]; rfl
    · rintro ρ ⟨ts, o4, rfl, ht⟩
      rw [List.take_of_length_le (Nat.le_refl _)] at ht
      simp only [St_nx]
      refine hN _ ⟨done ++ .ord x x .less :: ts, _, _, _, rfl, ?_⟩
      rw [← hq, ht]
      simp only [ords, List.append_assoc, List.cons_append]
  · rintro ρ ⟨done, o2, o3, o4, rfl, hq⟩
    have e0 : ns.drop ns.zipIdx.length = [] := by simp
    rw [e0] at hq
    simp only [ords, List.append_nil] at hq
    subst hq
    have hb := h5 ((ords ns).length + ns.length) (by omega)
    have hb2 := h5 ns.length (by omega)
    rcases hd with rfl | rfl <;> simp [runs_cons, runs_nil, run_ret, ev_cmp', compL_E, wipeD, hb, hb2, h5, itemsL, D_once, dW, Function.comp_def]
end K

set_option Elab.async false
set_option linter.all false
set_option maxRecDepth 100000
set_option maxHeartbeats 1000000
/-! Le: the law's items; promises are made. -/
namespace K
open PySem PySem.Spec PyProof.Rows L2 Pu
theorem phi_law_items {n : Nat} (hn : 1 ≤ n) {ns : List OkS} (h : ns.length ≤ 10) : PhiN T gv n j_law_items [.lst .fz (ns.map dW)] = .ok (.lst .ow ((itemsL ns).map It8.D), []) := by
  rw [up hn rfl]
  have h5 := big5
  have ol := ords_len h
  have hr : ∀ (o : List (Option Pu.D)), evIt (PhiN T gv (n - 1)) gv (.rng [(.bi .len [(.var 0)])]) (some (.lst .fz (ns.map dW)) :: o) = .ok ((List.range ns.length).map fun (j : Nat) => D.int (j : Int), true) := fun o => by
    exact evIt_rngE (by simp) (by omega)
  have inner : ∀ (acc : List It8) (j : Nat) (a b : OkS) (o4 : Option Pu.D), ns[j]? = some a → acc.length ≤ 900 → run1 (PhiN T gv (n - 1)) gv [] (.fr (.nm 4) (.of (.lst [(.str "less"), (.str "equal"), (.str "greater")])) [(.app 1 [] (.tup [(.str "order"), (.idx (.var 0) (.var 2)), (.var 3), (.var 4)]))]) [some (.lst .fz (ns.map dW)), some (.lst .ow (acc.map It8.D)), some (.int (j : Int)), some (dW b), o4, none]
      = .nx [some (.lst .fz (ns.map dW)), some (.lst .ow ((acc ++ [It8.ord a b .less, It8.ord a b .equal, It8.ord a b .greater]).map It8.D)), some (.int (j : Int)), some (dW b), some (.str "greater"), none] := fun acc j a b o4 hj hl => by
    rw [run_fr (xs := [.str "less", .str "equal", .str "greater"]) (by simp [h5]) (by simp)]
    have q1 : acc.length < sizeLine := Nat.lt_of_lt_of_le (by omega : acc.length < 1000) (h5 1000 (Nat.le_refl _))
    have q2 : acc.length + 1 < sizeLine := Nat.lt_of_lt_of_le (by omega : acc.length + 1 < 1000) (h5 1000 (Nat.le_refl _))
    have q3 : acc.length + 1 + 1 < sizeLine := Nat.lt_of_lt_of_le (by omega : acc.length + 1 + 1 < 1000) (h5 1000 (Nat.le_refl _))
    simp [loopF, runs_cons, runs_nil, run_app, appK, atI_n, hj, h5, q1, q2, q3, D_ord, Rel.s, dW]
  simp [fnD_eq, b_law_items, runs_cons, run_set]
  refine fn_frR (fun i ρ => ∃ done o2 o3 o4, ρ = [some (.lst .fz (ns.map dW)), some (.lst .ow (done.map It8.D)), o2, o3, o4, none] ∧ done ++ ords (ns.drop i) = ords ns) (hr _) ⟨[], none, none, none, by simp, by simp⟩ ?_ ?_
  · rintro j ρ hj ⟨done, o2, o3, o4, rfl, hq⟩ N B R hN - -
    have hx : ns[j]? = some ns[j] := List.getElem?_eq_getElem hj
    generalize ns[j] = x at hx
    have hl := congrArg List.length hq
    have hdl : (ns.drop (j + 1)).length ≤ 10 := by rw [List.length_drop]; omega
    have hi : ∀ o1 o3 o4, evIt (PhiN T gv (n - 1)) gv (.of (.slc (.var 0) [(.bin .add (.var 2) (.int 1))] [])) [some (.lst .fz (ns.map dW)), o1, some (.int (j : Int)), o3, o4, none] = .ok ((ns.drop (j + 1)).map dW, true) := fun _ _ _ => by
      refine evIt_of1 (d := .lst .ow ((ns.drop (j + 1)).map dW)) (by simp) ?_ ?_
      · rw [fz_lst, fzDs_map]; simp
      · rw [nv_lst, noVws_map]; simp
    rw [drop_get hx] at hq hl
    generalize ns.drop (j + 1) = bs at *
    simp only [ords, List.length_append, List.length_cons, len3] at hl
    have hd2 : done.length < sizeLine := Nat.lt_of_lt_of_le (by omega : done.length < 1000) (h5 1000 (Nat.le_refl _))
    simp [runs_cons, runs_nil, run_app, appK, hd2, h5, atI_n, hx]
    refine st_fr (xs := bs) (en := dW) (fun i ρ => ∃ ts o3 o4, ρ = [some (.lst .fz (ns.map dW)), some (.lst .ow ((done ++ .ord x x .less :: ts).map It8.D)), some (.int (j : Int)), o3, o4, none] ∧ ts = (bs.take i).flatMap fun b => [It8.ord x b .less, .ord x b .equal, .ord x b .greater])
      (hi _ _ _) (by simp) ⟨[], o3, o4, by simp [D_ord, dW, Rel.s], rfl⟩ ?_ ?_
    · rintro i y ρ hy ⟨ts, o3, o4, rfl, ht⟩ N' B' R' hN' - -
      have hb : ts.length ≤ 30 := by rw [ht, len3, List.length_take]; omega
      simp only [bindC_nm, dW_nv, List.length_cons, List.length_nil, if_true]
      simp [runs_cons, runs_nil, inner (done ++ It8.ord x x .less :: ts) j x y _ hx (by simp; omega), -List.map_append, -List.map_cons]
      refine hN' _ ⟨ts ++ [.ord x y .less, .ord x y .equal, .ord x y .greater], _, _, by simp; exact ⟨rfl, rfl⟩, ?_⟩
      rw [take_get hy, ht, List.flatMap_append]; rfl
    · rintro ρ ⟨ts, o3, o4, rfl, ht⟩
      rw [List.take_of_length_le (Nat.le_refl _)] at ht
      simp only [St_nx]
      refine hN _ ⟨done ++ .ord x x .less :: ts, _, _, _, rfl, ?_⟩
      rw [← hq, ht]
      simp only [ords, List.append_assoc, List.cons_append]
  · rintro ρ ⟨done, o2, o3, o4, rfl, hq⟩
    have e0 : ns.drop ns.length = [] := by simp
    rw [e0] at hq
    simp only [ords, List.append_nil] at hq
    subst hq
    have hb := h5 ((ords ns).length + ns.length) (by omega)
    have hb2 := h5 ns.length (by omega)
    simp [runs_cons, runs_nil, run_ret, ev_cmp', compL_E, wipeD, hb, hb2, h5, itemsL, D_once, dW, Function.comp_def]
/-- the items that a row picks -/
def pickL {α : Type} (its : List α) (row : List Nat) : List α := (its.zipIdx.filter fun p => decide (nth row (p.2 % row.length) % 2 = 0)).map (·.1)
theorem pick_sub {α : Type} (its : List α) (row : List Nat) : (pickL its row).Sublist its := by
  have z := (List.filter_sublist (l := its.zipIdx) (p := fun p => decide (nth row (p.2 % row.length) % 2 = 0))).map (fun p : α × Nat => p.1)
  rwa [zip_fst] at z
end K

set_option Elab.async false
set_option linter.all false
set_option maxRecDepth 100000
set_option maxHeartbeats 1000000
/-! Lf: a promise is made. -/
namespace K
open PySem PySem.Spec PyProof.Rows L2 Pu
theorem nodup_take {α : Type} {xs : List α} (h : xs.Nodup) {k : Nat} {x : α} (e : xs[k]? = some x) : x ∉ xs.take k := fun hm => by
  rw [← List.take_append_drop k xs, drop_get e, List.nodup_append] at h
  exact h.2.2 x hm x List.mem_cons_self rfl
/-- what a promise keeps of the items that were passed -/
def entriesL (ns : List OkS) (its : List It8) : List It8 := (itemsL ns).filter fun i => decide (i ∈ its)
theorem phi_Promise_init {n : Nat} (hn : 2 ≤ n) {ns : List OkS} {its : List It8} (h : ns.length ≤ 10) (hs : ∀ i ∈ its, i ∈ itemsL ns) (hd : its.Nodup) (hl : its.length ≤ 900) : PhiN T gv n j_Promise_init [.obj .ow c_Promise [] [], .lst .fz (ns.map dW), .lst .fz (its.map It8.D)] = .ok (.non, [prom .ow ns (entriesL ns its)]) := by
  rw [up (by omega) rfl]
  have h5 := big5
  have il := itemsL_len h
  have c := phi_all_items (n := n - 1) (by omega) (d := .tup (ns.map dW)) (.inr rfl) h
  have cc : callD (PhiN T gv (n - 1)) j_all_items [.tup (ns.map dW)] = .ok (.lst .ow ((itemsL ns).map It8.D)) := by
    simp [callD, c]
  unfold entriesL
  generalize itemsL ns = evr at *
  have tup_it : ∀ i : It8, biD .tuple [i.D] = .ok i.D := fun i => by cases i <;> simp [D_ord, D_once]
  have z1 := ev_comp (Φ := PhiN T gv (n - 1)) (gv := gv) (own := [4]) (e := .bi .tuple [(.var 4)]) (tg := .nm 4) (it := .of (.var 2)) (ρ := [some (.obj .ow c_Promise [] []), some (.lst .fz (ns.map dW)), some (.lst .fz (its.map It8.D)), none, none, none]) (f := It8.D) (xs := its) (en := It8.D) (b := true)
    (evIt_of1 (d := .lst .fz (its.map It8.D)) (by simp) (by simp) (by simp)) (h5 _ (by omega)) (fun it hx => by simp [wipeD, tup_it])
  have z2 := ev_all (Φ := PhiN T gv (n - 1)) (gv := gv) (own := [4]) (e := .cmp .isIn (.var 4) (.var 3)) (tg := .nm 4) (it := .of (.var 2)) (ρ := [some (.obj .ow c_Promise [] []), some (.lst .fz (ns.map dW)), some (.lst .ow (its.map It8.D)), some (.lst .ow (evr.map It8.D)), none, none]) (p := fun i => decide (i ∈ evr)) (xs := its) (en := It8.D) (b := false)
    (by simp [evIt_of]) (fun it hx => by simp [wipeD, cmp_inL8])
  have z3 := ev_any (Φ := PhiN T gv (n - 1)) (gv := gv) (own := [5]) (e := .cmp .isIn (.idx (.var 2) (.var 5)) (.slc (.var 2) [] [(.var 5)])) (tg := .nm 5) (it := .rng [(.bi .len [(.var 2)])]) (ρ := [some (.obj .ow c_Promise [] []), some (.lst .fz (ns.map dW)), some (.lst .ow (its.map It8.D)), some (.lst .ow (evr.map It8.D)), none, none]) (p := fun q => decide (q.1 ∈ its.take q.2)) (xs := its.zipIdx) (en := fun q => .int (q.2 : Int)) (b := true)
    (evIt_zip (by simp) (by omega)) (fun q hx => by
      have e1 := zip_mem hx
      have e2 : ((its.map It8.D).take q.2) = (its.take q.2).map It8.D := List.map_take.symm
      simp [wipeD, atI_n, e1]
      rw [e2, cmp_inL8 (by simp) (by rw [flats_map]; simp), memb_it]
      rfl)
  have z4 := ev_compF (Φ := PhiN T gv (n - 1)) (gv := gv) (own := [4]) (e := .var 4) (tg := .nm 4) (it := .of (.var 3)) (ρ := [some (.obj .ow c_Promise ["names"] [.tup (ns.map dW)]), some (.lst .fz (ns.map dW)), some (.lst .ow (its.map It8.D)), some (.lst .ow (evr.map It8.D)), none, none]) (cs := [(.cmp .isIn (.var 4) (.var 2))]) (f := It8.D) (p := fun i => decide (i ∈ its)) (xs := evr) (en := It8.D) (b := false)
    (by simp [evIt_of]) (h5 _ (by omega)) (fun it hx => by
      simp [wipeD, cmp_inL8]
      by_cases q : it ∈ its <;> simp [q])
  have a1 : (its.all fun i => decide (i ∈ evr)) = true := by simpa using hs
  have a2 : (its.zipIdx.any fun q => decide (q.1 ∈ its.take q.2)) = false := by
    rw [List.any_eq_false]
    intro q hq
    have := nodup_take hd (zip_mem hq)
    simpa using this
  rw [a1] at z2
  rw [a2] at z3
  have s1 : putN "names" (D.tup (ns.map dW)) [] [] = (([("names" : Str)] : List Str), [D.tup (ns.map dW)]) := putN_new (by exact List.not_mem_nil) rfl
  have s2 : ∀ y, putN "entries" y ([("names" : Str)] : List Str) [D.tup (ns.map dW)] = (([("names" : Str), ("entries" : Str)] : List Str), [D.tup (ns.map dW), y]) := fun y => putN_new (by decide +kernel) rfl
  have r1 := run_setF (Φ := PhiN T gv (n - 1)) (gv := gv) (pi := [0]) (i := 0) (c := c_Promise) (f := "names") (e := .bi .tuple [(.var 1)]) (y := .tup (ns.map dW)) (ns := []) (xs := []) (ρ := [some (.obj .ow c_Promise [] []), some (.lst .fz (ns.map dW)), some (.lst .ow (its.map It8.D)), some (.lst .ow (evr.map It8.D)), none, none]) (by simp) (by simp) rfl (by simp)
  have r2 := run_setF (Φ := PhiN T gv (n - 1)) (gv := gv) (pi := [0]) (i := 0) (c := c_Promise) (f := "entries") (e := .bi .tuple [(.comp [4] (.var 4) (.nm 4) (.of (.var 3)) [(.cmp .isIn (.var 4) (.var 2))])]) (y := .tup ((evr.filter fun i => decide (i ∈ its)).map It8.D)) (ns := ["names"]) (xs := [.tup (ns.map dW)]) (ρ := [some (.obj .ow c_Promise ["names"] [.tup (ns.map dW)]), some (.lst .fz (ns.map dW)), some (.lst .ow (its.map It8.D)), some (.lst .ow (evr.map It8.D)), none, none]) (by simp [z4]) (by simp) rfl (by simp)
  rw [s1] at r1
  rw [s2] at r2
  simp only [List.set] at r1 r2
  simp [fnD_eq, b_Promise_init, runs_cons, runs_nil, run_set, run_ite, z1, cc, z2, z3, r1, r2, fnEnd, selD, prom]
theorem call_Promise {n : Nat} (hn : 2 ≤ n) {ns : List OkS} {its : List It8} {f g : Fl} (hf : f ≠ .vw) (hg : g ≠ .vw) (h : ns.length ≤ 10) (hs : ∀ i ∈ its, i ∈ itemsL ns) (hd : its.Nodup) (hl : its.length ≤ 900) : mkD (PhiN T gv n) c_Promise j_Promise_init [.lst f (ns.map dW), .lst g (its.map It8.D)] = .ok (prom .ow ns (entriesL ns its)) := by
  simp [mkD, hf, hg, phi_Promise_init hn h hs hd hl]
end K

set_option Elab.async false
set_option linter.all false
set_option maxRecDepth 100000
set_option maxHeartbeats 1000000
/-! Lk: names and items differ. -/
namespace K
open PySem PySem.Spec PyProof.Rows L2 Pu
instance : Inhabited OkS := ⟨⟨"order", ok_order⟩⟩
theorem oks_of : ∀ {ws : List (List Nat)}, (∀ w ∈ ws, ∀ c ∈ w, c < 128) → ∃ ns : List OkS, ns.map (·.1) = ws.map mkS
  | [], _ => ⟨[], rfl⟩
  | w :: ws, h => by
    obtain ⟨ns, e⟩ := oks_of fun v hv => h v (List.mem_cons_of_mem _ hv)
    exact ⟨⟨mkS w, mkS_ok (h w List.mem_cons_self)⟩ :: ns, by rw [List.map_cons, List.map_cons, e]⟩
theorem nodup_of_map {α β : Type} {f : α → β} {xs : List α} (h : (xs.map f).Nodup) : xs.Nodup := by
  induction xs with
  | nil => exact List.nodup_nil
  | cons x xs ih =>
    rw [List.map_cons, List.nodup_cons] at h
    exact List.nodup_cons.mpr ⟨fun m => h.1 (List.mem_map_of_mem m), ih h.2⟩
theorem nodup_map_on {α β : Type} {f : α → β} {xs : List α} (h : xs.Nodup) (inj : ∀ a ∈ xs, ∀ b ∈ xs, f a = f b → a = b) : (xs.map f).Nodup := by
  induction xs with
  | nil => exact List.nodup_nil
  | cons x xs ih =>
    rw [List.nodup_cons] at h
    rw [List.map_cons, List.nodup_cons]
    refine ⟨fun m => ?_, ih h.2 fun a ha b hb => inj a (List.mem_cons_of_mem _ ha) b (List.mem_cons_of_mem _ hb)⟩
    obtain ⟨y, hy, e⟩ := List.mem_map.mp m
    exact h.1 (by rw [← inj y (List.mem_cons_of_mem _ hy) x List.mem_cons_self e]; exact hy)
theorem wordsL_ok (a b c k : Nat) : ∀ x ∈ wordsL a b c k, x < 128 := by
  intro x hx
  unfold wordsL at hx
  simp only [List.mem_append, List.mem_singleton] at hx
  rcases hx with hx | rfl | hx
  · have := wordL_ok a x (List.mem_of_mem_take hx); omega
  · have := ch_ok ((b : Int) + k); omega
  · have := wordL_ok a x (List.mem_of_mem_drop hx); omega
theorem wordsL_inj {a b c k l : Nat} (hk : k < 26) (hl : l < 26) (h : wordsL a b c k = wordsL a b c l) : k = l := by
  unfold wordsL at h
  have h := List.append_cancel_left h
  simp only [List.cons_append, List.cons.injEq] at h
  have h := h.1
  unfold ch at h
  omega
/-- what names a law draws -/
theorem names_ok (row : List Nat) : ∃ ns : List OkS, ns.map dW = (namesL row).map (fun w => D.str (mkS w)) ∧ ns.length = 1 + nth row 3 % 4 ∧ ns.Nodup ∧ ∃ L, L ≤ 10 ∧ ∀ w ∈ ns, w.1.length = L := by
  obtain ⟨ns, e⟩ := oks_of (ws := namesL row) fun w hw => by
    obtain ⟨k, _, rfl⟩ := List.mem_map.mp hw
    exact wordsL_ok _ _ _ _
  refine ⟨ns, ?_, ?_, ?_, (wordL ((nth row 0 : Nat) : Int)).length + 1, ?_, ?_⟩
  · have := congrArg (List.map D.str) e
    rw [List.map_map, List.map_map] at this
    exact this
  · have := congrArg List.length e
    simpa [namesL] using this
  · refine nodup_of_map (f := fun w => w.1) ?_
    rw [e]
    unfold namesL
    rw [List.map_map]
    refine nodup_map_on List.nodup_range fun k hk l hl h => ?_
    have hk := List.mem_range.mp hk
    have hl := List.mem_range.mp hl
    exact wordsL_inj (by omega) (by omega) (mkS_inj h)
  · have := wordL_len ((nth row 0 : Nat) : Int); omega
  · intro w hw
    have hm : w.1 ∈ (namesL row).map mkS := by rw [← e]; exact List.mem_map_of_mem hw
    obtain ⟨l, hl, el⟩ := List.mem_map.mp hm
    obtain ⟨k, _, rfl⟩ := List.mem_map.mp hl
    rw [← el, mkS_len]
    unfold wordsL
    simp only [List.length_append, List.length_take, List.length_drop, List.length_singleton]
    omega
theorem mem_ords {ns : List OkS} {i : It8} (h : i ∈ ords ns) : ∃ a b r, i = .ord a b r ∧ a ∈ ns ∧ b ∈ ns := by
  induction ns with
  | nil => simp [ords] at h
  | cons a bs ih =>
    simp only [ords, List.mem_append, List.mem_cons, List.mem_flatMap, List.not_mem_nil, or_false] at h
    rcases h with (rfl | ⟨b, hb, rfl | rfl | rfl⟩) | h
    · exact ⟨a, a, _, rfl, by simp, by simp⟩
    · exact ⟨a, b, _, rfl, by simp, by simp [hb]⟩
    · exact ⟨a, b, _, rfl, by simp, by simp [hb]⟩
    · exact ⟨a, b, _, rfl, by simp, by simp [hb]⟩
    · obtain ⟨x, y, r, e, h1, h2⟩ := ih h
      exact ⟨x, y, r, e, List.mem_cons_of_mem _ h1, List.mem_cons_of_mem _ h2⟩
theorem tri_nodup {a : OkS} {bs : List OkS} (h : bs.Nodup) : (bs.flatMap fun b => [It8.ord a b .less, .ord a b .equal, .ord a b .greater]).Nodup := by
  induction bs with
  | nil => exact List.nodup_nil
  | cons b bs ih =>
    rw [List.nodup_cons] at h
    rw [List.flatMap_cons, List.nodup_append]
    refine ⟨by simp, ih h.2, fun x hx y hy e => ?_⟩
    subst e
    obtain ⟨c, hc, hx2⟩ := List.mem_flatMap.mp hy
    simp only [List.mem_cons, List.not_mem_nil, or_false] at hx hx2
    have : b = c := by
      rcases hx with rfl | rfl | rfl <;> rcases hx2 with z | z | z <;> simp at z <;> exact z
    exact h.1 (by rw [this]; exact hc)
theorem ords_nodup {ns : List OkS} (h : ns.Nodup) : (ords ns).Nodup := by
  induction ns with
  | nil => exact List.nodup_nil
  | cons a bs ih =>
    rw [List.nodup_cons] at h
    simp only [ords, List.cons_append]
    rw [List.nodup_cons, List.nodup_append]
    refine ⟨fun m => ?_, tri_nodup h.2, ih h.2, fun x hx y hy e => ?_⟩
    · rw [List.mem_append] at m
      rcases m with m | m
      · obtain ⟨c, hc, hx⟩ := List.mem_flatMap.mp m
        simp only [List.mem_cons, List.not_mem_nil, or_false] at hx
        have : a = c := by rcases hx with z | z | z <;> simp at z <;> exact z
        exact h.1 (by rw [this]; exact hc)
      · obtain ⟨x, y, r, e, h1, _⟩ := mem_ords m
        simp only [It8.ord.injEq] at e
        exact h.1 (by rw [e.1]; exact h1)
    · subst e
      obtain ⟨c, hc, hx⟩ := List.mem_flatMap.mp hx
      obtain ⟨x', y', r, e, h1, _⟩ := mem_ords hy
      simp only [List.mem_cons, List.not_mem_nil, or_false] at hx
      have : a = x' := by rcases hx with z | z | z <;> rw [z] at e <;> simp at e <;> exact e.1
      exact h.1 (by rw [this]; exact h1)
theorem itemsL_nodup {ns : List OkS} (h : ns.Nodup) : (itemsL ns).Nodup := by
  unfold itemsL
  rw [List.nodup_append]
  refine ⟨ords_nodup h, nodup_map_on h fun a _ b _ e => by simpa using e, fun x hx y hy e => ?_⟩
  subst e
  obtain ⟨a, b, r, e, _⟩ := mem_ords hx
  obtain ⟨c, _, e2⟩ := List.mem_map.mp hy
  rw [e] at e2
  cases e2
theorem keeps_sym (it : It8) (m k : Ms) : it.keeps m k = it.keeps k m := by
  cases it with
  | once a => rfl
  | ord a b r =>
    unfold It8.keeps
    dsimp only
    by_cases e : a = b
    · subst e
      rw [if_pos rfl, if_pos rfl]
      by_cases h1 : m.1 = a <;> by_cases h2 : k.1 = a <;> simp [h1, h2, eq_comm]
    · rw [if_neg e, if_neg e]
      by_cases h1 : m.1 = a ∧ k.1 = b
      · have h2 : ¬ (k.1 = a ∧ m.1 = b) := fun z => e (by rw [← h1.1, z.2])
        rw [if_pos h1, if_neg h2, if_pos h1]
      · by_cases h2 : k.1 = a ∧ m.1 = b
        · rw [if_neg h1, if_pos h2, if_pos h2]
        · rw [if_neg h1, if_neg h2, if_neg h2, if_neg h1]
theorem keepsL_sym (its : List It8) (m k : Ms) : keepsL its m k = keepsL its k m := by
  unfold keepsL
  congr 1
  funext it
  exact keeps_sym it m k
theorem keepsL_entries {ns : List OkS} {its : List It8} (h : ∀ i ∈ its, i ∈ itemsL ns) (m k : Ms) : keepsL (entriesL ns its) m k = keepsL its m k := by
  unfold keepsL entriesL
  refine bool_of ?_
  rw [List.any_eq_true, List.any_eq_true]
  constructor
  · rintro ⟨i, hi, q⟩
    obtain ⟨_, h2⟩ := List.mem_filter.mp hi
    exact ⟨i, by simpa using h2, q⟩
  · rintro ⟨i, hi, q⟩
    exact ⟨i, List.mem_filter.mpr ⟨h i hi, by simpa using hi⟩, q⟩
end K

set_option Elab.async false
set_option linter.all false
set_option maxRecDepth 100000
set_option maxHeartbeats 1000000
/-! Lm: a promise is made, or not, of any rows of words. -/
namespace K
open PySem PySem.Spec PyProof.Rows L2 Pu
def oOrder : OkS := ⟨"order", ok_order⟩
def oOnce : OkS := ⟨"once", ok_once⟩
def oRel (r : Rel) : OkS := ⟨r.s, r.ok⟩
/-- an item as a row of words -/
def It8.ws : It8 → List OkS
  | .ord a b r => [oOrder, a, b, oRel r]
  | .once a => [oOnce, a]
def dG (g : List OkS) : Pu.D := .tup (g.map dW)
/-- .. as a tuple or a list -/
def dB (f : Fl) (x : List OkS × Bool) : Pu.D := if x.2 = true then dG x.1 else .lst f (x.1.map dW)
theorem It8.dG {i : It8} : i.D = K.dG i.ws := by cases i <;> rfl
theorem ws_inj {a b : It8} (h : a.ws = b.ws) : a = b := It8.inj (by rw [It8.dG, It8.dG, h])
@[simp] theorem dG_vw {g} : vwD (dG g) = dG g := by simp [dG]
@[simp] theorem dG_fz {g} : fzD (dG g) = dG g := by simp [dG]
@[simp] theorem dG_va {g} : vaD (dG g) = dG g := by simp [dG]
@[simp] theorem dG_an {g} : anyFz (dG g) = dG g := by simp [dG]
@[simp] theorem dG_nv {g} : noVw (dG g) = true := by simp [dG]
@[simp] theorem dG_fl {g} : flat 8 (dG g) = true := by simp [dG]
@[simp] theorem dG_tup {g} : biD .tuple [dG g] = .ok (dG g) := by simp [dG]
theorem dW_injL {a b : List OkS} (h : a.map dW = b.map dW) : a = b := by
  induction a generalizing b with
  | nil => cases b with | nil => rfl | cons _ _ => simp at h
  | cons x xs ih => cases b with
    | nil => simp at h
    | cons y ys => simp only [List.map_cons, List.cons.injEq] at h; rw [dW_inj h.1, ih h.2]
theorem dG_inj {a b : List OkS} (h : dG a = dG b) : a = b := by
  simp only [dG, D.tup.injEq] at h
  exact dW_injL h
@[simp] theorem dB_vw {f x} : vwD (dB f x) = dB f.vwd x := by unfold dB; split <;> simp
@[simp] theorem dB_fz {f x} : fzD (dB f x) = dB f.fzd x := by unfold dB; split <;> simp
@[simp] theorem dB_an {f x} : anyFz (dB f x) = dB .fz x := by unfold dB; split <;> simp
theorem dB_nv {f x} (h : f ≠ .vw) : noVw (dB f x) = true := by unfold dB; split <;> simp [h]
theorem dB_tup {f x} : biD .tuple [dB f x] = .ok (dG x.1) := by unfold dB; split <;> simp [dG]
theorem dB_list {f x} : biD .list [dB f x] = .ok (.lst .ow (x.1.map dW)) := by unfold dB; split <;> simp [dG]
theorem in_gs {f : Fl} {a : List Pu.D} {g : List OkS} {gs : List (List OkS)} (ha : a = gs.map dG) : cmpB .isIn (dG g) (.lst f a) = some (decide (g ∈ gs)) := by
  subst ha
  rw [cmp_inL8 (by simp) (by simp)]
  refine congrArg some (bool_of ?_)
  rw [memb_iff, decide_eq_true_iff, List.mem_map]
  exact ⟨fun ⟨y, hy, e⟩ => by rw [← dG_inj e]; exact hy, fun h => ⟨g, h, rfl⟩⟩
/-- the rows of all items -/
def rowsL (ns : List OkS) : List (List OkS) := (itemsL ns).map It8.ws
theorem rows_map {ns : List OkS} : (itemsL ns).map It8.D = (rowsL ns).map dG := by
  unfold rowsL
  rw [List.map_map]
  exact List.map_congr_left fun i _ => It8.dG
def goodG (ns : List OkS) (gs : List (List OkS)) : Prop := (∀ g ∈ gs, g ∈ rowsL ns) ∧ gs.Nodup
instance {ns gs} : Decidable (goodG ns gs) := inferInstanceAs (Decidable (_ ∧ _))
def entG (ns : List OkS) (gs : List (List OkS)) : List It8 := (itemsL ns).filter fun i => decide (i.ws ∈ gs)
theorem nodup_of_take {α : Type} {xs : List α} (h : ∀ k x, xs[k]? = some x → x ∉ xs.take k) : xs.Nodup := by
  rw [List.nodup_iff_pairwise_ne, List.pairwise_iff_getElem]
  intro i j hi hj hij e
  refine h j xs[j] (List.getElem?_eq_getElem hj) ?_
  rw [← e]
  exact List.mem_iff_getElem?.mpr ⟨i, by rw [List.getElem?_take, if_pos hij]; exact List.getElem?_eq_getElem hi⟩
theorem phi_Promise_initG {n : Nat} (hn : 2 ≤ n) {ns : List OkS} {gs : List (List OkS × Bool)} {dn di : Pu.D} (hN : Sq dn (ns.map dW)) (hI : Sq di (gs.map (dB .fz))) (h : ns.length ≤ 10) (hl : gs.length ≤ 900) :
    (goodG ns (gs.map (·.1)) → PhiN T gv n j_Promise_init [.obj .ow c_Promise [] [], dn, di] = .ok (.non, [prom .ow ns (entG ns (gs.map (·.1)))])) ∧ (¬ goodG ns (gs.map (·.1)) → ∃ ms, PhiN T gv n j_Promise_init [.obj .ow c_Promise [] [], dn, di] = .exc ⟨e_InvalidPromise, [], [], ms⟩) := by
  have h5 := big5
  have il := itemsL_len h
  have rl : (rowsL ns).length ≤ 410 := by unfold rowsL; simpa using il
  have c := phi_all_items (n := n - 1) (by omega) (d := .tup (ns.map dW)) (.inr rfl) h
  rw [rows_map] at c
  have cc : callD (PhiN T gv (n - 1)) j_all_items [.tup (ns.map dW)] = .ok (.lst .ow ((rowsL ns).map dG)) := by
    simp [callD, c]
  have tn : biD .tuple [vwD dn] = .ok (.tup (ns.map dW)) := by rcases hN with rfl | rfl <;> simp
  have e0 : entG ns (gs.map (·.1)) = (itemsL ns).filter fun i => decide (i.ws ∈ gs.map (·.1)) := rfl
  have gl : (gs.map (·.1)).length ≤ 900 := by simpa using hl
  have z1 : ev (PhiN T gv (n - 1)) gv (.comp [4] (.bi .tuple [(.var 4)]) (.nm 4) (.of (.var 2)) []) [some (.obj .ow c_Promise [] []), some dn, some di, none, none, none] = .ok (.lst .ow ((gs.map (·.1)).map dG)) := by
    rw [List.map_map]
    rcases hI with rfl | rfl
    · exact ev_comp (xs := gs) (en := dB .fz) (b := true) (evIt_of1 (d := .lst .fz (gs.map (dB .fz))) (by simp) (by simp) (by simp [dB_nv])) (h5 _ (by omega)) fun x hx => by simp [wipeD, dB_tup]
    · exact ev_comp (xs := gs) (en := dB .fz) (b := true) (evIt_of1 (d := .tup (gs.map (dB .fz))) (by simp) (by simp) (by simp [dB_nv])) (h5 _ (by omega)) fun x hx => by simp [wipeD, dB_tup]
  generalize gs.map (·.1) = ks at *
  clear hI hl
  have z2 := ev_all (Φ := PhiN T gv (n - 1)) (gv := gv) (own := [4]) (e := .cmp .isIn (.var 4) (.var 3)) (tg := .nm 4) (it := .of (.var 2)) (ρ := [some (.obj .ow c_Promise [] []), some dn, some (.lst .ow (ks.map dG)), some (.lst .ow ((rowsL ns).map dG)), none, none]) (p := fun i => decide (i ∈ rowsL ns)) (xs := ks) (en := dG) (b := false)
    (by simp [evIt_of]) (fun it hx => by simp [wipeD, in_gs rfl])
  have z3 := ev_any (Φ := PhiN T gv (n - 1)) (gv := gv) (own := [5]) (e := .cmp .isIn (.idx (.var 2) (.var 5)) (.slc (.var 2) [] [(.var 5)])) (tg := .nm 5) (it := .rng [(.bi .len [(.var 2)])]) (ρ := [some (.obj .ow c_Promise [] []), some dn, some (.lst .ow (ks.map dG)), some (.lst .ow ((rowsL ns).map dG)), none, none]) (p := fun q => decide (q.1 ∈ ks.take q.2)) (xs := ks.zipIdx) (en := fun q => .int (q.2 : Int)) (b := true)
    (evIt_zip (by simp) (by omega)) (fun q hx => by
      have e1 := zip_mem hx
      simp [wipeD, atI_n, e1]
      rw [in_gs (gs := ks.take q.2) (by simp)]
      rfl)
  have a1 : (ks.all fun i => decide (i ∈ rowsL ns)) = decide (∀ g ∈ ks, g ∈ rowsL ns) := bool_of (by simp)
  have a2 : (ks.zipIdx.any fun q => decide (q.1 ∈ ks.take q.2)) = !decide ks.Nodup := bool_of (by
    rw [List.any_eq_true, Bool.not_eq_true', decide_eq_false_iff_not]
    constructor
    · rintro ⟨q, hq, e⟩ nd
      exact nodup_take nd (zip_mem hq) (by simpa using e)
    · intro nd
      refine Classical.byContradiction fun no => nd (nodup_of_take fun k x hx hm => no ⟨(x, k), ?_, by simpa using hm⟩)
      exact List.mem_iff_getElem?.mpr ⟨k, by rw [List.getElem?_zipIdx, hx]; simp⟩)
  rw [a1] at z2
  rw [a2] at z3
  have base : PhiN T gv n j_Promise_init [.obj .ow c_Promise [] [], dn, di] = _ := upE (by omega) rfl rfl
  refine ⟨fun hg => ?_, fun hg => ?_⟩
  · have z4 := ev_compF (Φ := PhiN T gv (n - 1)) (gv := gv) (own := [4]) (e := .var 4) (tg := .nm 4) (it := .of (.var 3)) (ρ := [some (.obj .ow c_Promise ["names"] [.tup (ns.map dW)]), some dn, some (.lst .ow (ks.map dG)), some (.lst .ow ((rowsL ns).map dG)), none, none]) (cs := [(.cmp .isIn (.var 4) (.var 2))]) (f := dG) (p := fun i => decide (i ∈ ks)) (xs := rowsL ns) (en := dG) (b := false)
      (by simp [evIt_of]) (h5 _ (by omega)) (fun it hx => by
        simp [wipeD, in_gs rfl]
        by_cases q : it ∈ ks <;> simp [q])
    have ef : ((rowsL ns).filter fun i => decide (i ∈ ks)).map dG = (entG ns ks).map It8.D := by
      unfold rowsL entG
      rw [List.filter_map, List.map_map]
      exact List.map_congr_left fun i _ => It8.dG.symm
    rw [ef] at z4
    rw [decide_eq_true hg.1] at z2
    rw [decide_eq_true hg.2] at z3
    have s1 : putN "names" (D.tup (ns.map dW)) [] [] = (([("names" : Str)] : List Str), [D.tup (ns.map dW)]) := putN_new (by exact List.not_mem_nil) rfl
    have s2 : ∀ y, putN "entries" y ([("names" : Str)] : List Str) [D.tup (ns.map dW)] = (([("names" : Str), ("entries" : Str)] : List Str), [D.tup (ns.map dW), y]) := fun y => putN_new (by decide +kernel) rfl
    have r1 := run_setF (Φ := PhiN T gv (n - 1)) (gv := gv) (pi := [0]) (i := 0) (c := c_Promise) (f := "names") (e := .bi .tuple [(.var 1)]) (y := .tup (ns.map dW)) (ns := []) (xs := []) (ρ := [some (.obj .ow c_Promise [] []), some dn, some (.lst .ow (ks.map dG)), some (.lst .ow ((rowsL ns).map dG)), none, none]) (by simp [tn]) (by simp) rfl (by simp)
    have r2 := run_setF (Φ := PhiN T gv (n - 1)) (gv := gv) (pi := [0]) (i := 0) (c := c_Promise) (f := "entries") (e := .bi .tuple [(.comp [4] (.var 4) (.nm 4) (.of (.var 3)) [(.cmp .isIn (.var 4) (.var 2))])]) (y := .tup ((entG ns ks).map It8.D)) (ns := ["names"]) (xs := [.tup (ns.map dW)]) (ρ := [some (.obj .ow c_Promise ["names"] [.tup (ns.map dW)]), some dn, some (.lst .ow (ks.map dG)), some (.lst .ow ((rowsL ns).map dG)), none, none]) (by simp [z4]) (by simp) rfl (by simp)
    rw [s1] at r1
    rw [s2] at r2
    simp only [List.set] at r1 r2
    rw [base]
    simp [b_Promise_init, runs_cons, runs_nil, run_set, run_ite, z1, tn, cc, z2, z3, r1, r2, fnEnd, selD, prom]
  · rw [base]
    by_cases h1 : ∀ g ∈ ks, g ∈ rowsL ns
    · have h2 : ¬ ks.Nodup := fun nd => hg ⟨h1, nd⟩
      rw [decide_eq_true h1] at z2
      rw [decide_eq_false h2] at z3
      exact ⟨_, by simp [b_Promise_init, runs_cons, runs_nil, run_set, run_ite, run_rais, z1, tn, cc, z2, z3, fnEnd, selD]; rfl⟩
    · rw [decide_eq_false h1] at z2
      exact ⟨_, by simp [b_Promise_init, runs_cons, runs_nil, run_set, run_ite, run_rais, z1, tn, cc, z2, fnEnd, selD]; rfl⟩
end K

set_option Elab.async false
set_option linter.all false
set_option maxRecDepth 100000
set_option maxHeartbeats 1000000
/-! Ln: wrong items. -/
namespace K
open PySem PySem.Spec PyProof.Rows L2 Pu
theorem litOk2 : PyData.strOk "none" = true ∧ PyData.strOk "keep" = true ∧ PyData.strOk "unequal" = true := by decide +kernel
def oNone : OkS := ⟨"none", litOk2.1⟩
def oKeep : OkS := ⟨"keep", litOk2.2.1⟩
def oUneq : OkS := ⟨"unequal", litOk2.2.2⟩
/-- "none" and a word -/
def nn (f : OkS) : OkS := ⟨"none" ++ f.1, strOk_app litOk2.1 f.2⟩
theorem app_len (a b : Str) : (a ++ b).length = a.length + b.length := by
  show (a.cps ++ b.cps).size = _
  rw [Array.size_append]; rfl
theorem ords_self {ns : List OkS} (h : ns.Nodup) {a : OkS} {r : Rel} (m : It8.ord a a r ∈ ords ns) : r = .less := by
  induction ns with
  | nil => simp [ords] at m
  | cons b bs ih =>
    rw [List.nodup_cons] at h
    simp only [ords, List.mem_append, List.mem_cons, List.mem_flatMap, List.not_mem_nil, or_false] at m
    rcases m with (m | ⟨c, hc, m⟩) | m
    · simp only [It8.ord.injEq] at m; exact m.2.2
    · have e : a = b ∧ a = c := by rcases m with m | m | m <;> (simp only [It8.ord.injEq] at m; exact ⟨m.1, m.2.1⟩)
      exact absurd hc (by rw [← e.2, e.1]; exact h.1)
    · exact ih h.2 m
theorem ords_head {f : OkS} {rest : List OkS} (h : (f :: rest).Nodup) {a : OkS} {r : Rel} (m : It8.ord a f r ∈ ords (f :: rest)) : a = f := by
  rw [List.nodup_cons] at h
  simp only [ords, List.mem_append, List.mem_cons, List.mem_flatMap, List.not_mem_nil, or_false] at m
  rcases m with (m | ⟨c, hc, m⟩) | m
  · simp only [It8.ord.injEq] at m; exact m.1
  · have e : f = c := by rcases m with m | m | m <;> (simp only [It8.ord.injEq] at m; exact m.2.1)
    exact absurd hc (by rw [← e]; exact h.1)
  · obtain ⟨x, y, r', e, _, h2⟩ := mem_ords m
    simp only [It8.ord.injEq] at e
    exact absurd h2 (by rw [← e.2.1]; exact h.1)
theorem rows_cases {ns : List OkS} {g : List OkS} (h : g ∈ rowsL ns) : (∃ a b r, g = [oOrder, a, b, oRel r] ∧ It8.ord a b r ∈ ords ns) ∨ ∃ a ∈ ns, g = [oOnce, a] := by
  obtain ⟨i, hi, rfl⟩ := List.mem_map.mp h
  unfold itemsL at hi
  rcases List.mem_append.mp hi with hi | hi
  · obtain ⟨a, b, r, rfl, _⟩ := mem_ords hi
    exact .inl ⟨a, b, r, rfl, hi⟩
  · obtain ⟨a, ha, rfl⟩ := List.mem_map.mp hi
    exact .inr ⟨a, ha, rfl⟩
theorem oo_ne : oOrder ≠ oOnce := fun h => by have := congrArg OkS.val h; exact absurd this (by decide +kernel)
theorem ok_ne : oKeep ≠ oOnce := fun h => by have := congrArg OkS.val h; exact absurd this (by decide +kernel)
theorem oRel_inj {a b : Rel} (h : oRel a = oRel b) : a = b := Rel.inj (congrArg OkS.val h)
theorem uneq_ne (r : Rel) : oUneq ≠ oRel r := fun h => by have := congrArg OkS.val h; revert this; cases r <;> decide +kernel
def wrongs (f : OkS) (rest : List OkS) : List (List OkS) := [[oOrder, f, f, oRel .equal], [oOrder, f, f, oRel .greater], [oOrder, f, nn f, oRel .less]] ++ [[oOnce, nn f], [oOnce], [oOrder, f], [], [oOnce, f, oRel .less], [oKeep, f]] ++ (match rest with | [] => [] | s :: _ => [[oOrder, s, f, oRel .less], [oOrder, f, s, oUneq]])
theorem wrongs_out {f : OkS} {rest : List OkS} (h : (f :: rest).Nodup) {L : Nat} (hL : ∀ w ∈ f :: rest, w.1.length = L) : ∀ g ∈ wrongs f rest, g ∉ rowsL (f :: rest) := by
  have nn_out : nn f ∉ f :: rest := fun m => by
    have e1 := hL _ m
    have e2 := hL f List.mem_cons_self
    have e3 : (nn f).1.length = 4 + f.1.length := app_len _ _
    omega
  intro g hg hm
  have c := rows_cases hm
  unfold wrongs at hg
  simp only [List.mem_append, List.mem_cons, List.not_mem_nil, or_false] at hg
  rcases hg with ((rfl | rfl | rfl) | (rfl | rfl | rfl | rfl | rfl | rfl)) | hg
  · rcases c with ⟨a, b, r, e, m⟩ | ⟨a, _, e⟩
    · simp only [List.cons.injEq, and_true, true_and] at e
      obtain ⟨rfl, rfl, e⟩ := e
      have := ords_self h m
      rw [this] at e
      exact absurd (oRel_inj e) (by decide)
    · simp at e
  · rcases c with ⟨a, b, r, e, m⟩ | ⟨a, _, e⟩
    · simp only [List.cons.injEq, and_true, true_and] at e
      obtain ⟨rfl, rfl, e⟩ := e
      have := ords_self h m
      rw [this] at e
      exact absurd (oRel_inj e) (by decide)
    · simp at e
  · rcases c with ⟨a, b, r, e, m⟩ | ⟨a, _, e⟩
    · simp only [List.cons.injEq, and_true, true_and] at e
      obtain ⟨x, y, r', e2, _, h2⟩ := mem_ords m
      simp only [It8.ord.injEq] at e2
      exact nn_out (by rw [e.2.1, e2.2.1]; exact h2)
    · simp at e
  · rcases c with ⟨a, b, r, e, m⟩ | ⟨a, ha, e⟩
    · simp at e
    · simp only [List.cons.injEq, and_true, true_and] at e
      exact nn_out (by rw [e]; exact ha)
  · rcases c with ⟨a, b, r, e, m⟩ | ⟨a, ha, e⟩ <;> simp at e
  · rcases c with ⟨a, b, r, e, m⟩ | ⟨a, ha, e⟩
    · simp at e
    · simp only [List.cons.injEq, and_true] at e
      exact oo_ne e.1
  · rcases c with ⟨a, b, r, e, m⟩ | ⟨a, ha, e⟩ <;> simp at e
  · rcases c with ⟨a, b, r, e, m⟩ | ⟨a, ha, e⟩ <;> simp at e
  · rcases c with ⟨a, b, r, e, m⟩ | ⟨a, ha, e⟩
    · simp at e
    · simp only [List.cons.injEq, and_true] at e
      exact ok_ne e.1
  · cases rest with
    | nil => simp at hg
    | cons s rest =>
      simp only [List.mem_cons, List.not_mem_nil, or_false] at hg
      rcases hg with rfl | rfl
      · rcases c with ⟨a, b, r, e, m⟩ | ⟨a, ha, e⟩
        · simp only [List.cons.injEq, and_true, true_and] at e
          obtain ⟨rfl, rfl, _⟩ := e
          have := ords_head h m
          rw [List.nodup_cons] at h
          exact h.1 (by rw [← this]; exact List.mem_cons_self)
        · simp at e
      · rcases c with ⟨a, b, r, e, m⟩ | ⟨a, ha, e⟩
        · simp only [List.cons.injEq, and_true, true_and] at e
          exact uneq_ne r e.2.2
        · simp at e
theorem bad_of {ns : List OkS} {gs : List (List OkS)} {w : List OkS} {a : Nat} (h : w ∉ rowsL ns ∨ w ∈ gs) : ¬ goodG ns (gs.take a ++ (w :: gs.drop a)) := fun g => by
  rcases h with h | h
  · exact h (g.1 w (by simp))
  · have nd := g.2
    rw [List.nodup_append] at nd
    rw [← List.take_append_drop a gs] at h
    rcases List.mem_append.mp h with m | m
    · exact nd.2.2 w m w List.mem_cons_self rfl
    · exact (List.nodup_cons.mp nd.2.1).1 m
theorem wr_at {ws : List (List OkS)} (y : Nat) (h : 0 < ws.length) : ∃ g ∈ ws, atI (ws.map dG) ((y : Int) % (ws.length : Int)) = some (dG g) := by
  have e : (y : Int) % (ws.length : Int) = ((y % ws.length : Nat) : Int) := by simp
  have hl := Nat.mod_lt y h
  refine ⟨ws[y % ws.length], List.getElem_mem hl, ?_⟩
  rw [e, atI_n, List.getElem?_map, List.getElem?_eq_getElem hl]; rfl
theorem phi_law_wrong {n : Nat} (hn : 1 ≤ n) {f : OkS} {rest : List OkS} {ks : List (List OkS)} {row : List Nat} (h : (f :: rest).Nodup) {L : Nat} (hl10 : L ≤ 10) (hL : ∀ w ∈ f :: rest, w.1.length = L) (hi : ks.length ≤ 400) (hrl : rest.length ≤ 10) (hr : 3 ≤ row.length) :
    ∃ gs : List (List OkS), gs.length ≤ 401 ∧ ¬ goodG (f :: rest) gs ∧ PhiN T gv n j_law_wrong [.lst .fz ((f :: rest).map dW), .lst .fz (ks.map dG), .lst .fz (row.map dI)] = .ok (.lst .ow (gs.map dG), []) := by
  have h5 := big5
  have wo := wrongs_out h hL
  have fl := hL f List.mem_cons_self
  have x0 : atI (row.map dI) 0 = some (.int ((nth row 0 : Nat) : Int)) := rowAt (by omega) rfl
  have x1 : atI (row.map dI) 1 = some (.int ((nth row 1 : Nat) : Int)) := rowAt (by omega) rfl
  have x2 : atI (row.map dI) 2 = some (.int ((nth row 2 : Nat) : Int)) := rowAt (by omega) rfl
  generalize nth row 0 = y0 at x0
  generalize nth row 1 = y1 at x1
  generalize nth row 2 = y2 at x2
  obtain ⟨a, ha, ha2⟩ : ∃ a : Nat, (y1 : Int) % ((ks.length : Int) + 1) = (a : Int) ∧ a ≤ ks.length := ⟨y1 % (ks.length + 1), by simp, Nat.lt_succ_iff.mp (Nat.mod_lt _ (Nat.succ_pos _))⟩
  have hl1 : (0 : Int) < (ks.length : Int) + 1 := by omega
  have add_none : binD .add (.str "none") (dW f) = .ok (dW (nn f)) := by
    show Out.chk _ _ = _
    have e3 : (Str.ofString "none").length = 4 := by decide +kernel
    have := h5 (4 + f.1.length) (by omega)
    simp [e3, this, nn, dW]
  have q2 := h5 2 (by omega)
  have q3 := h5 3 (by omega)
  have q4 := h5 4 (by omega)
  have q6 := h5 6 (by omega)
  have q1 := h5 1 (by omega)
  have q9 := h5 9 (by omega)
  have q11 := h5 11 (by omega)
  have sz1 := h5 (min a ks.length + 1) (by omega)
  have sz2 := h5 (min a ks.length + 1 + (ks.length - a)) (by omega)
  have lenW : (wrongs f rest).length = if rest = [] then 9 else 11 := by cases rest <;> rfl
  obtain ⟨g, hg, eg⟩ := wr_at (ws := wrongs f rest) y2 (by rw [lenW]; split <;> decide)
  -- the list of the wrong ones, as it stands in its name
  have run4 : ∀ (k : List (Option Pu.D) → Re), (run1 (PhiN T gv (n - 1)) gv [] (.set (.nm 3) (.idx (.var 0) (.int 0))) [some (.lst .fz ((f :: rest).map dW)), some (.lst .fz (ks.map dG)), some (.lst .fz (row.map dI)), none, none, none]).seq k = k [some (.lst .fz ((f :: rest).map dW)), some (.lst .fz (ks.map dG)), some (.lst .fz (row.map dI)), some (dW f), none, none] := fun k => by
    simp [run_set]
  refine ⟨ks.take a ++ ((if 0 < ks.length ∧ (y0 : Int) % 3 = 0 then (ks[y2 % ks.length]?).getD [] else g) :: ks.drop a), by simp; omega, ?_, ?_⟩
  · refine bad_of ?_
    split
    · rename_i c
      right
      have hl := Nat.mod_lt y2 c.1
      rw [List.getElem?_eq_getElem hl]
      exact List.getElem_mem hl
    · exact .inl (wo g hg)
  · rw [upE hn rfl rfl]
    have hW : ∀ (k : List (Option Pu.D) → Re), runs (PhiN T gv (n - 1)) gv [] (b_law_wrong.take 4) [some (.lst .fz ((f :: rest).map dW)), some (.lst .fz (ks.map dG)), some (.lst .fz (row.map dI)), none, none, none] = .nx [some (.lst .fz ((f :: rest).map dW)), some (.lst .fz (ks.map dG)), some (.lst .fz (row.map dI)), some (dW f), some (.lst .ow ((wrongs f rest).map dG)), none] := fun k => by
      cases rest with
      | nil =>
        simp [b_law_wrong, runs_cons, runs_nil, run_set, run_ite, add_none, q1, q2, q3, q4, q6, q9]
        rfl
      | cons s r =>
        have hlt : (1 : Int) < (r.length : Int) + 1 + 1 := by omega
        simp [b_law_wrong, runs_cons, runs_nil, run_set, run_ite, add_none, q1, q2, q3, q4, q6, q9, q11, hlt]
        rfl
    have hw := hW fun _ => .bad
    clear hW run4
    have hlw : (0 : Int) < ((wrongs f rest).length : Int) := by rw [lenW]; split <;> decide
    show fnEnd [] (runs (PhiN T gv (n - 1)) gv [] b_law_wrong [some (.lst .fz ((f :: rest).map dW)), some (.lst .fz (ks.map dG)), some (.lst .fz (row.map dI)), none, none, none]) = _
    rw [runs_at 4 hw]
    clear hw
    generalize wrongs f rest = ws at *
    have hne : ws ≠ [] := fun z => by rw [z] at hlw; exact absurd hlw (by decide)
    by_cases c : 0 < ks.length ∧ (y0 : Int) % 3 = 0
    · have ek : atI (ks.map dG) ((y2 : Int) % (ks.length : Int)) = some (dG ((ks[y2 % ks.length]?).getD [])) := by
        have e : (y2 : Int) % (ks.length : Int) = ((y2 % ks.length : Nat) : Int) := by simp
        rw [e, atI_n, List.getElem?_map, List.getElem?_eq_getElem (Nat.mod_lt _ c.1)]; rfl
      have c1 : (0 : Int) < (ks.length : Int) := by omega
      rw [if_pos c]
      generalize (ks[y2 % ks.length]?).getD [] = w at *
      simp [b_law_wrong, runs_cons, runs_nil, run_set, run_ite, run_ret, x0, x1, x2, ha, hl1, c.1, c.2, ek, q1, sz1, sz2]
    · rw [if_neg c]
      by_cases c1 : 0 < ks.length
      · have c2 : ¬ (y0 : Int) % 3 = 0 := fun z => c ⟨c1, z⟩
        simp [b_law_wrong, runs_cons, runs_nil, run_set, run_ite, run_ret, x0, x1, x2, ha, hl1, c1, c2, eg, hlw, hne, q1, sz1, sz2]
      · obtain rfl : ks = [] := List.length_eq_zero_iff.mp (by omega)
        have a0 : a = 0 := by simpa using ha2
        subst a0
        simp only [List.length_nil] at ha
        have cz1 : cutD ([] : List Pu.D) none (some 0) = [] := rfl
        have cz2 : cutD ([] : List Pu.D) (some 0) none = [] := rfl
        have hwp : 0 < ws.length := by omega
        simp [b_law_wrong, runs_cons, runs_nil, run_set, run_ite, run_ret, x0, x1, x2, eg, hwp, cz1, cz2, q1]
end K

set_option Elab.async false
set_option linter.all false
set_option maxRecDepth 100000
set_option maxHeartbeats 1000000
/-! Lo: the law k07. -/
namespace K
open PySem PySem.Spec PyProof.Rows L2 Pu
@[simp] theorem ffz_vw : Fl.vw.fzd = .vw := id rfl
theorem ne_refl {x y : Pu.D} {p : PyData} (hx : Pu.plain x = some p) (hy : Pu.plain y = some p) (he : PyData.eqv p p = true) : cmpB .ne x y = some false := by
  simp only [cmpB, hx, hy, he, Bool.not_true]
/-- lists of lists of words -/
def pLL (gs : List (List OkS)) : PyData := .list (gs.map fun g => .list (pOfs (g.map dW)))
theorem toPs_ll {f : Fl} : ∀ {gs : List (List OkS)}, toPs (gs.map fun g => D.lst f (g.map dW)) = some (gs.map fun g => PyData.list (pOfs (g.map dW))) ∧ PyData.canLayAll0 (gs.map fun g => PyData.list (pOfs (g.map dW))) = true ∧ PyData.depthAll (gs.map fun g => PyData.list (pOfs (g.map dW))) ≤ 9 ∧ PyData.eqvAll (gs.map fun g => PyData.list (pOfs (g.map dW))) (gs.map fun g => PyData.list (pOfs (g.map dW))) = true
  | [] => ⟨rfl, rfl, Nat.zero_le _, rfl⟩
  | g :: gs => by
    obtain ⟨h1, h2, h3, h4⟩ := toPs_ll (f := f) (gs := gs)
    obtain ⟨a1, a2, a3⟩ := toPs_flat (n := 8) (ds := g.map dW) (by simp)
    have e1 : PyData.eqvAll (pOfs (g.map dW)) (pOfs (g.map dW)) = true := (eqvs_flat (n := 8) (m := 8) (by simp) (by simp)).mpr rfl
    refine ⟨?_, ?_, ?_, ?_⟩
    · simp only [List.map_cons, toPs, toP, a1, h1]
    · simp only [List.map_cons, PyData.canLayAll0, PyData.canLay0, a2, h2, Bool.and_self]
    · simp only [List.map_cons, PyData.depthAll, PyData.depth]; omega
    · simp only [List.map_cons, PyData.eqvAll, PyData.eqv, e1, h4, Bool.and_self]
theorem plain_ll {f h : Fl} {gs : List (List OkS)} : Pu.plain (.lst h (gs.map fun g => D.lst f (g.map dW))) = some (pLL gs) := by
  obtain ⟨h1, h2, h3, h4⟩ := toPs_ll (f := f) (gs := gs)
  have sh : SeqAt.shaped (pLL gs) = true := by
    unfold SeqAt.shaped pLL
    have z : PyData.depthAll (gs.map fun g => PyData.list (pOfs (g.map dW))) + 1 ≤ 64 := by omega
    simp only [PyData.canLay0, h2, PyData.depth, z, Bool.true_and, decide_true]
  unfold Pu.plain
  simp only [toP, h1]
  exact if_pos sh
theorem ne_ll {f f' h h' : Fl} {gs : List (List OkS × Bool)} : cmpB .ne (.lst h (gs.map fun x => D.lst f (x.1.map dW))) (.lst h' (gs.map fun x => D.lst f' (x.1.map dW))) = some false := by
  have e : ∀ f : Fl, (gs.map fun x => D.lst f (x.1.map dW)) = (gs.map (·.1)).map fun g => D.lst f (g.map dW) := fun f => by rw [List.map_map]; rfl
  rw [e, e]
  refine ne_refl plain_ll plain_ll ?_
  obtain ⟨_, _, _, h4⟩ := toPs_ll (f := .ow) (gs := gs.map (·.1))
  unfold pLL
  rw [PyData.eqv]
  exact h4
theorem ne_its {f g : Fl} {its : List It8} : cmpB .ne (.lst f (its.map It8.D)) (.lst g (its.map It8.D)) = some false := by
  rw [cmp_neL8 (by simp) (by simp), eqbs_refl]; rfl
theorem eq_tupW {ns : List OkS} : cmpB .eq (.tup (ns.map dW)) (.tup (ns.map dW)) = some true := by
  rw [cmp_eq8 (by simp) (by simp), eqb_refl]
theorem eq_tupI {its : List It8} : cmpB .eq (.tup (its.map It8.D)) (.tup (its.map It8.D)) = some true := by
  rw [cmp_eq (n := 9) (m := 9) (by simp) (by simp), eqb_refl]
@[simp] theorem ty_lst {f : Fl} {xs : List Pu.D} : tyD (.b .list) (.lst f xs) = .ok true := id rfl
theorem dB_mapT {f : Fl} {gs : List (List OkS)} : gs.map dG = (gs.map fun g => (g, true)).map (dB f) := by
  rw [List.map_map]; rfl
/-- the two forms of the arguments -/
theorem mk_G {n : Nat} (hn : 2 ≤ n) {ns : List OkS} {gs : List (List OkS × Bool)} {dn di : Pu.D} (hN : dn = .lst .ow (ns.map dW) ∨ dn = .tup (ns.map dW)) (hI : di = .lst .vw (gs.map (dB .vw)) ∨ di = .tup (gs.map (dB .vw))) (h : ns.length ≤ 10) (hl : gs.length ≤ 900) :
    (goodG ns (gs.map (·.1)) → mkD (PhiN T gv n) c_Promise j_Promise_init [dn, di] = .ok (prom .ow ns (entG ns (gs.map (·.1))))) ∧ (¬ goodG ns (gs.map (·.1)) → ∃ ms, mkD (PhiN T gv n) c_Promise j_Promise_init [dn, di] = .exc ⟨e_InvalidPromise, [], [], ms⟩) := by
  have hN' : Sq (anyFz dn) (ns.map dW) := by rcases hN with rfl | rfl <;> simp [Sq]
  have hI' : Sq (anyFz di) (gs.map (dB .fz)) := by rcases hI with rfl | rfl <;> simp [Sq]
  obtain ⟨z1, z2⟩ := phi_Promise_initG hn hN' hI' h hl
  have va : vaD (prom .ow ns (entG ns (gs.map (·.1)))) = prom .ow ns (entG ns (gs.map (·.1))) := by simp [prom, vaD]
  have va' : ∀ its : List It8, (its.map fun x => vaD x.D) = its.map It8.D := fun its => by simp
  refine ⟨fun g => ?_, fun g => ?_⟩
  · unfold mkD
    rw [anyFzs, anyFzs, anyFzs, z1 g]
    simp only [Out.bind_ok, va]
    split <;> rfl
  · obtain ⟨ms, e⟩ := z2 g
    exact ⟨ms, by unfold mkD; rw [anyFzs, anyFzs, anyFzs, e]; rfl⟩
theorem tail_law {n : Nat} (hn : 2 ≤ n) {ns : List OkS} {f : OkS} {rest : List OkS} (hf : ns = f :: rest) {row : List Nat} (hr : row.length = 40) {items left : List It8} {good : Bool} {gs : List (List OkS × Bool)} {sc : List Int} {o3 o7 : Option Pu.D} (h : ns.length ≤ 10) (hl : gs.length ≤ 500) (g1 : good = true → gs.map (·.1) = items.map It8.ws ∧ goodG ns (gs.map (·.1))) (g2 : good = false → ¬ goodG ns (gs.map (·.1))) :
    fnEnd [] (runs (PhiN T gv n) gv [] (b_law.drop 12) [some (.lst .fz (sc.map D.int)), some (.lst .ow (ns.map dW)), some (.lst .ow ((itemsL ns).map It8.D)), o3, some (.lst .ow (row.map dI)), some (.lst .ow (left.map It8.D)), some (.lst .ow (items.map It8.D)), o7, some (.bl good), some (.lst .ow (gs.map (dB .ow))), none, none, none, none]) = .ok (.bl true, []) := by
  have h5 := big5
  have il := itemsL_len h
  have two := h5 2 (by omega)
  have x36 : atI (row.map dI) 36 = some (.int ((nth row 36 : Nat) : Int)) := rowAt (by omega) rfl
  have x37 : atI (row.map dI) 37 = some (.int ((nth row 37 : Nat) : Int)) := rowAt (by omega) rfl
  generalize nth row 36 = y6 at x36
  generalize nth row 37 = y7 at x37
  have z10 : ∀ o10 o12, ev (PhiN T gv n) gv (.comp [13] (.bi .list [(.var 13)]) (.nm 13) (.of (.var 9)) []) [some (.lst .fz (sc.map D.int)), some (.lst .ow (ns.map dW)), some (.lst .ow ((itemsL ns).map It8.D)), o3, some (.lst .ow (row.map dI)), some (.lst .ow (left.map It8.D)), some (.lst .ow (items.map It8.D)), o7, some (.bl good), some (.lst .ow (gs.map (dB .ow))), o10, none, o12, none] = .ok (.lst .ow (gs.map fun x => .lst .ow (x.1.map dW))) := fun o10 o12 =>
    ev_comp (xs := gs) (en := dB .vw) (b := false) (by simp) (h5 _ (by omega)) fun x hx => by simp [wipeD, dB_list]
  obtain ⟨dn, a37, hN⟩ : ∃ dn, atI [D.lst .ow (ns.map dW), D.tup (ns.map dW)] ((y7 : Int) % 2) = some dn ∧ (dn = .lst .ow (ns.map dW) ∨ dn = .tup (ns.map dW)) := by
    have : (y7 : Int) % 2 = 0 ∨ (y7 : Int) % 2 = 1 := by omega
    rcases this with z | z <;> rw [z] <;> simp
  obtain ⟨di, a36, hI⟩ : ∃ di, atI [D.lst .vw (gs.map (dB .vw)), D.tup (gs.map (dB .vw))] ((y6 : Int) % 2) = some di ∧ (di = .lst .vw (gs.map (dB .vw)) ∨ di = .tup (gs.map (dB .vw))) := by
    have : (y6 : Int) % 2 = 0 ∨ (y6 : Int) % 2 = 1 := by omega
    rcases this with z | z <;> rw [z] <;> simp
  obtain ⟨m1, m2⟩ := mk_G hn hN hI h (by omega)
  cases good with
  | false =>
    obtain ⟨ms, em⟩ := m2 (g2 rfl)
    have ht : ∀ o10, run1 (PhiN T gv n) gv [] (.tr [(.set (.nm 12) (.mk c_Promise j_Promise_init [(.idx (.lst [(.bi .list [(.var 1)]), (.bi .tuple [(.var 1)])]) (.bin .mod (.idx (.var 4) (.int 37)) (.int 2))), (.idx (.lst [(.var 9), (.bi .tuple [(.var 9)])]) (.bin .mod (.idx (.var 4) (.int 36)) (.int 2)))]))] 11 [e_InvalidPromise] (.and (.not (.var 8)) (.and (.isE [e_OrderError, e_InvalidCase, e_InvalidPromise] []) (.not (.isE [e_InvalidCase] [e_OrderError, e_InvalidPromise])))))
        [some (.lst .fz (sc.map D.int)), some (.lst .ow (ns.map dW)), some (.lst .ow ((itemsL ns).map It8.D)), o3, some (.lst .ow (row.map dI)), some (.lst .ow (left.map It8.D)), some (.lst .ow (items.map It8.D)), o7, some (.bl false), some (.lst .ow (gs.map (dB .ow))), o10, none, none, none] = .rt (.bl true) [some (.lst .fz (sc.map D.int)), some (.lst .ow (ns.map dW)), some (.lst .ow ((itemsL ns).map It8.D)), o3, some (.lst .ow (row.map dI)), some (.lst .ow (left.map It8.D)), some (.lst .ow (items.map It8.D)), o7, some (.bl false), some (.lst .ow (gs.map (dB .ow))), o10, none, none, none] := fun o10 =>
      run_tr_ex (ρ' := [some (.lst .fz (sc.map D.int)), some (.lst .ow (ns.map dW)), some (.lst .ow ((itemsL ns).map It8.D)), o3, some (.lst .ow (row.map dI)), some (.lst .ow (left.map It8.D)), some (.lst .ow (items.map It8.D)), o7, some (.bl false), some (.lst .ow (gs.map (dB .ow))), o10, none, none, none]) (y := ⟨e_InvalidPromise, [], [], ms⟩) (d := .bl true) (by simp [runs_cons, runs_nil, run_set, x36, x37, a36, a37, two, em]) (List.mem_singleton.mpr rfl) rfl (by simp) (by simp [evX]) rfl
    simp [b_law, runs_cons, runs_nil, run_set, z10, ht]
  | true =>
    obtain ⟨eg, gd⟩ := g1 rfl
    have em := m1 gd
    have ent : entG ns (gs.map (·.1)) = (itemsL ns).filter fun i => decide (i ∈ items) := by
      unfold entG
      rw [eg]
      refine List.filter_congr fun i _ => ?_
      refine bool_of ?_
      rw [decide_eq_true_iff, decide_eq_true_iff]
      exact ⟨fun m => by obtain ⟨j, hj, e⟩ := List.mem_map.mp m; rw [← ws_inj e]; exact hj, fun m => List.mem_map_of_mem m⟩
    rw [ent] at em
    have ht : ∀ o10, run1 (PhiN T gv n) gv [] (.tr [(.set (.nm 12) (.mk c_Promise j_Promise_init [(.idx (.lst [(.bi .list [(.var 1)]), (.bi .tuple [(.var 1)])]) (.bin .mod (.idx (.var 4) (.int 37)) (.int 2))), (.idx (.lst [(.var 9), (.bi .tuple [(.var 9)])]) (.bin .mod (.idx (.var 4) (.int 36)) (.int 2)))]))] 11 [e_InvalidPromise] (.and (.not (.var 8)) (.and (.isE [e_OrderError, e_InvalidCase, e_InvalidPromise] []) (.not (.isE [e_InvalidCase] [e_OrderError, e_InvalidPromise])))))
        [some (.lst .fz (sc.map D.int)), some (.lst .ow (ns.map dW)), some (.lst .ow ((itemsL ns).map It8.D)), o3, some (.lst .ow (row.map dI)), some (.lst .ow (left.map It8.D)), some (.lst .ow (items.map It8.D)), o7, some (.bl true), some (.lst .ow (gs.map (dB .ow))), o10, none, none, none] = .nx [some (.lst .fz (sc.map D.int)), some (.lst .ow (ns.map dW)), some (.lst .ow ((itemsL ns).map It8.D)), o3, some (.lst .ow (row.map dI)), some (.lst .ow (left.map It8.D)), some (.lst .ow (items.map It8.D)), o7, some (.bl true), some (.lst .ow (gs.map (dB .ow))), o10, none, some (prom .ow ns ((itemsL ns).filter fun i => decide (i ∈ items))), none] := fun o10 =>
      run_tr_nx (by simp [runs_cons, runs_nil, run_set, x36, x37, a36, a37, two, em, prom, noVw])
    have z16 : ∀ o9 o10 o12, ev (PhiN T gv n) gv (.comp [13] (.var 13) (.nm 13) (.of (.var 2)) [(.cmp .isIn (.var 13) (.var 6))]) [some (.lst .fz (sc.map D.int)), some (.lst .ow (ns.map dW)), some (.lst .ow ((itemsL ns).map It8.D)), o3, some (.lst .ow (row.map dI)), some (.lst .ow (left.map It8.D)), some (.lst .ow (items.map It8.D)), o7, some (.bl true), o9, o10, none, o12, none] = .ok (.lst .ow (((itemsL ns).filter fun i => decide (i ∈ items)).map It8.D)) := fun o9 o10 o12 =>
      ev_compF (xs := itemsL ns) (en := It8.D) (b := false) (p := fun i => decide (i ∈ items)) (by simp) (h5 _ (by omega)) fun i hi => by
        simp [wipeD, cmp_inL8]
        by_cases q : i ∈ items <;> simp [q]
    have n0 : atI (ns.map dW) 0 = some (dW f) := by rw [hf]; simp
    have lls := Nat.lt_of_lt_of_le (by omega : gs.length < 1000) (h5 1000 (Nat.le_refl _))
    have e2 : (fun x : List OkS × Bool => D.lst Fl.vw (x.1.map dW)) = fun x => D.lst Fl.vw (x.1.map dW) := rfl
    have nl := fun f f' h h' => ne_ll (f := f) (f' := f') (h := h) (h' := h') (gs := gs)
    simp [b_law, runs_cons, runs_nil, run_set, z10, ht]
    simp [run_ite, runs_cons, runs_nil, run_ret, run_app, z10, nl, appK, n0, two, lls, z16, fld_prom_n, fld_prom_e, eq_tupW, eq_tupI]
end K

set_option Elab.async false
set_option linter.all false
set_option maxRecDepth 100000
set_option maxHeartbeats 1000000
/-! Lp: the law k07, put together. -/
namespace K
open PySem PySem.Spec PyProof.Rows L2 Pu
theorem call_cell {n : Nat} (hn : 1 ≤ n) (sc : List Int) (k : Nat) : callD (PhiN T gv n) j_law_cell [.lst .fz (sc.map D.int), .int (k : Int)] = .ok (.int (cellOf sc k)) := callD_id (by simpa using phi_cell hn sc k) (by simp)
theorem call_row {n : Nat} (hn : 1 ≤ n) (c : Int) (cnt : Nat) (hc : cnt ≤ 1000) : ∃ xs, IsRow xs cnt ∧ callD (PhiN T gv n) j_law_row [.int c, .int (cnt : Int)] = .ok (.lst .ow (xs.map dI)) := by
  obtain ⟨xs, h, e⟩ := phi_row hn c cnt hc
  exact ⟨xs, h, callD_id (by simpa using e) (by simp)⟩
theorem erase_map {α β : Type} {f : α → β} : ∀ {xs : List α} {k : Nat}, (xs.map f).eraseIdx k = (xs.eraseIdx k).map f
  | [], _ => rfl
  | x :: xs, 0 => rfl
  | x :: xs, k + 1 => by simp only [List.map_cons, List.eraseIdx_cons_succ, erase_map]
theorem erase_perm {α : Type} : ∀ {xs : List α} {k : Nat} {x : α}, xs[k]? = some x → (x :: xs.eraseIdx k).Perm xs
  | [], _, _, h => by simp at h
  | y :: xs, 0, x, h => by
    simp only [List.getElem?_cons_zero, Option.some.injEq] at h
    subst h; exact List.Perm.refl _
  | y :: xs, k + 1, x, h => by
    have z := erase_perm (xs := xs) (k := k) (by simpa using h)
    rw [List.eraseIdx_cons_succ]
    exact (List.Perm.swap y x _).trans (z.cons y)
theorem itemsL_len4 {ns : List OkS} (h : ns.length ≤ 4) : (itemsL ns).length ≤ 26 := by
  match ns, h with
  | [], _ => simp [itemsL, ords]
  | [a], _ => simp [itemsL, ords]
  | [a, b], _ => simp [itemsL, ords]
  | [a, b, c], _ => simp [itemsL, ords]
  | [a, b, c, d], _ => simp [itemsL, ords]
  | a :: b :: c :: d :: e :: r, h => simp only [List.length_cons] at h; omega
theorem nvB {α : Type} {xs : List α} {h : α → List OkS × Bool} : noVw (.lst .ow (xs.map fun p => dB .ow (h p))) = true := by
  rw [noVw, noVws_eq, Bool.and_eq_true]
  refine ⟨rfl, List.all_eq_true.mpr fun d hd => ?_⟩
  obtain ⟨x, _, rfl⟩ := List.mem_map.mp hd
  exact dB_nv (fun z => nomatch z)
theorem nvC {xs : List (List OkS × Bool)} : noVw (.lst .ow (xs.map (dB .ow))) = true := nvB (h := fun p => p)
def P12 (ns : List OkS) (row : List Nat) (sc : List Int) (r : Re) : Prop := ∃ (items left : List It8) (good : Bool) (gs : List (List OkS × Bool)) (o3 o7 : Option Pu.D), r = .nx [some (.lst .fz (sc.map D.int)), some (.lst .ow (ns.map dW)), some (.lst .ow ((itemsL ns).map It8.D)), o3, some (.lst .ow (row.map dI)), some (.lst .ow (left.map It8.D)), some (.lst .ow (items.map It8.D)), o7, some (.bl good), some (.lst .ow (gs.map (dB .ow))), none, none, none, none] ∧ gs.length ≤ 500 ∧ (good = true → gs.map (·.1) = items.map It8.ws ∧ goodG ns (gs.map (·.1))) ∧ (good = false → ¬ goodG ns (gs.map (·.1)))
def P11 (ns : List OkS) (row : List Nat) (sc : List Int) (r : Re) : Prop := ∃ (items left : List It8) (good : Bool) (gs : List (List OkS)) (o7 : Option Pu.D), r = .nx [some (.lst .fz (sc.map D.int)), some (.lst .ow (ns.map dW)), some (.lst .ow ((itemsL ns).map It8.D)), some (.lst .ow ((itemsL ns).map It8.D)), some (.lst .ow (row.map dI)), some (.lst .ow (left.map It8.D)), some (.lst .ow (items.map It8.D)), o7, some (.bl good), some (.lst .ow (gs.map dG)), none, none, none, none] ∧ gs.length ≤ 401 ∧ (good = true → gs = items.map It8.ws ∧ goodG ns gs) ∧ (good = false → ¬ goodG ns gs)
def J7 (ns : List OkS) (row : List Nat) (sc : List Int) (i : Nat) (ρ : List (Option Pu.D)) : Prop := ∃ (items left : List It8) (o7 : Option Pu.D), ρ = [some (.lst .fz (sc.map D.int)), some (.lst .ow (ns.map dW)), some (.lst .ow ((itemsL ns).map It8.D)), some (.lst .ow ((itemsL ns).map It8.D)), some (.lst .ow (row.map dI)), some (.lst .ow (left.map It8.D)), some (.lst .ow (items.map It8.D)), o7, none, none, none, none, none, none] ∧ (items ++ left).Perm (itemsL ns) ∧ items.length = i
theorem phi_law {n : Nat} (hn : 6 ≤ n) (sc : List Int) (hsc : sc.length ≤ 63) : PhiN T gv n j_law [.lst .fz (sc.map D.int)] = .ok (.bl true, []) := by
  have h5 := big5
  have c0 : callD (PhiN T gv (n - 1)) j_law_cell [.lst .fz (sc.map D.int), .int 0] = .ok (.int (cellOf sc 0)) := call_cell (n := n - 1) (by omega) sc 0
  have c1 : callD (PhiN T gv (n - 1)) j_law_cell [.lst .fz (sc.map D.int), .int 1] = .ok (.int (cellOf sc 1)) := call_cell (n := n - 1) (by omega) sc 1
  obtain ⟨row1, hr1, e1⟩ : ∃ xs, IsRow xs 4 ∧ callD (PhiN T gv (n - 1)) j_law_row [.int (cellOf sc 0), .int 4] = .ok (.lst .ow (xs.map dI)) := call_row (n := n - 1) (by omega) (cellOf sc 0) 4 (by omega)
  obtain ⟨row, hr2, e2⟩ : ∃ xs, IsRow xs 40 ∧ callD (PhiN T gv (n - 1)) j_law_row [.int (cellOf sc 1), .int 40] = .ok (.lst .ow (xs.map dI)) := call_row (n := n - 1) (by omega) (cellOf sc 1) 40 (by omega)
  have r2l := hr2.1
  have e3 := phi_names (m := n - 1) (by omega) row1 hr1
  obtain ⟨ns, hns, hnl, hnd, L, hL, hw⟩ := names_ok row1
  rw [← hns] at e3
  have e3' : callD (PhiN T gv (n - 1)) j_law_names [.lst .ow (row1.map dI)] = .ok (.lst .ow (ns.map dW)) := callD_id (by simpa using e3) (by simp)
  have nl4 : ns.length ≤ 4 := by omega
  have nl : ns.length ≤ 10 := by omega
  obtain ⟨f, rest, hf⟩ : ∃ f rest, ns = f :: rest := by
    cases ns with
    | nil => simp at hnl; omega
    | cons f rest => exact ⟨f, rest, rfl⟩
  clear hns hnl e3
  have il := itemsL_len nl
  have il4 : (itemsL ns).length ≤ 26 := itemsL_len4 nl4
  have zi : callD (PhiN T gv (n - 1)) j_law_items [.lst .vw (ns.map dW)] = .ok (.lst .ow ((itemsL ns).map It8.D)) := by
    rw [callD]
    simp only [ans_cons, ans_nil, an_lst, anyFzs_map, dW_an]
    rw [phi_law_items (by omega) nl]
    simp
  have za1 : callD (PhiN T gv (n - 1)) j_all_items [.lst .ow (ns.map dW)] = .ok (.lst .ow ((itemsL ns).map It8.D)) := callD_id (by simpa using phi_all_items (n := n - 1) (by omega) (d := .lst .fz (ns.map dW)) (.inl rfl) nl) (by simp)
  have za2 : callD (PhiN T gv (n - 1)) j_all_items [.tup (ns.map dW)] = .ok (.lst .ow ((itemsL ns).map It8.D)) := callD_id (by simpa using phi_all_items (n := n - 1) (by omega) (d := .tup (ns.map dW)) (.inr rfl) nl) (by simp)
  have x0 : atI (row.map dI) 0 = some (.int ((nth row 0 : Nat) : Int)) := rowAt (by omega) rfl
  have x38 : atI (row.map dI) 38 = some (.int ((nth row 38 : Nat) : Int)) := rowAt (by omega) rfl
  have x39 : atI (row.map dI) 39 = some (.int ((nth row 39 : Nat) : Int)) := rowAt (by omega) rfl
  have nei := fun f g => ne_its (f := f) (g := g) (its := itemsL ns)
  have key11 : P11 ns row sc (runs (PhiN T gv (n - 1)) gv [] (b_law.take 11) [some (.lst .fz (sc.map D.int)), none, none, none, none, none, none, none, none, none, none, none, none, none]) := by
    simp [b_law, runs_cons, runs_nil, run_set, run_ite, c0, c1, e1, e2, e3', zi, za1, za2, nei]
    have lm : nth row 0 % ((itemsL ns).length + 1) < (itemsL ns).length + 1 := Nat.mod_lt _ (Nat.succ_pos _)
    refine fr_QR (Q := P11 ns row sc) (n := nth row 0 % ((itemsL ns).length + 1)) (J7 ns row sc) (evIt_rngE (n := nth row 0 % ((itemsL ns).length + 1)) (by simp [x0]) (by omega)) ⟨[], itemsL ns, none, rfl, List.Perm.refl _, rfl⟩ ?_ ?_
    · rintro i ρ hi ⟨items, left, o7, rfl, hp, hli⟩
      have hlen := hp.length_eq
      rw [List.length_append] at hlen
      have hlp : 0 < left.length := by omega
      have hk := Nat.mod_lt (nth row (1 + i)) hlp
      have at1 : atI (row.map dI) (1 + (i : Int)) = some (.int ((nth row (1 + i) : Nat) : Int)) := rowAt (by omega) (by omega)
      have sz := h5 items.length (by omega)
      have hlp' : (0 : Int) < (left.length : Int) := by omega
      obtain ⟨x, hx⟩ : ∃ x, left[nth row (1 + i) % left.length]? = some x := ⟨_, List.getElem?_eq_getElem hk⟩
      generalize hkk : nth row (1 + i) % left.length = k at hk hx
      have hne : left ≠ [] := fun z => by rw [z] at hlp; exact absurd hlp (by decide)
      have rp := run_appPop (Φ := PhiN T gv (n - 1)) (gv := gv) (pi := []) (i := 6) (j := 5) (k := k) (e := (.bin .mod (.idx (.var 4) (.bin .add (.int 1) (.var 7))) (.bi .len [(.var 5)]))) (xs := items.map It8.D) (ys := left.map It8.D) (y := x.D) (ρ := [some (.lst .fz (sc.map D.int)), some (.lst .ow (ns.map dW)), some (.lst .ow ((itemsL ns).map It8.D)), some (.lst .ow ((itemsL ns).map It8.D)), some (.lst .ow (row.map dI)), some (.lst .ow (left.map It8.D)), some (.lst .ow (items.map It8.D)), some (.int (i : Int)), none, none, none, none, none, none]) rfl rfl (by decide) (by
        rw [← hkk]
        simp [at1, hlp', hne]) (by rw [List.getElem?_map, hx]; rfl) (by rw [List.length_map]; exact Nat.lt_of_lt_of_le (by omega : items.length < 1000) (h5 1000 (Nat.le_refl _))) (by omega)
      rw [erase_map] at rp
      have rp' : run1 (PhiN T gv (n - 1)) gv [] (.appX 6 (.pop 5 [] [(.bin .mod (.idx (.var 4) (.bin .add (.int 1) (.var 7))) (.bi .len [(.var 5)]))])) [some (.lst .fz (sc.map D.int)), some (.lst .ow (ns.map dW)), some (.lst .ow ((itemsL ns).map It8.D)), some (.lst .ow ((itemsL ns).map It8.D)), some (.lst .ow (row.map dI)), some (.lst .ow (left.map It8.D)), some (.lst .ow (items.map It8.D)), some (.int (i : Int)), none, none, none, none, none, none] = .nx [some (.lst .fz (sc.map D.int)), some (.lst .ow (ns.map dW)), some (.lst .ow ((itemsL ns).map It8.D)), some (.lst .ow ((itemsL ns).map It8.D)), some (.lst .ow (row.map dI)), some (.lst .ow ((left.eraseIdx k).map It8.D)), some (.lst .ow ((items ++ [x]).map It8.D)), some (.int (i : Int)), none, none, none, none, none, none] := by
        rw [rp]; simp
      show St _ _ _ ((run1 (PhiN T gv (n - 1)) gv [] (.appX 6 (.pop 5 [] [(.bin .mod (.idx (.var 4) (.bin .add (.int 1) (.var 7))) (.bi .len [(.var 5)]))])) [some (.lst .fz (sc.map D.int)), some (.lst .ow (ns.map dW)), some (.lst .ow ((itemsL ns).map It8.D)), some (.lst .ow ((itemsL ns).map It8.D)), some (.lst .ow (row.map dI)), some (.lst .ow (left.map It8.D)), some (.lst .ow (items.map It8.D)), some (.int (i : Int)), none, none, none, none, none, none]).seq _)
      rw [rp']
      exact ⟨items ++ [x], left.eraseIdx k, _, rfl, by
        refine List.Perm.trans ?_ hp
        rw [List.append_assoc]
        exact List.Perm.append_left _ (erase_perm hx), by rw [List.length_append, hli]; rfl⟩
    · rintro ρ ⟨items, left, o7, rfl, hp, -⟩
      have hlen := hp.length_eq
      rw [List.length_append] at hlen
      have hnd2 : (items ++ left).Nodup := hp.nodup_iff.mpr (itemsL_nodup hnd)
      have hgI : goodG ns (items.map It8.ws) := by
        refine ⟨fun g hg => ?_, ?_⟩
        · obtain ⟨i, hi, rfl⟩ := List.mem_map.mp hg
          exact List.mem_map_of_mem (hp.subset (List.mem_append_left _ hi))
        · exact nodup_map_on (List.nodup_append.mp hnd2).1 fun a _ b _ e => ws_inj e
      have hIG : items.map It8.D = (items.map It8.ws).map dG := by
        rw [List.map_map]; exact List.map_congr_left fun i _ => It8.dG
      by_cases c : ((nth row 39 : Nat) : Int) % 2 = 0
      · simp [runs_cons, runs_nil, run_set, run_ite, x39, c]
        exact ⟨items, left, true, items.map It8.ws, o7, by rw [← hIG], by rw [List.length_map]; omega, fun _ => ⟨rfl, hgI⟩, fun z => nomatch z⟩
      · obtain ⟨gs, g1, g2, g3⟩ := phi_law_wrong (n := n - 1) (by omega) (f := f) (rest := rest) (ks := items.map It8.ws) (row := row.drop 30) (hf ▸ hnd) hL (hf ▸ hw) (by rw [List.length_map]; omega) (by have := congrArg List.length hf; simp only [List.length_cons] at this; omega) (by rw [List.length_drop]; omega)
        rw [← hf, ← hIG] at g3
        have ec : cutD (row.map dI) (some 30) none = (row.drop 30).map dI := by rw [List.map_drop]; exact cut_from (k := 30)
        have cw : callD (PhiN T gv (n - 1)) j_law_wrong [.lst .vw (ns.map dW), .lst .vw (items.map It8.D), .lst .ow (cutD (row.map dI) (some 30) none)] = .ok (.lst .ow (gs.map dG)) := by
          rw [ec, callD]
          have ea : ∀ r : List Nat, anyFzs [.lst .vw (ns.map dW), .lst .vw (items.map It8.D), .lst .ow (r.map dI)] = [.lst .fz (ns.map dW), .lst .fz (items.map It8.D), .lst .fz (r.map dI)] := fun r => by
            simp
          simp only [ea, g3]
          simp
        simp [runs_cons, runs_nil, run_set, run_ite, x39, c, cw]
        exact ⟨items, left, false, gs, o7, rfl, g1, (fun z => nomatch z), (fun _ => hf ▸ g2)⟩
  have key : P12 ns row sc (runs (PhiN T gv (n - 1)) gv [] (b_law.take 12) [some (.lst .fz (sc.map D.int)), none, none, none, none, none, none, none, none, none, none, none, none, none]) := by
    obtain ⟨items, left, good, gs, o7, e, g1, g2, g3⟩ := key11
    have e' : runs (PhiN T gv (n - 1)) gv [] ((b_law.take 12).take 11) [some (.lst .fz (sc.map D.int)), none, none, none, none, none, none, none, none, none, none, none, none, none] = _ := e
    rw [runs_at 11 e']
    obtain ⟨zs, mf, zc⟩ : ∃ zs : List (List OkS × Bool), zs.map (·.1) = gs ∧ ev (PhiN T gv (n - 1)) gv (.comp [7] (.idx (.lst [(.bi .list [(.idx (.var 9) (.var 7))]), (.idx (.var 9) (.var 7))]) (.bi .int [(.cmp .eq (.bin .mod (.idx (.var 4) (.bin .mod (.bin .add (.bin .mul (.int 7) (.var 7)) (.int 5)) (.int 40))) (.int 3)) (.int 1))])) (.nm 7) (.rng [(.bi .len [(.var 9)])]) []) [some (.lst .fz (sc.map D.int)), some (.lst .ow (ns.map dW)), some (.lst .ow ((itemsL ns).map It8.D)), some (.lst .ow ((itemsL ns).map It8.D)), some (.lst .ow (row.map dI)), some (.lst .ow (left.map It8.D)), some (.lst .ow (items.map It8.D)), o7, some (.bl good), some (.lst .ow (gs.map dG)), none, none, none, none] = .ok (.lst .ow (zs.map (dB .ow))) := by
      refine ⟨gs.zipIdx.map fun p => (p.1, decide (nth row ((7 * p.2 + 5) % 40) % 3 = 1)), by rw [List.map_map]; exact zip_fst 0, ?_⟩
      rw [List.map_map]
      exact ev_comp (xs := gs.zipIdx) (en := fun p => .int (p.2 : Int)) (b := true) (evIt_zip (by simp) (by omega)) (h5 _ (by rw [List.length_zipIdx]; omega)) fun p hp => by
        have h1 := zip_mem hp
        have a1 : atI (gs.map dG) (p.2 : Int) = some (dG p.1) := by rw [atI_n, List.getElem?_map, h1]; rfl
        have a2 : atI (row.map dI) ((7 * (p.2 : Int) + 5) % 40) = some (.int ((nth row ((7 * p.2 + 5) % 40) : Nat) : Int)) := rowAt (by have := Nat.mod_lt (7 * p.2 + 5) (by decide : 0 < 40); omega) (by omega)
        generalize hy : nth row ((7 * p.2 + 5) % 40) = y at a2
        have two := h5 2 (by omega)
        have lG : biD .list [dG p.1] = .ok (.lst .ow (p.1.map dW)) := by simp [dG]
        have pl : p.2 < gs.length := (List.getElem?_eq_some_iff.mp h1).1
        have bm : binD .mul (.int 7) (.int (p.2 : Int)) = .ok (.int (7 * (p.2 : Int))) := bin_mulI (by omega)
        by_cases c : y % 3 = 1
        · have c' : (y : Int) % 3 = 1 := by omega
          simp [wipeD, a1, a2, c, c', two, lG, bm, dB, Function.comp, hy]
        · have c' : ¬ (y : Int) % 3 = 1 := by omega
          simp [wipeD, a1, a2, c, c', two, lG, bm, dB, Function.comp, hy]
    by_cases c : ((nth row 38 : Nat) : Int) % 2 = 0
    · simp [b_law, runs_cons, runs_nil, run_set, run_ite, x38, c, zc, nvC]
      have zl : zs.length = gs.length := by rw [← mf, List.length_map]
      refine ⟨items, left, good, zs, _, o7, by rw [if_pos nvC, if_pos nvC], by omega, ?_, ?_⟩
      · rw [mf]; exact g2
      · rw [mf]; exact g3
    · simp [b_law, runs_cons, runs_nil, run_set, run_ite, x38, c]
      have mf : (gs.map fun g => (g, true)).map (·.1) = gs := by
        rw [List.map_map]; exact List.map_id _
      refine ⟨items, left, good, gs.map fun g => (g, true), _, o7, by rw [← dB_mapT], by rw [List.length_map]; omega, ?_, ?_⟩
      · rw [mf]; exact g2
      · rw [mf]; exact g3
  obtain ⟨items, left, good, gs, o3, o7, eq, hgl, g1, g2⟩ := key
  rw [upE (by omega) rfl rfl]
  show fnEnd [] (runs (PhiN T gv (n - 1)) gv [] b_law [some (.lst .fz (sc.map D.int)), none, none, none, none, none, none, none, none, none, none, none, none, none]) = _
  rw [runs_at 12 eq]
  exact tail_law (by omega) hf r2l nl hgl g1 g2
end K

set_option Elab.async false
set_option linter.all false
set_option maxRecDepth 100000
set_option maxHeartbeats 0
/-! Fin: what the top of the text has written, and the law's own head. -/
namespace F
open PySem PySem.Spec PyProof.Rows L2 Pu
def top (i : Nat) : Stmt := PySem.Challenge.pw_orderneed_k07_items_and_promises.main.body.getD i (.Pass ⟨0, 0, 0, 0⟩)
def fs : List (Str × Nat × Nat) := [("all_items", 0, 1), ("_law_cell", 2, 2), ("_law_row", 3, 2), ("_law_word", 4, 1), ("_law_words", 5, 2), ("_law_names", 6, 1), ("_law_items", 7, 1), ("_law_wrong", 8, 3), ("law", 9, 1)]
def cs : List (Str × Nat × Nat × Nat) := [("Promise", 0, 1, 3)]
def fl : List Str := ["names", "entries"]
def es : List (Str × Nat × List Nat × List Nat) := [("OrderError", 0, [0, 1, 2], []), ("InvalidCase", 1, [1], [0, 2]), ("InvalidPromise", 2, [2], [0, 1])]
def ce : CE := ⟨[], fs, cs, [], fl, false, es, [0, 1, 2]⟩
def s0 : Stmt := top 5
def n0 : List Str := ["names", "items", "k", "first", "second", "name", "relation"]
def s1 : Stmt := inClass (top 6) 0
def n1 : List Str := ["self", "names", "items", "every", "item", "k"]
def s2 : Stmt := top 8
def n2 : List Str := ["_law_script", "_law_k"]
def s3 : Stmt := top 9
def n3 : List Str := ["_law_cell_here", "_law_count", "_law_row_here", "_law_rest", "_law_seed", "_law_k"]
def s4 : Stmt := top 10
def n4 : List Str := ["_law_number", "_law_letters", "_law_word_here"]
def s5 : Stmt := top 11
def n5 : List Str := ["_law_row_here", "_law_count", "_law_letters", "_law_words_here", "_law_k", "_law_sign", "_law_word_here", "_law_at"]
def s6 : Stmt := top 12
def n6 : List Str := ["_law_row_here"]
def s7 : Stmt := top 13
def n7 : List Str := ["_law_names_here", "_law_items_here", "_law_k", "_law_other", "_law_relation", "_law_name"]
def s8 : Stmt := top 14
def n8 : List Str := ["_law_names_here", "_law_items_here", "_law_row_here", "_law_first", "_law_wrong_here", "_law_at"]
def s9 : Stmt := top 15
def n9 : List Str := ["_law_script", "_law_names_here", "_law_every", "_law_told", "_law_row_here", "_law_left", "_law_items_here", "_law_k", "_law_good", "_law_given", "_law_kept", "e", "_law_promise", "_law_item"]
def r0 (fd : FuncData) : Rw := ⟨"all_items", "all_items", s0, n0, 1, [], K.b_all_items, 56, fd, none⟩
theorem sc0 : FnScope n0 (n0.take 1) (defScope s0) := ⟨rfl, rfl, rfl, by decide +kernel, rfl, by decide +kernel, by decide +kernel⟩
theorem tx0 (fd : FuncData) : RwTx ce (r0 fd) := ⟨sc0, (by decide : 1 ≤ n0.length), (by decide : ([] : List Nat).Nodup), (by decide : ∀ i ∈ ([] : List Nat), i < 1), by kernel_rfl⟩
def r1 (fd : FuncData) : Rw := ⟨"__init__", "Promise.__init__", s1, n1, 3, [0], K.b_Promise_init, 68, fd, (some (67, 65))⟩
theorem sc1 : FnScope n1 (n1.take 3) (defScope s1) := ⟨rfl, rfl, rfl, by decide +kernel, rfl, by decide +kernel, by decide +kernel⟩
theorem tx1 (fd : FuncData) : RwTx ce (r1 fd) := ⟨sc1, (by decide : 3 ≤ n1.length), (by decide : ([0] : List Nat).Nodup), (by decide : ∀ i ∈ ([0] : List Nat), i < 3), by kernel_rfl⟩
def r2 (fd : FuncData) : Rw := ⟨"_law_cell", "_law_cell", s2, n2, 2, [], K.b_law_cell, 82, fd, none⟩
theorem sc2 : FnScope n2 (n2.take 2) (defScope s2) := ⟨rfl, rfl, rfl, by decide +kernel, rfl, by decide +kernel, by decide +kernel⟩
theorem tx2 (fd : FuncData) : RwTx ce (r2 fd) := ⟨sc2, (by decide : 2 ≤ n2.length), (by decide : ([] : List Nat).Nodup), (by decide : ∀ i ∈ ([] : List Nat), i < 2), by kernel_rfl⟩
def r3 (fd : FuncData) : Rw := ⟨"_law_row", "_law_row", s3, n3, 2, [], K.b_law_row, 89, fd, none⟩
theorem sc3 : FnScope n3 (n3.take 2) (defScope s3) := ⟨rfl, rfl, rfl, by decide +kernel, rfl, by decide +kernel, by decide +kernel⟩
theorem tx3 (fd : FuncData) : RwTx ce (r3 fd) := ⟨sc3, (by decide : 2 ≤ n3.length), (by decide : ([] : List Nat).Nodup), (by decide : ∀ i ∈ ([] : List Nat), i < 2), by kernel_rfl⟩
def r4 (fd : FuncData) : Rw := ⟨"_law_word", "_law_word", s4, n4, 1, [], K.b_law_word, 96, fd, none⟩
theorem sc4 : FnScope n4 (n4.take 1) (defScope s4) := ⟨rfl, rfl, rfl, by decide +kernel, rfl, by decide +kernel, by decide +kernel⟩
theorem tx4 (fd : FuncData) : RwTx ce (r4 fd) := ⟨sc4, (by decide : 1 ≤ n4.length), (by decide : ([] : List Nat).Nodup), (by decide : ∀ i ∈ ([] : List Nat), i < 1), by kernel_rfl⟩
def r5 (fd : FuncData) : Rw := ⟨"_law_words", "_law_words", s5, n5, 2, [], K.b_law_words, 103, fd, none⟩
theorem sc5 : FnScope n5 (n5.take 2) (defScope s5) := ⟨rfl, rfl, rfl, by decide +kernel, rfl, by decide +kernel, by decide +kernel⟩
theorem tx5 (fd : FuncData) : RwTx ce (r5 fd) := ⟨sc5, (by decide : 2 ≤ n5.length), (by decide : ([] : List Nat).Nodup), (by decide : ∀ i ∈ ([] : List Nat), i < 2), by kernel_rfl⟩
def r6 (fd : FuncData) : Rw := ⟨"_law_names", "_law_names", s6, n6, 1, [], K.b_law_names, 110, fd, none⟩
theorem sc6 : FnScope n6 (n6.take 1) (defScope s6) := ⟨rfl, rfl, rfl, by decide +kernel, rfl, by decide +kernel, by decide +kernel⟩
theorem tx6 (fd : FuncData) : RwTx ce (r6 fd) := ⟨sc6, (by decide : 1 ≤ n6.length), (by decide : ([] : List Nat).Nodup), (by decide : ∀ i ∈ ([] : List Nat), i < 1), by kernel_rfl⟩
def r7 (fd : FuncData) : Rw := ⟨"_law_items", "_law_items", s7, n7, 1, [], K.b_law_items, 115, fd, none⟩
theorem sc7 : FnScope n7 (n7.take 1) (defScope s7) := ⟨rfl, rfl, rfl, by decide +kernel, rfl, by decide +kernel, by decide +kernel⟩
theorem tx7 (fd : FuncData) : RwTx ce (r7 fd) := ⟨sc7, (by decide : 1 ≤ n7.length), (by decide : ([] : List Nat).Nodup), (by decide : ∀ i ∈ ([] : List Nat), i < 1), by kernel_rfl⟩
def r8 (fd : FuncData) : Rw := ⟨"_law_wrong", "_law_wrong", s8, n8, 3, [], K.b_law_wrong, 122, fd, none⟩
theorem sc8 : FnScope n8 (n8.take 3) (defScope s8) := ⟨rfl, rfl, rfl, by decide +kernel, rfl, by decide +kernel, by decide +kernel⟩
theorem tx8 (fd : FuncData) : RwTx ce (r8 fd) := ⟨sc8, (by decide : 3 ≤ n8.length), (by decide : ([] : List Nat).Nodup), (by decide : ∀ i ∈ ([] : List Nat), i < 3), by kernel_rfl⟩
def r9 (fd : FuncData) : Rw := ⟨"law", "law", s9, n9, 1, [], K.b_law, 127, fd, none⟩
theorem sc9 : FnScope n9 (n9.take 1) (defScope s9) := ⟨rfl, rfl, rfl, by decide +kernel, rfl, by decide +kernel, by decide +kernel⟩
theorem tx9 (fd : FuncData) : RwTx ce (r9 fd) := ⟨sc9, (by decide : 1 ≤ n9.length), (by decide : ([] : List Nat).Nodup), (by decide : ∀ i ∈ ([] : List Nat), i < 1), by kernel_rfl⟩
def R (fd0 fd1 fd2 fd3 fd4 fd5 fd6 fd7 fd8 fd9 : FuncData) : List Rw := [r0 fd0, r1 fd1, r2 fd2, r3 fd3, r4 fd4, r5 fd5, r6 fd6, r7 fd7, r8 fd8, r9 fd9]
theorem tblR (fd0 fd1 fd2 fd3 fd4 fd5 fd6 fd7 fd8 fd9 : FuncData) : tblOf (R fd0 fd1 fd2 fd3 fd4 fd5 fd6 fd7 fd8 fd9) = K.T := by
  funext j
  have h : (R fd0 fd1 fd2 fd3 fd4 fd5 fd6 fd7 fd8 fd9).map Rw.F = K.Fs := rfl
  unfold tblOf K.T
  rw [← h, List.getElem?_map]
theorem forall_c {α : Type} {p : α → Prop} {x : α} {xs : List α} (h : p x) (g : ∀ y ∈ xs, p y) : ∀ y ∈ x :: xs, p y := List.forall_mem_cons.mpr ⟨h, g⟩
theorem forall_n {α : Type} {p : α → Prop} : ∀ y ∈ ([] : List α), p y := fun _ h => nomatch h
theorem lk_mem {α β : Type} [BEq α] [LawfulBEq α] {xs : List (α × β)} {x : α} {y : β} (h : xs.lookup x = some y) : (x, y) ∈ xs := by
  induction xs with
  | nil => cases h
  | cons p xs ih =>
    obtain ⟨a, b⟩ := p
    rw [List.lookup_cons] at h
    split at h
    · rename_i e
      have e := eq_of_beq e
      cases h
      rw [e]
      exact List.mem_cons_self
    · exact List.mem_cons_of_mem _ (ih h)
theorem all_mk {P : Program} {w : World} {K : PySem.W.Frag} {h : Heap} {mg : Str → Option Value} {fa Ca0 Ea0 Ea1 Ea2 : Addr} (X : K.In h) (KT : ∀ p ∈ ([65] : List Addr), h.get? p = some (PySem.W.tabObj #[])) (G : h.Ns mainGlobals mg) (hfa : mg "law" = some (.ref fa))
    {od0 an0 od1 an1 od2 an2 od3 an3 od4 an4 od5 an5 od6 an6 od7 an7 od8 an8 od9 an9 : Option Addr} {sl0 sl1 sl2 sl3 sl4 sl5 sl6 sl7 sl8 sl9 : Array (Option Value)} {oc0 kV0 dc0 pm0 ct0 oc1 kV1 dc1 pm1 ct1 oc2 kV2 dc2 pm2 ct2 oc3 kV3 dc3 pm3 ct3 oc4 kV4 dc4 pm4 ct4 oc5 kV5 dc5 pm5 ct5 oc6 kV6 dc6 pm6 ct6 oc7 kV7 dc7 pm7 ct7 oc8 kV8 dc8 pm8 ct8 oc9 kV9 dc9 pm9 ct9 : Value}
    (aC0 : PySem.W.nsIn K mainGlobals "Promise" = some (some (.ref Ca0)))
    (a0 : PySem.W.nsIn K mainGlobals "all_items" = some (some (.ref 56)))
    (l0 : K.lookup 56 = some ⟨oc0, od0, .func (PySem.W.fnOf "all_items" "all_items" (defArgs s0) (defBody s0) (defScope s0) .none kV0 dc0 pm0 an0 (.ref 55) ct0), sl0⟩)
    (c0 : PySem.W.codeIn K (.ref 55) "all_items" = true)
    (k0 : PySem.W.keepIn K (.ref 56) = true)
    (a1 : PySem.W.findIn K (.ref Ca0) "__init__" = some (some (.ref 68)))
    (i1 : PySem.W.isFn K (.ref 68) = true)
    (l1 : K.lookup 68 = some ⟨oc1, od1, .func (PySem.W.fnOf "__init__" "Promise.__init__" (defArgs s1) (defBody s1) (defScope s1) .none kV1 dc1 pm1 an1 (.ref 67) ct1), sl1⟩)
    (c1 : PySem.W.codeIn K (.ref 67) "Promise.__init__" = true)
    (k1 : PySem.W.keepIn K (.ref 68) = true)
    (a2 : PySem.W.nsIn K mainGlobals "_law_cell" = some (some (.ref 82)))
    (l2 : K.lookup 82 = some ⟨oc2, od2, .func (PySem.W.fnOf "_law_cell" "_law_cell" (defArgs s2) (defBody s2) (defScope s2) .none kV2 dc2 pm2 an2 (.ref 81) ct2), sl2⟩)
    (c2 : PySem.W.codeIn K (.ref 81) "_law_cell" = true)
    (k2 : PySem.W.keepIn K (.ref 82) = true)
    (a3 : PySem.W.nsIn K mainGlobals "_law_row" = some (some (.ref 89)))
    (l3 : K.lookup 89 = some ⟨oc3, od3, .func (PySem.W.fnOf "_law_row" "_law_row" (defArgs s3) (defBody s3) (defScope s3) .none kV3 dc3 pm3 an3 (.ref 88) ct3), sl3⟩)
    (c3 : PySem.W.codeIn K (.ref 88) "_law_row" = true)
    (k3 : PySem.W.keepIn K (.ref 89) = true)
    (a4 : PySem.W.nsIn K mainGlobals "_law_word" = some (some (.ref 96)))
    (l4 : K.lookup 96 = some ⟨oc4, od4, .func (PySem.W.fnOf "_law_word" "_law_word" (defArgs s4) (defBody s4) (defScope s4) .none kV4 dc4 pm4 an4 (.ref 95) ct4), sl4⟩)
    (c4 : PySem.W.codeIn K (.ref 95) "_law_word" = true)
    (k4 : PySem.W.keepIn K (.ref 96) = true)
    (a5 : PySem.W.nsIn K mainGlobals "_law_words" = some (some (.ref 103)))
    (l5 : K.lookup 103 = some ⟨oc5, od5, .func (PySem.W.fnOf "_law_words" "_law_words" (defArgs s5) (defBody s5) (defScope s5) .none kV5 dc5 pm5 an5 (.ref 102) ct5), sl5⟩)
    (c5 : PySem.W.codeIn K (.ref 102) "_law_words" = true)
    (k5 : PySem.W.keepIn K (.ref 103) = true)
    (a6 : PySem.W.nsIn K mainGlobals "_law_names" = some (some (.ref 110)))
    (l6 : K.lookup 110 = some ⟨oc6, od6, .func (PySem.W.fnOf "_law_names" "_law_names" (defArgs s6) (defBody s6) (defScope s6) .none kV6 dc6 pm6 an6 (.ref 109) ct6), sl6⟩)
    (c6 : PySem.W.codeIn K (.ref 109) "_law_names" = true)
    (k6 : PySem.W.keepIn K (.ref 110) = true)
    (a7 : PySem.W.nsIn K mainGlobals "_law_items" = some (some (.ref 115)))
    (l7 : K.lookup 115 = some ⟨oc7, od7, .func (PySem.W.fnOf "_law_items" "_law_items" (defArgs s7) (defBody s7) (defScope s7) .none kV7 dc7 pm7 an7 (.ref 114) ct7), sl7⟩)
    (c7 : PySem.W.codeIn K (.ref 114) "_law_items" = true)
    (k7 : PySem.W.keepIn K (.ref 115) = true)
    (a8 : PySem.W.nsIn K mainGlobals "_law_wrong" = some (some (.ref 122)))
    (l8 : K.lookup 122 = some ⟨oc8, od8, .func (PySem.W.fnOf "_law_wrong" "_law_wrong" (defArgs s8) (defBody s8) (defScope s8) .none kV8 dc8 pm8 an8 (.ref 121) ct8), sl8⟩)
    (c8 : PySem.W.codeIn K (.ref 121) "_law_wrong" = true)
    (k8 : PySem.W.keepIn K (.ref 122) = true)
    (a9 : PySem.W.nsIn K mainGlobals "law" = some (some (.ref 127)))
    (l9 : K.lookup 127 = some ⟨oc9, od9, .func (PySem.W.fnOf "law" "law" (defArgs s9) (defBody s9) (defScope s9) .none kV9 dc9 pm9 an9 (.ref 126) ct9), sl9⟩)
    (c9 : PySem.W.codeIn K (.ref 126) "law" = true)
    (k9 : PySem.W.keepIn K (.ref 127) = true)
    (pg0 : PySem.W.plainGet K Ca0 Str.empty = true)
    (hd0 : PySem.W.hasDictIn K Ca0 = true)
    (po0 : PySem.W.plainOver K Ca0 = true)
    (sa0 : PySem.W.findIn K (.ref Ca0) "__setattr__" = some (some (.builtin "object.__setattr__")))
    (mk0 : PySem.W.makesIn K Ca0 = true)
    (kc0 : PySem.W.keepIn K (.ref Ca0) = true)
    (nf0_0 : PySem.W.findIn K (.ref Ca0) "names" = some none)
    (nf0_1 : PySem.W.findIn K (.ref Ca0) "entries" = some none)
    (aE0 : PySem.W.nsIn K mainGlobals "OrderError" = some (some (.ref Ea0)))
    (aE1 : PySem.W.nsIn K mainGlobals "InvalidCase" = some (some (.ref Ea1)))
    (aE2 : PySem.W.nsIn K mainGlobals "InvalidPromise" = some (some (.ref Ea2)))
    (xg0 : PySem.W.findIn K (.ref Ea0) "__getattribute__" = some (some (.builtin "BaseException.__getattribute__")))
    (xk0 : PySem.W.findIn K (.ref Ea0) "__getattr__" = some none)
    (xs0 : PySem.W.subIn K (.ref Ea0) (.type "BaseException") = some true)
    (xd0 : PySem.W.hasDictIn K Ea0 = true)
    (xa0 : PySem.W.findIn K (.ref Ea0) "__class__" = some (some (.builtin "object.__class__")))
    (xm0 : PySem.W.mroIn K Ea0 (.type "object") = some true)
    (xp0 : PySem.W.keepIn K (.ref Ea0) = true)
    (xt0 : PySem.W.typeIn K (.ref Ea0) = some (.type "type"))
    (xx0 : PySem.W.excIn K Ea0 [.type "ValueError", .type "Exception", .type "BaseException", .type "object"] "ValueError.__new__" = true)
    (xg1 : PySem.W.findIn K (.ref Ea1) "__getattribute__" = some (some (.builtin "BaseException.__getattribute__")))
    (xk1 : PySem.W.findIn K (.ref Ea1) "__getattr__" = some none)
    (xs1 : PySem.W.subIn K (.ref Ea1) (.type "BaseException") = some true)
    (xd1 : PySem.W.hasDictIn K Ea1 = true)
    (xa1 : PySem.W.findIn K (.ref Ea1) "__class__" = some (some (.builtin "object.__class__")))
    (xm1 : PySem.W.mroIn K Ea1 (.type "object") = some true)
    (xp1 : PySem.W.keepIn K (.ref Ea1) = true)
    (xt1 : PySem.W.typeIn K (.ref Ea1) = some (.type "type"))
    (xx1 : PySem.W.excIn K Ea1 [.type "ValueError", .type "Exception", .type "BaseException", .type "object"] "ValueError.__new__" = true)
    (xg2 : PySem.W.findIn K (.ref Ea2) "__getattribute__" = some (some (.builtin "BaseException.__getattribute__")))
    (xk2 : PySem.W.findIn K (.ref Ea2) "__getattr__" = some none)
    (xs2 : PySem.W.subIn K (.ref Ea2) (.type "BaseException") = some true)
    (xd2 : PySem.W.hasDictIn K Ea2 = true)
    (xa2 : PySem.W.findIn K (.ref Ea2) "__class__" = some (some (.builtin "object.__class__")))
    (xm2 : PySem.W.mroIn K Ea2 (.type "object") = some true)
    (xp2 : PySem.W.keepIn K (.ref Ea2) = true)
    (xt2 : PySem.W.typeIn K (.ref Ea2) = some (.type "type"))
    (xx2 : PySem.W.excIn K Ea2 [.type "ValueError", .type "Exception", .type "BaseException", .type "object"] "ValueError.__new__" = true)
    (xn : PySem.W.specialIn K (.builtin "object.__class__") "__get__" = some (some (.builtin "getset_descriptor.__get__")))
    (xT : PySem.W.takesIn K (.builtin "object.__class__") = some true)
    (ky0_0 : PySem.W.kitOne K (.ref Ea0) (.ref Ea0) = some true)
    (kx0_0 : PySem.W.exmOne K (.ref Ea0) (.ref Ea0) = some true)
    (ky1_0 : PySem.W.kitOne K (.ref Ea1) (.ref Ea0) = some true)
    (kx1_0 : PySem.W.exmOne K (.ref Ea1) (.ref Ea0) = some true)
    (ky2_0 : PySem.W.kitOne K (.ref Ea2) (.ref Ea0) = some true)
    (kx2_0 : PySem.W.exmOne K (.ref Ea2) (.ref Ea0) = some true)
    (ky1_1 : PySem.W.kitOne K (.ref Ea1) (.ref Ea1) = some true)
    (kx1_1 : PySem.W.exmOne K (.ref Ea1) (.ref Ea1) = some true)
    (kn0_1 : PySem.W.kitOne K (.ref Ea0) (.ref Ea1) = some false)
    (kn2_1 : PySem.W.kitOne K (.ref Ea2) (.ref Ea1) = some false)
    (ky2_2 : PySem.W.kitOne K (.ref Ea2) (.ref Ea2) = some true)
    (kx2_2 : PySem.W.exmOne K (.ref Ea2) (.ref Ea2) = some true)
    (kn0_2 : PySem.W.kitOne K (.ref Ea0) (.ref Ea2) = some false)
    (kn1_2 : PySem.W.kitOne K (.ref Ea1) (.ref Ea2) = some false)
    (bl0 : PySem.W.nsIn K mainGlobals "len" = some none)
    (bl1 : PySem.W.nsIn K mainGlobals "int" = some none)
    (bl2 : PySem.W.nsIn K mainGlobals "str" = some none)
    (bl3 : PySem.W.nsIn K mainGlobals "tuple" = some none)
    (bl4 : PySem.W.nsIn K mainGlobals "list" = some none)
    (bl5 : PySem.W.nsIn K mainGlobals "bool" = some none)
    (bl6 : PySem.W.nsIn K mainGlobals "dict" = some none)
    (bl7 : PySem.W.nsIn K mainGlobals "isinstance" = some none)
    (bl8 : PySem.W.nsIn K mainGlobals "range" = some none)
    (bl9 : PySem.W.nsIn K mainGlobals "enumerate" = some none)
    (bl10 : PySem.W.nsIn K mainGlobals "zip" = some none)
    (bl11 : PySem.W.nsIn K mainGlobals "reversed" = some none)
    (bl12 : PySem.W.nsIn K mainGlobals "any" = some none)
    (bl13 : PySem.W.nsIn K mainGlobals "all" = some none)
    (bl14 : PySem.W.nsIn K mainGlobals "sorted" = some none)
    (bl15 : PySem.W.nsIn K mainGlobals "repr" = some none)
    (bl16 : PySem.W.nsIn K mainGlobals "max" = some none)
    (bl17 : PySem.W.nsIn K mainGlobals "min" = some none)
    (t1 : PySem.W.codeHdIn K 67 65 = true)
    (u1 : K.lookup 65 = none)
    : ∃ (K : PySem.W.Frag) (cs : List (Addr × Addr)), K.In h ∧ (∀ p ∈ cs, h.get? p.2 = some { cls := .none, data := .fields #[] }) ∧ (∀ p ∈ cs, K.lookup p.2 = none) ∧ (∀ p ∈ cs, PySem.W.CodeHd h p.1 p.2) ∧
      ∀ base : Heap, K.In base → base.Ns mainGlobals mg → (∀ p ∈ cs, GxR.TabB base mg p.1 p.2) → LawG P w K mg fa cs 63 base := by
  have e := hfa.symm.trans (PySem.W.mg_of X G a9)
  cases e
  refine ⟨K, [(67, 65)], X, (forall_c (KT 65 (by decide)) forall_n), (forall_c u1 forall_n), (forall_c (PySem.W.codeHd_of_K X t1) forall_n), fun base B1 B2 B3 => ?_⟩
  let cl : Nat → Addr := fun j => match j with | 0 => Ca0 | _ => Ca0
  let ec : Nat → Addr := fun j => [Ea0, Ea1, Ea2].getD j Ea0
  let c : C0 := ⟨⟨K, cl, [65], ec⟩, P, w, mg, base, _root_.K.gv⟩
  let RR : List Rw := R (PySem.W.fnOf "all_items" "all_items" (defArgs s0) (defBody s0) (defScope s0) .none kV0 dc0 pm0 an0 (.ref 55) ct0) (PySem.W.fnOf "__init__" "Promise.__init__" (defArgs s1) (defBody s1) (defScope s1) .none kV1 dc1 pm1 an1 (.ref 67) ct1) (PySem.W.fnOf "_law_cell" "_law_cell" (defArgs s2) (defBody s2) (defScope s2) .none kV2 dc2 pm2 an2 (.ref 81) ct2) (PySem.W.fnOf "_law_row" "_law_row" (defArgs s3) (defBody s3) (defScope s3) .none kV3 dc3 pm3 an3 (.ref 88) ct3) (PySem.W.fnOf "_law_word" "_law_word" (defArgs s4) (defBody s4) (defScope s4) .none kV4 dc4 pm4 an4 (.ref 95) ct4) (PySem.W.fnOf "_law_words" "_law_words" (defArgs s5) (defBody s5) (defScope s5) .none kV5 dc5 pm5 an5 (.ref 102) ct5) (PySem.W.fnOf "_law_names" "_law_names" (defArgs s6) (defBody s6) (defScope s6) .none kV6 dc6 pm6 an6 (.ref 109) ct6) (PySem.W.fnOf "_law_items" "_law_items" (defArgs s7) (defBody s7) (defScope s7) .none kV7 dc7 pm7 an7 (.ref 114) ct7) (PySem.W.fnOf "_law_wrong" "_law_wrong" (defArgs s8) (defBody s8) (defScope s8) .none kV8 dc8 pm8 an8 (.ref 121) ct8) (PySem.W.fnOf "law" "law" (defArgs s9) (defBody s9) (defScope s9) .none kV9 dc9 pm9 an9 (.ref 126) ct9)
  have V : Env1 c RR ce := {
    bl := (forall_c (PySem.W.mg_none_of X G bl0) (forall_c (PySem.W.mg_none_of X G bl1) (forall_c (PySem.W.mg_none_of X G bl2) (forall_c (PySem.W.mg_none_of X G bl3) (forall_c (PySem.W.mg_none_of X G bl4) (forall_c (PySem.W.mg_none_of X G bl5) (forall_c (PySem.W.mg_none_of X G bl6) (forall_c (PySem.W.mg_none_of X G bl7) (forall_c (PySem.W.mg_none_of X G bl8) (forall_c (PySem.W.mg_none_of X G bl9) (forall_c (PySem.W.mg_none_of X G bl10) (forall_c (PySem.W.mg_none_of X G bl11) (forall_c (PySem.W.mg_none_of X G bl12) (forall_c (PySem.W.mg_none_of X G bl13) (forall_c (PySem.W.mg_none_of X G bl14) (forall_c (PySem.W.mg_none_of X G bl15) (forall_c (PySem.W.mg_none_of X G bl16) (forall_c (PySem.W.mg_none_of X G bl17) forall_n))))))))))))))))))
    fn := fun x j np hl => by
      have z : ∀ p ∈ fs, ∃ r, RR[p.2.1]? = some r ∧ r.np = p.2.2 ∧ r.is = [] ∧ mg p.1 = some (.ref r.f) := (forall_c ⟨_, rfl, rfl, rfl, PySem.W.mg_of X G a0⟩ (forall_c ⟨_, rfl, rfl, rfl, PySem.W.mg_of X G a2⟩ (forall_c ⟨_, rfl, rfl, rfl, PySem.W.mg_of X G a3⟩ (forall_c ⟨_, rfl, rfl, rfl, PySem.W.mg_of X G a4⟩ (forall_c ⟨_, rfl, rfl, rfl, PySem.W.mg_of X G a5⟩ (forall_c ⟨_, rfl, rfl, rfl, PySem.W.mg_of X G a6⟩ (forall_c ⟨_, rfl, rfl, rfl, PySem.W.mg_of X G a7⟩ (forall_c ⟨_, rfl, rfl, rfl, PySem.W.mg_of X G a8⟩ (forall_c ⟨_, rfl, rfl, rfl, PySem.W.mg_of X G a9⟩ forall_n)))))))))
      exact z _ (lk_mem hl)
    cl := fun x k j np hl => by
      have z : ∀ p ∈ cs, ∃ r, RR[p.2.2.1]? = some r ∧ r.np = p.2.2.2 ∧ r.is = [0] ∧ L2.Mk K (cl p.2.1) r.f ∧ mg p.1 = some (.ref (cl p.2.1)) := (forall_c ⟨_, rfl, rfl, rfl, ⟨mk0, a1, i1, kc0⟩, PySem.W.mg_of X G aC0⟩ forall_n)
      exact z _ (lk_mem hl)
    gl := fun x j hl => nomatch hl
    ex := fun x j ys ns hl => by
      have z : ∀ p ∈ es, mg p.1 = some (.ref (ec p.2.1)) ∧ (∀ a ∈ p.2.2.1 ++ p.2.2.2, L2.ExcC K (ec a)) ∧ (∀ a ∈ p.2.2.1, PySem.W.kitOne K (.ref (ec a)) (.ref (ec p.2.1)) = some true) ∧ (∀ a ∈ p.2.2.1, PySem.W.exmOne K (.ref (ec a)) (.ref (ec p.2.1)) = some true) ∧ ∀ a ∈ p.2.2.2, PySem.W.kitOne K (.ref (ec a)) (.ref (ec p.2.1)) = some false := (forall_c ⟨PySem.W.mg_of X G aE0, (forall_c (⟨xg0, xk0, xs0, xd0, xa0, xn, xT, xm0⟩ : L2.ExcC K Ea0) (forall_c (⟨xg1, xk1, xs1, xd1, xa1, xn, xT, xm1⟩ : L2.ExcC K Ea1) (forall_c (⟨xg2, xk2, xs2, xd2, xa2, xn, xT, xm2⟩ : L2.ExcC K Ea2) forall_n))), (forall_c ky0_0 (forall_c ky1_0 (forall_c ky2_0 forall_n))), (forall_c kx0_0 (forall_c kx1_0 (forall_c kx2_0 forall_n))), forall_n⟩ (forall_c ⟨PySem.W.mg_of X G aE1, (forall_c (⟨xg1, xk1, xs1, xd1, xa1, xn, xT, xm1⟩ : L2.ExcC K Ea1) (forall_c (⟨xg0, xk0, xs0, xd0, xa0, xn, xT, xm0⟩ : L2.ExcC K Ea0) (forall_c (⟨xg2, xk2, xs2, xd2, xa2, xn, xT, xm2⟩ : L2.ExcC K Ea2) forall_n))), (forall_c ky1_1 forall_n), (forall_c kx1_1 forall_n), (forall_c kn0_1 (forall_c kn2_1 forall_n))⟩ (forall_c ⟨PySem.W.mg_of X G aE2, (forall_c (⟨xg2, xk2, xs2, xd2, xa2, xn, xT, xm2⟩ : L2.ExcC K Ea2) (forall_c (⟨xg0, xk0, xs0, xd0, xa0, xn, xT, xm0⟩ : L2.ExcC K Ea0) (forall_c (⟨xg1, xk1, xs1, xd1, xa1, xn, xT, xm1⟩ : L2.ExcC K Ea1) forall_n))), (forall_c ky2_2 forall_n), (forall_c kx2_2 forall_n), (forall_c kn0_2 (forall_c kn1_2 forall_n))⟩ forall_n)))
      exact z _ (lk_mem hl)
    rs := fun a ha => by
      have z : ∀ a ∈ ([0, 1, 2] : List Nat), (∃ (B newId initId : String) (bmB : List Value), ExcBaseFacts B newId initId bmB ∧ PySem.W.excIn K (ec a) bmB newId = true) ∧ PySem.W.keepIn K (.ref (ec a)) = true ∧ PySem.W.subIn K (.ref (ec a)) (.type "BaseException") = some true ∧ PySem.W.typeIn K (.ref (ec a)) = some (.type "type") := (forall_c ⟨⟨_, _, _, _, PySem.F.excBase_ValueError, xx0⟩, xp0, xs0, xt0⟩ (forall_c ⟨⟨_, _, _, _, PySem.F.excBase_ValueError, xx1⟩, xp1, xs1, xt1⟩ (forall_c ⟨⟨_, _, _, _, PySem.F.excBase_ValueError, xx2⟩, xp2, xs2, xt2⟩ forall_n)))
      exact z a ha
    fa := fun k => match k with
      | 0 => ⟨pg0, hd0, po0, sa0⟩
      | _ + 1 => ⟨pg0, hd0, po0, sa0⟩
    fb := fun x hx k => by
      have z : ∀ x ∈ fl, ∀ k, L2.NoAttr K (cl k) x := (forall_c (fun k => match k with
      | 0 => nf0_0
      | _ + 1 => nf0_0) (forall_c (fun k => match k with
      | 0 => nf0_1
      | _ + 1 => nf0_1) forall_n))
      exact z x hx k }
  have hM : ∀ r ∈ RR, RwOk c r := (forall_c ⟨⟨_, _, _, _, _, _, _, _, _, rfl, l0, c0, fun cc P e => by first | (cases e; rfl) | cases e⟩, L2.Binds.all (fun us hl => match us, hl with | [_], _ => rfl), k0, fun cc P e => by cases e⟩ (forall_c ⟨⟨_, _, _, _, _, _, _, _, _, rfl, l1, c1, fun cc P e => by first | (cases e; rfl) | cases e⟩, L2.Binds.all (fun us hl => match us, hl with | [_, _, _], _ => rfl), k1, fun cc P e => by cases e; exact ⟨B3 (67, 65) (by decide), (by decide : 65 ∈ ([65] : List Nat))⟩⟩ (forall_c ⟨⟨_, _, _, _, _, _, _, _, _, rfl, l2, c2, fun cc P e => by first | (cases e; rfl) | cases e⟩, L2.Binds.all (fun us hl => match us, hl with | [_, _], _ => rfl), k2, fun cc P e => by cases e⟩ (forall_c ⟨⟨_, _, _, _, _, _, _, _, _, rfl, l3, c3, fun cc P e => by first | (cases e; rfl) | cases e⟩, L2.Binds.all (fun us hl => match us, hl with | [_, _], _ => rfl), k3, fun cc P e => by cases e⟩ (forall_c ⟨⟨_, _, _, _, _, _, _, _, _, rfl, l4, c4, fun cc P e => by first | (cases e; rfl) | cases e⟩, L2.Binds.all (fun us hl => match us, hl with | [_], _ => rfl), k4, fun cc P e => by cases e⟩ (forall_c ⟨⟨_, _, _, _, _, _, _, _, _, rfl, l5, c5, fun cc P e => by first | (cases e; rfl) | cases e⟩, L2.Binds.all (fun us hl => match us, hl with | [_, _], _ => rfl), k5, fun cc P e => by cases e⟩ (forall_c ⟨⟨_, _, _, _, _, _, _, _, _, rfl, l6, c6, fun cc P e => by first | (cases e; rfl) | cases e⟩, L2.Binds.all (fun us hl => match us, hl with | [_], _ => rfl), k6, fun cc P e => by cases e⟩ (forall_c ⟨⟨_, _, _, _, _, _, _, _, _, rfl, l7, c7, fun cc P e => by first | (cases e; rfl) | cases e⟩, L2.Binds.all (fun us hl => match us, hl with | [_], _ => rfl), k7, fun cc P e => by cases e⟩ (forall_c ⟨⟨_, _, _, _, _, _, _, _, _, rfl, l8, c8, fun cc P e => by first | (cases e; rfl) | cases e⟩, L2.Binds.all (fun us hl => match us, hl with | [_, _, _], _ => rfl), k8, fun cc P e => by cases e⟩ (forall_c ⟨⟨_, _, _, _, _, _, _, _, _, rfl, l9, c9, fun cc P e => by first | (cases e; rfl) | cases e⟩, L2.Binds.all (fun us hl => match us, hl with | [_], _ => rfl), k9, fun cc P e => by cases e⟩ forall_n))))))))))
  have hT : ∀ r ∈ RR, RwTx ce r := (forall_c (tx0 _) (forall_c (tx1 _) (forall_c (tx2 _) (forall_c (tx3 _) (forall_c (tx4 _) (forall_c (tx5 _) (forall_c (tx6 _) (forall_c (tx7 _) (forall_c (tx8 _) (forall_c (tx9 _) forall_n))))))))))
  have g := all_G V hM hT 6 9 (r9 _) rfl
  refine ⟨⟨c.at (tblOf RR) 6, 18, 9, _, "_law_script", rfl, rfl, rfl, rfl, rfl, rfl, ⟨g.len, g.run⟩, ⟨rfl, by decide, by decide⟩, L2.Binds.all (fun us hl => match us, hl with | [_], _ => rfl), fun ns hn _ => ?_⟩⟩
  have e6 : (c.at (tblOf RR) 6).Φ = PhiN (tblOf RR) _root_.K.gv 6 := rfl
  have e7 : tblOf RR = _root_.K.T := tblR _ _ _ _ _ _ _ _ _ _
  rw [e6, e7]
  exact _root_.K.phi_law (by decide) ns hn
end F
open PySem PySem.W PyProof.Rows
open_top hd8 for PySem.Challenge.rw_orderneed_k07_items_and_promises
set_option maxRecDepth 100000 in
set_option maxHeartbeats 0 in
theorem PySem.Challenge.cw_orderneed_k07_items_and_promises_holds : PySem.Challenge.rw_orderneed_k07_items_and_promises.Holds := by
  w_on; o_law
  o_head (PySem.W.kmHook hd8.heap_39 [2, 3, 6, 15, 22, 23, 24, 25, 28, 35, 36, 37, 40, 47, 48, 49, 52, 55, 56, 64, 67, 68, 69, 70, 71, 72, 73, 76, 78, 79, 81, 82, 83, 85, 86, 88, 89, 90, 92, 93, 95, 96, 97, 99, 100, 102, 103, 104, 106, 107, 109, 110, 111, 114, 115, 116, 118, 119, 121, 122, 123, 126, 127] (fun _ => by kernel_rfl) [65])
  (case hw => w_witness2)
  k_fill
  refine Pu.walk_G (l := PySem.Challenge.rw_orderneed_k07_items_and_promises) rfl (by decide) rfl ?F
  case F =>
    intro w mg fa h Y G hmg
    have KX := PySem.W.km_in_of Y
    have KT := PySem.W.km_tabs_of Y
    refine' F.all_mk KX KT G hmg ?aC0 ?a0 ?l0 ?c0 ?k0 ?a1 ?i1 ?l1 ?c1 ?k1 ?a2 ?l2 ?c2 ?k2 ?a3 ?l3 ?c3 ?k3 ?a4 ?l4 ?c4 ?k4 ?a5 ?l5 ?c5 ?k5 ?a6 ?l6 ?c6 ?k6 ?a7 ?l7 ?c7 ?k7 ?a8 ?l8 ?c8 ?k8 ?a9 ?l9 ?c9 ?k9 ?pg0 ?hd0 ?po0 ?sa0 ?mk0 ?kc0 ?nf0_0 ?nf0_1 ?aE0 ?aE1 ?aE2 ?xg0 ?xk0 ?xs0 ?xd0 ?xa0 ?xm0 ?xp0 ?xt0 ?xx0 ?xg1 ?xk1 ?xs1 ?xd1 ?xa1 ?xm1 ?xp1 ?xt1 ?xx1 ?xg2 ?xk2 ?xs2 ?xd2 ?xa2 ?xm2 ?xp2 ?xt2 ?xx2 ?xn ?xT ?ky0_0 ?kx0_0 ?ky1_0 ?kx1_0 ?ky2_0 ?kx2_0 ?ky1_1 ?kx1_1 ?kn0_1 ?kn2_1 ?ky2_2 ?kx2_2 ?kn0_2 ?kn1_2 ?bl0 ?bl1 ?bl2 ?bl3 ?bl4 ?bl5 ?bl6 ?bl7 ?bl8 ?bl9 ?bl10 ?bl11 ?bl12 ?bl13 ?bl14 ?bl15 ?bl16 ?bl17 ?t1 ?u1
    (case aC0 => k_is)
    (case a0 => k_is)
    (case l0 => k_is)
    (case c0 => k_is)
    (case k0 => k_is)
    (case a1 => k_is)
    (case i1 => k_is)
    (case l1 => k_is)
    (case c1 => k_is)
    (case k1 => k_is)
    (case a2 => k_is)
    (case l2 => k_is)
    (case c2 => k_is)
    (case k2 => k_is)
    (case a3 => k_is)
    (case l3 => k_is)
    (case c3 => k_is)
    (case k3 => k_is)
    (case a4 => k_is)
    (case l4 => k_is)
    (case c4 => k_is)
    (case k4 => k_is)
    (case a5 => k_is)
    (case l5 => k_is)
    (case c5 => k_is)
    (case k5 => k_is)
    (case a6 => k_is)
    (case l6 => k_is)
    (case c6 => k_is)
    (case k6 => k_is)
    (case a7 => k_is)
    (case l7 => k_is)
    (case c7 => k_is)
    (case k7 => k_is)
    (case a8 => k_is)
    (case l8 => k_is)
    (case c8 => k_is)
    (case k8 => k_is)
    (case a9 => k_is)
    (case l9 => k_is)
    (case c9 => k_is)
    (case k9 => k_is)
    (case pg0 => k_is)
    (case hd0 => k_is)
    (case po0 => k_is)
    (case sa0 => k_is)
    (case mk0 => k_is)
    (case kc0 => k_is)
    (case nf0_0 => k_is)
    (case nf0_1 => k_is)
    (case aE0 => k_is)
    (case aE1 => k_is)
    (case aE2 => k_is)
    (case xg0 => k_is)
    (case xk0 => k_is)
    (case xs0 => k_is)
    (case xd0 => k_is)
    (case xa0 => k_is)
    (case xm0 => k_is)
    (case xp0 => k_is)
    (case xt0 => k_is)
    (case xx0 => k_exc)
    (case xg1 => k_is)
    (case xk1 => k_is)
    (case xs1 => k_is)
    (case xd1 => k_is)
    (case xa1 => k_is)
    (case xm1 => k_is)
    (case xp1 => k_is)
    (case xt1 => k_is)
    (case xx1 => k_exc)
    (case xg2 => k_is)
    (case xk2 => k_is)
    (case xs2 => k_is)
    (case xd2 => k_is)
    (case xa2 => k_is)
    (case xm2 => k_is)
    (case xp2 => k_is)
    (case xt2 => k_is)
    (case xx2 => k_exc)
    (case xn => k_is)
    (case xT => k_is)
    (case ky0_0 => first | k_is | rfl)
    (case kx0_0 => first | k_is | rfl)
    (case ky1_0 => first | k_is | rfl)
    (case kx1_0 => first | k_is | rfl)
    (case ky2_0 => first | k_is | rfl)
    (case kx2_0 => first | k_is | rfl)
    (case ky1_1 => first | k_is | rfl)
    (case kx1_1 => first | k_is | rfl)
    (case kn0_1 => first | k_is | rfl)
    (case kn2_1 => first | k_is | rfl)
    (case ky2_2 => first | k_is | rfl)
    (case kx2_2 => first | k_is | rfl)
    (case kn0_2 => first | k_is | rfl)
    (case kn1_2 => first | k_is | rfl)
    (case bl0 => k_is)
    (case bl1 => k_is)
    (case bl2 => k_is)
    (case bl3 => k_is)
    (case bl4 => k_is)
    (case bl5 => k_is)
    (case bl6 => k_is)
    (case bl7 => k_is)
    (case bl8 => k_is)
    (case bl9 => k_is)
    (case bl10 => k_is)
    (case bl11 => k_is)
    (case bl12 => k_is)
    (case bl13 => k_is)
    (case bl14 => k_is)
    (case bl15 => k_is)
    (case bl16 => k_is)
    (case bl17 => k_is)
    (case t1 => kernel_rfl)
    (case u1 => kernel_rfl)

